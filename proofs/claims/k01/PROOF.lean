import PyProof.Rows.All
import Wide.All
import OpenK.AllK
import Wide.FinOn
import PySem.Challenge.RW_namedmoments_k01_whole_curves_judged
import HandS.Lambda
import HandS.ForMost
import HandS.Exc
import HandS.Dict
import KE.KDictKeyed
import KE.KDictWalk
import KE.KeyNested
import HandS.Iter
import HandS.Nested
import HandS.ExcInit
import HandS.IsInst
import HandS.TupAny
import HandS.Wide
import HandS.ExcOwn
import HandS.WordsExc
import HandS.Defaults
import HandS.WideBits
import HandS.Conv
import HandS.Style
import HandS.Strs
import HandS.Ends
import HandS.EndBits
import HandS.HeadEnd
import PyProof.ReprLen
import HandS.DictComp
import KE.KDictDisplayH
import HandS.SortOrd
import HandS.SortRule
import HandS.Keys
import KE.KEqDict
import KE.KDictOf
import HandS.Small
import HandS.Zip
import PyProof.EnumMake
import PyProof.Draws
import KE.KEqNest
import PyProof.NeKinds
import KE.SortKeyHeap
import KE.KLam
import HandS.SortKw
import KE.KExcSuper
import KE.KIsAll
import HandS.ExcValue
import HandS.ExcField
import HandS.ExcIs
import KE.KExcIs
import HandS.More
import KE.KSortKey
import HandS.Head0
import HandS.Head1
import HandS.Head2
import HandS.HeadHook1
import HandS.HeadHook2
import PyProof.InstNe
import HandS.EndTab
set_option Elab.async false
set_option linter.all false
set_option maxRecDepth 100000
set_option maxHeartbeats 0
/-! from PLD.lean -/
section
/-! PLD: dicts whose keys are tuples of ints, texts and such tuples: by the hand layer's heap. -/
namespace PL
open PySem PySem.Spec PyProof.Rows L2

/-- an entry: the key, where it stands, its value -/
abbrev NE := NestedKey × Addr × V
abbrev NX := NestedKey × Addr × Value
def RelE (p : NE) (x : NX) : Prop := p.1 = x.1 ∧ p.2.1 = x.2.1 ∧ RelV p.2.2 x.2.2
def entry (w : World) (x : NX) : DictEntry := ⟨x.1.hash w, .ref x.2.1, x.2.2⟩
/-- such a dict stands at a, ep its count of changes -/
def NdAt (w : World) (a : Addr) (es : List NE) (ep : Nat) (h : Heap) : Prop := (a == sysModules) = false ∧ es.length ≤ sizeLine ∧ (es.map (·.1)).Nodup ∧
  ∃ (xs : List NX) (o : Obj) (ds : Array DictEntry), Paired RelE es xs ∧ h.get? a = some o ∧ o.ExactDict ∧ o.data = .dict ds ep ∧ ds.toList = xs.map (entry w)
def ndH (w : World) (a : Addr) (es : List NE) (ep : Nat) : HO := .ext (NdAt w a es ep)
theorem ndH_ok {P : Program} {w w' : World} {H : Hp} {h : Heap} {a : Addr} {es : List NE} {ep : Nat} (R : NdAt w a es ep h) : ObjOk P w' H h a (ndH w a es ep) := by
  obtain ⟨r1, r2, r3, xs, o, ds, r4, r5, r6⟩ := id R
  exact ⟨R, ⟨o, r5⟩, fun h1 h2 ⟨q1, q2, q3, xs, o, ds, q4, q5, q6⟩ k => ⟨q1, q2, q3, xs, o, ds, q4, k o q5, q6⟩⟩
mutual
/-- v is the key k -/
def KeyV (K : PySem.W.Frag) (H : Hp) : NestedKey → V → Prop
  | .none, v => v = .non
  | .num i, v => v = .int i
  | .text x, v => v = .str x
  | .tup ks, v => ∃ a vs, v = .ref a ∧ SqT K H a vs ∧ KeyVs K H ks vs
def KeyVs (K : PySem.W.Frag) (H : Hp) : List NestedKey → List V → Prop
  | [], vs => vs = []
  | k :: ks, vs => ∃ v r, vs = v :: r ∧ KeyV K H k v ∧ KeyVs K H ks r
end
/-- where the keys stand -/
def KeysAt (K : PySem.W.Frag) (H : Hp) (es : List NE) : Prop := ∀ p ∈ es, KeyV K H p.1 (.ref p.2.1) ∧ p.1.depth ≤ 8
section
variable {X : Cx} {pins : List (Addr × Obj)} {σ : L2.St} {H : Hp} {s : Shared} {a b : Addr} {es : List NE} {ep : Nat} {k : NestedKey}
mutual
theorem key_at (I : Inv X pins σ H s) : ∀ (k : NestedKey) (v : V) (u : Value), KeyV X.K H k v → RelV v u → NestedIs s.heap k u
  | .none, v, u, h, r => by
    simp only [KeyV] at h
    subst h
    cases r
    exact .none
  | .num i, v, u, h, r => by
    simp only [KeyV] at h
    subst h
    obtain ⟨t, rfl⟩ := r
    exact .int i t
  | .text x, v, u, h, r => by
    simp only [KeyV] at h
    subst h
    obtain ⟨t, rfl⟩ := r
    exact .text x t
  | .tup ks, v, u, h, r => by
    simp only [KeyV] at h
    obtain ⟨a, vs, rfl, h1, h2⟩ := h
    obtain rfl : u = .ref a := r
    obtain ⟨its, rv, ⟨o, ho, hc, n, hd⟩, _⟩ := I.tuple h1
    exact .tup ho hc hd (by simpa using keys_at I ks vs its h2 rv)
theorem keys_at (I : Inv X pins σ H s) : ∀ (ks : List NestedKey) (vs : List V) (us : List Value), KeyVs X.K H ks vs → Vals vs us → NestedAll s.heap ks us
  | [], vs, us, h, r => by
    simp only [KeyVs] at h
    subst h
    cases r
    exact .nil
  | k :: ks, vs, us, h, r => by
    simp only [KeyVs] at h
    obtain ⟨v, q, rfl, h1, h2⟩ := h
    cases r with
    | cons r1 r2 => exact .cons (key_at I k v _ h1 r1) (keys_at I ks q _ h2 r2)
end
theorem nd_at (I : Inv X pins σ H s) (e : H a = some (ndH X.w a es ep)) : NdAt X.w a es ep s.heap := (I.hok a _ e).1
theorem key_is (I : Inv X pins σ H s) (h : KeyV X.K H k (.ref b)) (hd : k.depth ≤ 8) : (nestedKind X.prog X.w).is s.heap k b := ⟨key_at I k _ _ h rfl, hd⟩
theorem paired_mem {es : List NE} {xs : List NX} (r : Paired RelE es xs) : ∀ x ∈ xs, ∃ p ∈ es, RelE p x := by
  induction r with
  | nil => intro x hx; cases hx
  | @cons p q ps qs h t ih =>
    intro x hx
    rcases List.mem_cons.mp hx with rfl | hx
    · exact ⟨p, List.mem_cons_self .., h⟩
    · obtain ⟨p', h1, h2⟩ := ih x hx
      exact ⟨p', List.mem_cons_of_mem _ h1, h2⟩
theorem paired_keys {es : List NE} {xs : List NX} (r : Paired RelE es xs) : xs.map (·.1) = es.map (·.1) := by
  induction r with
  | nil => rfl
  | cons h t ih => rw [List.map_cons, List.map_cons, ih, h.1]
/-- as the library's dict -/
theorem nd_of (I : Inv X pins σ H s) (e : H a = some (ndH X.w a es ep)) (hk : KeysAt X.K H es) : (a == sysModules) = false ∧ es.length ≤ sizeLine ∧ ∃ xs, Paired RelE es xs ∧ s.heap.DictOfH (nestedKind X.prog X.w) a xs := by
  obtain ⟨q1, q2, q3, xs, o, ds, q4, q5, q6, q7, q8⟩ := nd_at I e
  refine ⟨q1, q2, xs, q4, o, ds, ep, q5, q6, q7, q8, fun x hx => ?_, ?_⟩
  · obtain ⟨p, hp, r1, r2, _⟩ := paired_mem q4 x hx
    obtain ⟨g1, g2⟩ := hk p hp
    rw [r1] at g1 g2
    rw [r2] at g1
    exact key_is I g1 g2
  · rw [paired_keys q4]
    exact q3
/-- what is at a key -/
def getN (es : List NE) (k : NestedKey) : Option V := (es.find? fun p => decide (p.1 = k)).map (·.2.2)
def putN (es : List NE) (k : NestedKey) (b : Addr) (v : V) : List NE := if (getN es k).isSome then es.map (fun p => if p.1 = k then (p.1, p.2.1, v) else p) else es ++ [(k, b, v)]
inductive RelOp : Option V → Option Value → Prop
  | none : RelOp none none
  | some {v u} : RelV v u → RelOp (some v) (some u)
theorem get_rel {es : List NE} {xs : List NX} (r : Paired RelE es xs) (k : NestedKey) : RelOp (getN es k) ((atKey xs k).map (·.2)) := by
  unfold getN atKey
  induction r with
  | nil => exact .none
  | @cons p q ps qs h t ih =>
    obtain ⟨h1, h2, h3⟩ := h
    rw [List.find?_cons, List.find?_cons, h1]
    by_cases z : q.1 = k
    · simp only [z, decide_true]
      exact .some h3
    · simp only [z, decide_false]
      exact ih
theorem RelOp.isSome {o : Option V} {u : Option Value} (r : RelOp o u) : o.isSome = u.isSome := by cases r <;> rfl
theorem map_rel {es : List NE} {xs : List NX} (r : Paired RelE es xs) {v : V} {u : Value} (rv : RelV v u) : Paired RelE (es.map fun p => if p.1 = k then (p.1, p.2.1, v) else p) (xs.map (putAt k u)) := by
  induction r with
  | nil => exact .nil
  | @cons p q ps qs h t ih =>
    obtain ⟨h1, h2, h3⟩ := h
    rw [List.map_cons, List.map_cons]
    refine .cons ?_ ih
    unfold putAt
    by_cases z : q.1 = k
    · rw [if_pos (h1.trans z), if_pos z]
      exact ⟨h1, h2, rv⟩
    · rw [if_neg fun y => z (h1.symm.trans y), if_neg z]
      exact ⟨h1, h2, h3⟩
theorem snoc_rel {es : List NE} {xs : List NX} (r : Paired RelE es xs) {p : NE} {q : NX} (h : RelE p q) : Paired RelE (es ++ [p]) (xs ++ [q]) := by
  induction r with
  | nil => exact .cons h .nil
  | cons h t ih => exact .cons h ih
theorem put_rel {es : List NE} {xs : List NX} (r : Paired RelE es xs) {v : V} {u : Value} (rv : RelV v u) : Paired RelE (putN es k b v) (storedH xs k b u) := by
  have g := (get_rel r k).isSome
  rw [Option.isSome_map] at g
  unfold putN storedH
  rw [g]
  split
  · exact map_rel r rv
  · exact snoc_rel r ⟨rfl, rfl, rv⟩
theorem putN_len (es : List NE) (k : NestedKey) (b : Addr) (v : V) : (putN es k b v).length ≤ es.length + 1 := by
  unfold putN
  split
  · rw [List.length_map]; omega
  · rw [List.length_append, List.length_singleton]; omega
theorem putN_nodup {es : List NE} (h : (es.map (·.1)).Nodup) (k : NestedKey) (b : Addr) (v : V) : ((putN es k b v).map (·.1)).Nodup := by
  unfold putN
  split
  · rw [List.map_map]
    have e : ((fun x : NE => x.1) ∘ fun p : NE => if p.1 = k then (p.1, p.2.1, v) else p) = fun x : NE => x.1 := by
      funext p
      show (if p.1 = k then (p.1, p.2.1, v) else p).1 = p.1
      split <;> rfl
    rw [e]
    exact h
  · rename_i g
    rw [List.map_append, List.map_cons, List.map_nil, List.nodup_append]
    refine ⟨h, by simp, fun x hx y hy => ?_⟩
    rintro rfl
    rw [List.mem_singleton.mp hy] at hx
    obtain ⟨p, hp, e⟩ := List.mem_map.mp hx
    apply g
    unfold getN
    rw [Option.isSome_map, List.find?_isSome]
    exact ⟨p, hp, decide_eq_true e⟩
/-- d[k], there -/
theorem nd_getItem {A : Around} {E : Value → Shared → Prop} {Q : Value → Shared → Prop} {v : V} (hu : A.units + 20 < cLine) (I : Inv X pins σ H s) (e : H a = some (ndH X.w a es ep)) (hk : KeysAt X.K H es) (kv : KeyV X.K H k (.ref b)) (kd : k.depth ≤ 8) (hg : getN es k = some v)
    (h : ∀ u s', Inv X pins σ H s' → RelV v u → Q u s') : wpAny (model X.prog X.w) A (getItem (.ref a) (.ref b)) Q E s := by
  obtain ⟨_, _, xs, rel, dd⟩ := nd_of I e hk
  have g := get_rel rel k
  rw [hg] at g
  cases hx : atKey xs k with
  | none =>
    rw [hx] at g
    cases g
  | some p =>
    rw [hx] at g
    cases g with
    | some r => exact wpAny_getItem_heap (show A.in1.units + 8 < cLine by show A.units + 1 + 8 < _; omega) (key_is I kv kd) dd hx (h _ _ (I.tok _) r)
/-- d.get(k, x) -/
theorem nd_getOr {A : Around} {E : Value → Shared → Prop} {Q : Value → Shared → Prop} {d : V} {r : Value} (hu : A.units + 20 < cLine) (I : Inv X pins σ H s) (e : H a = some (ndH X.w a es ep)) (hk : KeysAt X.K H es) (kv : KeyV X.K H k (.ref b)) (kd : k.depth ≤ 8) (rd : RelV d r)
    (h : ∀ u s', Inv X pins σ H s' → RelV ((getN es k).getD d) u → Q u s') : wpAny (model X.prog X.w) A (call (.builtin "dict.get") [.ref a, .ref b, r]) Q E s := by
  obtain ⟨hd, _, xs, rel, dd⟩ := nd_of I e hk
  refine call_meetsIn PySem.F.slot_dict_get dd.typeIs PySem.F.entry_dict_get (PySem.F.args_dict_get_3 _ _ _) (meetsH_dict_get_default (nestedKind X.prog X.w) a b hd r) ⟨show A.in1.units + 8 < cLine by show A.units + 1 + 8 < _; omega, k, xs, key_is I kv kd, dd, h _ _ (I.tok _) ?_⟩
  have g := get_rel rel k
  cases hx : atKey xs k with
  | none =>
    rw [hx] at g
    cases hg : getN es k with
    | none => exact rd
    | some v => rw [hg] at g; cases g
  | some p =>
    rw [hx] at g
    cases hg : getN es k with
    | none => rw [hg] at g; cases g
    | some v =>
      rw [hg] at g
      cases g with
      | some r => exact r
/-- k in d -/
theorem nd_in {A : Around} {E : Value → Shared → Prop} {Q : Value → Shared → Prop} (hu : A.units + 20 < cLine) (I : Inv X pins σ H s) (e : H a = some (ndH X.w a es ep)) (hk : KeysAt X.K H es) (kv : KeyV X.K H k (.ref b)) (kd : k.depth ≤ 8)
    (h : ∀ s', Inv X pins σ H s' → Q (.bool (getN es k).isSome) s') : wpAny (model X.prog X.w) A (compareOp .In (.ref b) (.ref a)) Q E s := by
  obtain ⟨hd, _, xs, rel, dd⟩ := nd_of I e hk
  refine wpAny_in_heap (show A.in1.units + 8 < cLine by show A.units + 1 + 8 < _; omega) (key_is I kv kd) hd dd ?_
  have g := (get_rel rel k).isSome
  rw [Option.isSome_map] at g
  rw [← g]
  exact h _ (I.tok _)
/-- d[k] = v -/
theorem nd_setItem {A : Around} {E : Value → Shared → Prop} {Q : Unit → Shared → Prop} {v : V} {r : Value} (hu : A.units + 20 < cLine) (I : Inv X pins σ H s) (e : H a = some (ndH X.w a es ep)) (hk : KeysAt X.K H es) (kv : KeyV X.K H k (.ref b)) (kd : k.depth ≤ 8) (rv : RelV v r)
    (hl : es.length < sizeLine) (h : ∀ ep' s', Inv X pins σ (upd H a (ndH X.w a (putN es k b v) ep')) s' → Q () s') : wpAny (model X.prog X.w) A (setItem (.ref a) (.ref b) r) Q E s := by
  obtain ⟨hd, hz, xs, rel, dd⟩ := nd_of I e hk
  have nd := (nd_at I e).2.2.1
  refine wpAny_setItem_heap (hsz := by rw [← Paired.length rel]; exact hz) (show A.in1.units + 8 < cLine by show A.units + 1 + 8 < _; omega) (key_is I kv kd) dd fun h' dd' hs => ?_
  obtain ⟨o, ds, ep', g1, g2, g3, g4, g5, g6⟩ := dd'
  refine h ep' _ (d_write I (by rw [e]; trivial) hs ⟨o, g1⟩ (ndH_ok ⟨hd, ?_, putN_nodup nd k b v, _, o, ds, put_rel rel rv, g1, g2, g3, g4⟩))
  have := putN_len es k b v
  omega
/-- len(d) -/
theorem nd_len {A : Around} {E : Value → Shared → Prop} {Q : Value → Shared → Prop} (I : Inv X pins σ H s) (e : H a = some (ndH X.w a es ep)) (hk : KeysAt X.K H es) (h : ∀ t s', Inv X pins σ H s' → Q (.int es.length t) s') :
    wpAny (model X.prog X.w) A (call (.builtin "dict.__len__") [.ref a]) Q E s := by
  obtain ⟨hd, _, xs, rel, dd⟩ := nd_of I e hk
  refine len_keyed hd ⟨xs, dd, rfl⟩ ?_
  rw [pairsH_length, ← Paired.length rel]
  exact h _ _ (I.tok _)
end
theorem ndH_ne {w : World} {a : Addr} {es : List NE} {ep : Nat} {ps : Array Value} : ndH w a es ep ≠ .tbl ps := fun z => by
  unfold ndH at z
  cases z
theorem ndH_nc {w : World} {a : Addr} {es : List NE} {ep : Nat} {c : Addr} {q : Str} : ndH w a es ep ≠ LamX.CodeO c q := fun z => by
  unfold ndH LamX.CodeO at z
  have z' := HO.ext.inj z
  let ob : Obj := { cls := .none, data := .fields #[.none, .str q default] }
  let h : Heap := { objs := Array.replicate (c + 1) ob }
  have hc : h.get? c = some ob := by
    unfold Heap.get?
    have : h.objs[c]? = some ob := by simp [h]
    rw [this]
  have hh : NdAt w a es ep h := by
    rw [z']
    exact ⟨ob, #[.none, .str q default], default, hc, rfl, rfl⟩
  obtain ⟨_, _, _, xs, o, ds, _, ho, _, hd, _⟩ := hh
  have : o = ob := by
    unfold Heap.get? at ho
    by_cases l : a < c + 1
    · have : h.objs[a]? = some ob := by simp [h, l]
      rw [this] at ho
      exact (Option.some.inj ho).symm
    · have : h.objs[a]? = none := by
        have hz : h.objs.size = c + 1 := by simp [h]
        exact Array.getElem?_eq_none (by rw [hz]; exact Nat.le_of_not_lt l)
      rw [this] at ho
      cases ho
  rw [this] at hd
  cases hd
end PL
end
/-! from PL0.lean -/
section
/-! PL: plain data, a plain store, and readings over these, above the hand layer. -/
namespace PL
open PySem L2 LamX NdefX

/-- a Python value, told without a heap where nothing can change it -/
inductive D where
  | non | bl (b : Bool) | int (i : Int) | str (s : Str)
  | tup (ds : List D) | lst (ds : List D)
  | obj (C : Addr) (fs : List (Str × D))
  | exc (C : Addr) (fs : List (Str × D))
  | exq (a : Addr) (d : Option Addr) (fs : List (Str × D))
  | dct (kvs : List (Key × D))
  | dcn (w : World) (kvs : List (NestedKey × D))
  | scr (ns : List Int)
  | ref (a : Addr)
  | raw (v : V)
/-- what stands at an address that may be written -/
inductive Ob where
  | lst (ds : List D)
  | dct (kvs : List (Key × D))
  | dcn (w : World) (kvs : List (NestedKey × D)) (ep : Nat)
  | ins (C : Addr) (fs : List (Str × D))
abbrev Sto := Addr → Option Ob
def Sto.put (S : Sto) (a : Addr) (o : Ob) : Sto := fun b => if b = a then some o else S b
theorem Sto.put_same {S : Sto} {a : Addr} {o : Ob} : S.put a o a = some o := if_pos rfl
theorem Sto.put_ne {S : Sto} {a b : Addr} {o : Ob} (h : b ≠ a) : S.put a o b = S b := if_neg h
theorem Sto.put_put {S : Sto} {a : Addr} {o u : Ob} : (S.put a o).put a u = S.put a u := by
  funext b; unfold Sto.put; split <;> rfl
abbrev Gm := List (Option D)

abbrev Mu := Addr → Prop
/-- no heap at all: what the written part alone tells -/
def noH : Hp := fun _ => none
theorem noH_rd {a : Addr} {u : HO} : ¬ Rd noH a u := fun h => by
  rcases h with h | ⟨o, h⟩ <;> (unfold noH at h; cases h)
def TupAt (K : PySem.W.Frag) (M : Mu) (H : Hp) (a : Addr) (vs : List V) : Prop := (H a = some (.tup vs) ∧ ¬ M a) ∨ SqT K noH a vs
def LstAt (K : PySem.W.Frag) (M : Mu) (H : Hp) (a : Addr) (vs : List V) : Prop := (Rd H a (.lst vs) ∧ ¬ M a) ∨ SqL K noH a vs
theorem TupAt.sq {K : PySem.W.Frag} {M : Mu} {H : Hp} {a : Addr} {vs : List V} (h : TupAt K M H a vs) : SqT K H a vs := by
  rcases h with h | h
  · exact .inl (.inl h.1)
  · rcases h with h | h
    · exact absurd h noH_rd
    · exact .inr h
theorem LstAt.sq {K : PySem.W.Frag} {M : Mu} {H : Hp} {a : Addr} {vs : List V} (h : LstAt K M H a vs) : SqL K H a vs := by
  rcases h with h | h
  · exact .inl h.1
  · rcases h with h | h
    · exact absurd h noH_rd
    · exact .inr h
/-- the tables of code objects, each with the names that its places have -/
class TabCtx where
  T : List NTab
/-- the tables stand, and may grow -/
def TabM [TabCtx] (M : Mu) (S : Sto) (H : Hp) : Prop := ∀ p ∈ TabCtx.T, ∃ ps : Array Value, H p.1 = some (.tbl ps) ∧ M p.1 ∧ S p.1 = none ∧ TriplesOk ps.toList ∧
  ∀ (pos : Pos) (cv : Value), codeAmong pos ps.toList = some cv → ∃ c, cv = .ref c ∧ H c = some (CodeO c (p.2 pos.line pos.col)) ∧ (¬ M c ∨ S c = none)
variable [TabCtx]
mutual
/-- v is the key k, and nobody may write it -/
def KeyD (K : PySem.W.Frag) (M : Mu) (H : Hp) : NestedKey → V → Prop
  | .none, v => v = .non
  | .num i, v => v = .int i
  | .text x, v => v = .str x
  | .tup ks, v => ∃ a vs, v = .ref a ∧ TupAt K M H a vs ∧ KeyDs K M H ks vs
def KeyDs (K : PySem.W.Frag) (M : Mu) (H : Hp) : List NestedKey → List V → Prop
  | [], vs => vs = []
  | k :: ks, vs => ∃ v r, vs = v :: r ∧ KeyD K M H k v ∧ KeyDs K M H ks r
end
mutual
theorem keyD_v {K : PySem.W.Frag} {M : Mu} {H : Hp} : ∀ (k : NestedKey) (v : V), KeyD K M H k v → KeyV K H k v
  | .none, _, h => by simpa only [KeyD, KeyV] using h
  | .num _, _, h => by simpa only [KeyD, KeyV] using h
  | .text _, _, h => by simpa only [KeyD, KeyV] using h
  | .tup ks, v, h => by
    simp only [KeyD, KeyV] at h ⊢
    obtain ⟨a, vs, e, h1, h2⟩ := h
    exact ⟨a, vs, e, h1.sq, keyDs_v ks vs h2⟩
theorem keyDs_v {K : PySem.W.Frag} {M : Mu} {H : Hp} : ∀ (ks : List NestedKey) (vs : List V), KeyDs K M H ks vs → KeyVs K H ks vs
  | [], _, h => by simpa only [KeyDs, KeyVs] using h
  | k :: ks, vs, h => by
    simp only [KeyDs, KeyVs] at h ⊢
    obtain ⟨v, r, e, h1, h2⟩ := h
    exact ⟨v, r, e, keyD_v k v h1, keyDs_v ks r h2⟩
end
mutual
/-- a key as plain data -/
def keyD : NestedKey → D
  | .none => .non
  | .num i => .int i
  | .text x => .str x
  | .tup ks => .tup (keyDL ks)
def keyDL : List NestedKey → List D
  | [] => []
  | k :: ks => keyD k :: keyDL ks
end
section
variable (K : PySem.W.Frag) (M : Mu) (H : Hp)
mutual
/-- v is d's value in the heap H; M: what may be written -/
def Den : D → V → Prop
  | .non, v => v = .non
  | .bl b, v => v = .bl b
  | .int i, v => v = .int i
  | .str s, v => v = .str s
  | .tup ds, v => ∃ a vs, v = .ref a ∧ TupAt K M H a vs ∧ DenL ds vs
  | .lst ds, v => ∃ a vs, v = .ref a ∧ H a = some (.lst vs) ∧ ¬ M a ∧ DenL ds vs
  | .obj C fs, v => ∃ a dx gs, v = .ref a ∧ H a = some (.ins C dx gs) ∧ ¬ M a ∧ DenF fs gs
  | .exc C fs, v => ∃ a dd gs, v = .ref a ∧ H a = some (exo a C dd) ∧ ¬ M a ∧ (∀ d, dd = some d → H d = some (exd d gs) ∧ ¬ M d) ∧ (dd = none → gs = []) ∧ DenF fs gs
  | .exq a d fs, v => v = .ref a ∧ ∃ gs, (∀ x, d = some x → H x = some (.xd gs) ∧ ¬ M x) ∧ (d = none → gs = []) ∧ DenF fs gs
  | .dct kvs, v => ∃ a gs, v = .ref a ∧ H a = some (.dK gs) ∧ ¬ M a ∧ DenK kvs gs
  | .dcn w kvs, v => ∃ a es ep, v = .ref a ∧ H a = some (ndH w a es ep) ∧ ¬ M a ∧ DenN kvs es
  | .scr ns, v => ∃ a, v = .ref a ∧ LstAt K M H a (ns.map V.int)
  | .ref a, v => v = .ref a
  | .raw u, v => v = u
def DenL : List D → List V → Prop
  | [], vs => vs = []
  | d :: ds, vs => ∃ v r, vs = v :: r ∧ Den d v ∧ DenL ds r
def DenF : List (Str × D) → List (Str × V) → Prop
  | [], gs => gs = []
  | (f, d) :: fs, gs => ∃ v r, gs = (f, v) :: r ∧ Den d v ∧ DenF fs r
def DenN : List (NestedKey × D) → List NE → Prop
  | [], gs => gs = []
  | (k, d) :: fs, gs => ∃ b v r, gs = (k, b, v) :: r ∧ (KeyD K M H k (.ref b) ∧ k.depth ≤ 8) ∧ Den d v ∧ DenN fs r
def DenK : List (Key × D) → List (Key × V) → Prop
  | [], gs => gs = []
  | (f, d) :: fs, gs => ∃ v r, gs = (f, v) :: r ∧ Den d v ∧ DenK fs r
end
def ObD (a : Addr) : Ob → Prop
  | .lst ds => ∃ vs, H a = some (.lst vs) ∧ DenL K M H ds vs
  | .dct kvs => ∃ gs, H a = some (.dK gs) ∧ DenK K M H kvs gs
  | .dcn w kvs ep => ∃ es, H a = some (ndH w a es ep) ∧ DenN K M H kvs es
  | .ins C fs => ∃ dx gs, H a = some (.ins C dx gs) ∧ DenF K M H fs gs
structure StD [TabCtx] (S : Sto) : Prop where
  ob : ∀ a o, S a = some o → ObD K M H a o
  mu : ∀ a, S a ≠ none → M a
  tr : ∀ a, M a → H a ≠ none
  tab : TabM M S H
def EnvD (Γ : Gm) (σ : St) : Prop := Γ.length = σ.length ∧ ∀ (i : Nat) d, Γ[i]? = some (some d) → ∃ v, σ[i]? = some (some v) ∧ Den K M H d v
end

/-- what nobody may write stands -/
def Kp (M : Mu) (H : Hp) (M' : Mu) (H' : Hp) : Prop := ∀ a o, H a = some o → ¬ M a → H' a = some o ∧ ¬ M' a
/-- from one moment to a later one: what is tracked and not in the store stands -/
structure Tr0 (K : PySem.W.Frag) (M : Mu) (S : Sto) (H : Hp) (M' : Mu) (S' : Sto) (H' : Hp) : Prop where
  keep : Kp M H M' H'
  forn : ∀ a o, H a = some o → M a → S a = none → H' a = some o ∧ M' a ∧ S' a = none
/-- .. but the tables of code objects, which may grow -/
structure Tr (K : PySem.W.Frag) (M : Mu) (S : Sto) (H : Hp) (M' : Mu) (S' : Sto) (H' : Hp) : Prop where
  keep : Kp M H M' H'
  forn : ∀ a o, H a = some o → M a → S a = none → (∀ ps, o ≠ .tbl ps) → H' a = some o ∧ M' a ∧ S' a = none
theorem Tr0.weak {K : PySem.W.Frag} {M M' : Mu} {S S' : Sto} {H H' : Hp} (t : Tr0 K M S H M' S' H') : Tr K M S H M' S' H' := ⟨t.keep, fun a o h m n _ => t.forn a o h m n⟩
/-- tables and code objects -/
def IsT (o : HO) : Prop := (∃ ps, o = .tbl ps) ∨ ∃ c q, o = CodeO c q
theorem lst_nT {vs : List V} : ¬ IsT (.lst vs) := fun h => by
  rcases h with ⟨ps, h⟩ | ⟨c, q, h⟩
  · cases h
  · unfold CodeO at h
    cases h
theorem nd_nT {w : World} {a : Addr} {es : List NE} {ep : Nat} : ¬ IsT (ndH w a es ep) := fun h => by
  rcases h with ⟨ps, h⟩ | ⟨c, q, h⟩
  · exact ndH_ne h
  · exact ndH_nc h
theorem neT {H : Hp} {p P : Addr} {o u : HO} (hu : ¬ IsT u) (hp : H p = some u) (ht : IsT o) (e : H P = some o) : P ≠ p := fun z => by
  rw [z, hp] at e
  cases e
  exact hu ht
theorem TabM.gen {M M' : Mu} {S S' : Sto} {H H' : Hp} (h : TabM M S H) (k : ∀ a o, IsT o → H a = some o → ¬ M a → H' a = some o ∧ ¬ M' a)
    (f : ∀ a o, IsT o → H a = some o → M a → S a = none → H' a = some o ∧ S' a = none ∧ ((∃ ps, o = .tbl ps) → M' a)) : TabM M' S' H' := fun p hp => by
  obtain ⟨ps, h1, h2, h3, h4, h5⟩ := h p hp
  obtain ⟨g1, g2, g3⟩ := f _ _ (.inl ⟨ps, rfl⟩) h1 h2 h3
  refine ⟨ps, g1, g3 ⟨ps, rfl⟩, g2, h4, fun pos cv hc => ?_⟩
  obtain ⟨c, e1, e2, e3⟩ := h5 pos cv hc
  by_cases hm : M c
  · obtain ⟨k1, k2, _⟩ := f _ _ (.inr ⟨c, _, rfl⟩) e2 hm (e3.resolve_left fun n => n hm)
    exact ⟨c, e1, k1, .inr k2⟩
  · obtain ⟨k1, k2⟩ := k _ _ (.inr ⟨c, _, rfl⟩) e2 hm
    exact ⟨c, e1, k1, .inl k2⟩
theorem TabM.gen2 {M M' : Mu} {S S' : Sto} {H H' : Hp} (h : TabM M S H) (k : ∀ a o, IsT o → H a = some o → ¬ M a → H' a = some o ∧ ¬ M' a)
    (f : ∀ a o, IsT o → H a = some o → M a → S a = none → H' a = some o ∧ S' a = none) (m : ∀ p ∈ TabCtx.T, M p.1 → M' p.1) : TabM M' S' H' := fun p hp => by
  obtain ⟨ps, h1, h2, h3, h4, h5⟩ := h p hp
  obtain ⟨g1, g2⟩ := f _ _ (.inl ⟨ps, rfl⟩) h1 h2 h3
  refine ⟨ps, g1, m p hp h2, g2, h4, fun pos cv hc => ?_⟩
  obtain ⟨c, e1, e2, e3⟩ := h5 pos cv hc
  by_cases hm : M c
  · obtain ⟨k1, k2⟩ := f _ _ (.inr ⟨c, _, rfl⟩) e2 hm (e3.resolve_left fun n => n hm)
    exact ⟨c, e1, k1, .inr k2⟩
  · obtain ⟨k1, k2⟩ := k _ _ (.inr ⟨c, _, rfl⟩) e2 hm
    exact ⟨c, e1, k1, .inl k2⟩
theorem TabM.step {K : PySem.W.Frag} {M M' : Mu} {S S' : Sto} {H H' : Hp} (h : TabM M S H) (t : Tr0 K M S H M' S' H') : TabM M' S' H' :=
  h.gen (fun a o _ e n => t.keep a o e n) fun a o _ e m n => ⟨(t.forn a o e m n).1, (t.forn a o e m n).2.2, fun _ => (t.forn a o e m n).2.1⟩

section
variable {K : PySem.W.Frag} {M M' M'' : Mu} {S S' S'' : Sto} {H H' H'' : Hp}
theorem Tr.refl : Tr K M S H M S H := ⟨fun _ _ h n => ⟨h, n⟩, fun _ _ h m n _ => ⟨h, m, n⟩⟩
theorem Tr.trans (a : Tr K M S H M' S' H') (b : Tr K M' S' H' M'' S'' H'') : Tr K M S H M'' S'' H'' := ⟨fun x o h n => by
  obtain ⟨h1, n1⟩ := a.keep x o h n
  exact b.keep x o h1 n1, fun x o h m n y => by
  obtain ⟨h1, m1, n1⟩ := a.forn x o h m n y
  exact b.forn x o h1 m1 n1 y⟩
theorem StD.no (r : StD K M H S) {a : Addr} (h : ¬ M a) : S a = none := by
  cases e : S a with
  | none => rfl
  | some o => exact absurd (r.mu a (by rw [e]; simp)) h
theorem rd_kp (t : Kp M H M' H') {a : Addr} {u : HO} (h : Rd H a u) (m : ¬ M a) : Rd H' a u ∧ ¬ M' a := by
  rcases h with h | ⟨o, h⟩
  · obtain ⟨h1, m1⟩ := t a _ h m
    exact ⟨.inl h1, m1⟩
  · obtain ⟨h1, m1⟩ := t a _ h m
    exact ⟨.inr ⟨o, h1⟩, m1⟩
theorem tupAt_kp (t : Kp M H M' H') {a : Addr} {vs : List V} (h : TupAt K M H a vs) : TupAt K M' H' a vs := by
  rcases h with ⟨h, m⟩ | h
  · exact .inl (t a _ h m)
  · exact .inr h
theorem lstAt_kp (t : Kp M H M' H') {a : Addr} {vs : List V} (h : LstAt K M H a vs) : LstAt K M' H' a vs := by
  rcases h with ⟨h, m⟩ | h
  · exact .inl (rd_kp t h m)
  · exact .inr h
section
variable (t : Kp M H M' H')
include t
mutual
theorem keyD_kp : ∀ (k : NestedKey) (v : V), KeyD K M H k v → KeyD K M' H' k v
  | .none, _, h => by simpa only [KeyD] using h
  | .num _, _, h => by simpa only [KeyD] using h
  | .text _, _, h => by simpa only [KeyD] using h
  | .tup ks, v, h => by
    simp only [KeyD] at h ⊢
    obtain ⟨a, vs, e, h1, h2⟩ := h
    exact ⟨a, vs, e, tupAt_kp t h1, keyDs_kp ks vs h2⟩
theorem keyDs_kp : ∀ (ks : List NestedKey) (vs : List V), KeyDs K M H ks vs → KeyDs K M' H' ks vs
  | [], _, h => by simpa only [KeyDs] using h
  | k :: ks, vs, h => by
    simp only [KeyDs] at h ⊢
    obtain ⟨v, r, e, h1, h2⟩ := h
    exact ⟨v, r, e, keyD_kp k v h1, keyDs_kp ks r h2⟩
end
mutual
theorem den_kp : ∀ (d : D) (v : V), Den K M H d v → Den K M' H' d v
  | .non, _, h => by simpa only [Den] using h
  | .bl _, _, h => by simpa only [Den] using h
  | .int _, _, h => by simpa only [Den] using h
  | .str _, _, h => by simpa only [Den] using h
  | .ref _, _, h => by simpa only [Den] using h
  | .raw _, _, h => by simpa only [Den] using h
  | .tup ds, v, h => by
    simp only [Den] at h ⊢
    obtain ⟨a, vs, e, hs, hd⟩ := h
    exact ⟨a, vs, e, tupAt_kp t hs, denL_kp ds vs hd⟩
  | .lst ds, v, h => by
    simp only [Den] at h ⊢
    obtain ⟨a, vs, e, hs, m, hd⟩ := h
    obtain ⟨h1, m1⟩ := t a _ hs m
    exact ⟨a, vs, e, h1, m1, denL_kp ds vs hd⟩
  | .obj C fs, v, h => by
    simp only [Den] at h ⊢
    obtain ⟨a, dx, gs, e, hs, m, hd⟩ := h
    obtain ⟨h1, m1⟩ := t a _ hs m
    exact ⟨a, dx, gs, e, h1, m1, denF_kp fs gs hd⟩
  | .exc C fs, v, h => by
    simp only [Den] at h ⊢
    obtain ⟨a, dd, gs, e, hs, m, hs2, hn, hd⟩ := h
    obtain ⟨h1, m1⟩ := t a _ hs m
    exact ⟨a, dd, gs, e, h1, m1, fun d z => t d _ (hs2 d z).1 (hs2 d z).2, hn, denF_kp fs gs hd⟩
  | .exq a d fs, v, h => by
    simp only [Den] at h ⊢
    obtain ⟨e, gs, hs, hn, hd⟩ := h
    exact ⟨e, gs, fun x z => t x _ (hs x z).1 (hs x z).2, hn, denF_kp fs gs hd⟩
  | .dct fs, v, h => by
    simp only [Den] at h ⊢
    obtain ⟨a, gs, e, hs, m, hd⟩ := h
    obtain ⟨h1, m1⟩ := t a _ hs m
    exact ⟨a, gs, e, h1, m1, denK_kp fs gs hd⟩
  | .dcn w fs, v, h => by
    simp only [Den] at h ⊢
    obtain ⟨a, gs, ep, e, hs, m, hd⟩ := h
    obtain ⟨h1, m1⟩ := t a _ hs m
    exact ⟨a, gs, ep, e, h1, m1, denN_kp fs gs hd⟩
  | .scr ns, v, h => by
    simp only [Den] at h ⊢
    obtain ⟨a, e, hs⟩ := h
    exact ⟨a, e, lstAt_kp t hs⟩
theorem denN_kp : ∀ (ds : List (NestedKey × D)) (es : List NE), DenN K M H ds es → DenN K M' H' ds es
  | [], _, h => by simpa only [DenN] using h
  | (k, d) :: ds, es, h => by
    simp only [DenN] at h ⊢
    obtain ⟨b, v, r, e, ⟨h1, h2⟩, h3, h4⟩ := h
    exact ⟨b, v, r, e, ⟨keyD_kp t k _ h1, h2⟩, den_kp d v h3, denN_kp ds r h4⟩
theorem denL_kp : ∀ (ds : List D) (vs : List V), DenL K M H ds vs → DenL K M' H' ds vs
  | [], _, h => by simpa only [DenL] using h
  | d :: ds, vs, h => by
    simp only [DenL] at h ⊢
    obtain ⟨v, q, e, h1, h2⟩ := h
    exact ⟨v, q, e, den_kp d v h1, denL_kp ds q h2⟩
theorem denF_kp : ∀ (ds : List (Str × D)) (vs : List (Str × V)), DenF K M H ds vs → DenF K M' H' ds vs
  | [], _, h => by simpa only [DenF] using h
  | (f, d) :: ds, vs, h => by
    simp only [DenF] at h ⊢
    obtain ⟨v, q, e, h1, h2⟩ := h
    exact ⟨v, q, e, den_kp d v h1, denF_kp ds q h2⟩
theorem denK_kp : ∀ (ds : List (Key × D)) (vs : List (Key × V)), DenK K M H ds vs → DenK K M' H' ds vs
  | [], _, h => by simpa only [DenK] using h
  | (f, d) :: ds, vs, h => by
    simp only [DenK] at h ⊢
    obtain ⟨v, q, e, h1, h2⟩ := h
    exact ⟨v, q, e, den_kp d v h1, denK_kp ds q h2⟩
end
theorem envD_kp {Γ : Gm} {σ : St} (h : EnvD K M H Γ σ) : EnvD K M' H' Γ σ :=
  ⟨h.1, fun i d e => let ⟨v, h1, h2⟩ := h.2 i d e; ⟨v, h1, den_kp t d v h2⟩⟩
end
theorem den_tr (_ : StD K M H S) (t : Tr K M S H M' S' H') (d : D) (v : V) (h : Den K M H d v) : Den K M' H' d v := den_kp t.keep d v h
theorem denL_tr (_ : StD K M H S) (t : Tr K M S H M' S' H') (d : List D) (v : List V) (h : DenL K M H d v) : DenL K M' H' d v := denL_kp t.keep d v h
theorem denF_tr (_ : StD K M H S) (t : Tr K M S H M' S' H') (d : List (Str × D)) (v : List (Str × V)) (h : DenF K M H d v) : DenF K M' H' d v := denF_kp t.keep d v h
theorem denK_tr (_ : StD K M H S) (t : Tr K M S H M' S' H') (d : List (Key × D)) (v : List (Key × V)) (h : DenK K M H d v) : DenK K M' H' d v := denK_kp t.keep d v h
theorem envD_tr (_ : StD K M H S) (t : Tr K M S H M' S' H') {Γ : Gm} {σ : St} (h : EnvD K M H Γ σ) : EnvD K M' H' Γ σ := envD_kp t.keep h
theorem denL_len : ∀ {ds : List D} {vs : List V}, DenL K M H ds vs → vs.length = ds.length
  | [], _, h => by simp only [DenL] at h; subst h; rfl
  | d :: ds, _, h => by
    simp only [DenL] at h
    obtain ⟨v, q, rfl, _, h2⟩ := h
    rw [List.length_cons, List.length_cons, denL_len h2]
theorem denL_get : ∀ {ds : List D} {vs : List V} {i : Nat} {d : D}, DenL K M H ds vs → ds[i]? = some d → ∃ v, vs[i]? = some v ∧ Den K M H d v
  | [], _, _, _, _, e => by simp at e
  | d :: ds, _, i, x, h, e => by
    simp only [DenL] at h
    obtain ⟨v, q, rfl, h1, h2⟩ := h
    cases i with
    | zero =>
      have e' : d = x := by simpa using e
      subst e'
      exact ⟨v, rfl, h1⟩
    | succ i =>
      obtain ⟨w, e1, e2⟩ := denL_get h2 (show ds[i]? = some x by simpa using e)
      exact ⟨w, by simpa using e1, e2⟩
theorem denL_back : ∀ {ds : List D} {vs : List V} {i : Nat} {v : V}, DenL K M H ds vs → vs[i]? = some v → ∃ d, ds[i]? = some d ∧ Den K M H d v
  | [], _, _, _, h, e => by simp only [DenL] at h; subst h; simp at e
  | d :: ds, _, i, x, h, e => by
    simp only [DenL] at h
    obtain ⟨v, q, rfl, h1, h2⟩ := h
    cases i with
    | zero =>
      have e' : v = x := by simpa using e
      subst e'
      exact ⟨d, rfl, h1⟩
    | succ i =>
      obtain ⟨w, e1, e2⟩ := denL_back h2 (show q[i]? = some x by simpa using e)
      exact ⟨w, by simpa using e1, e2⟩
theorem denL_nil : DenL K M H [] [] := by simp only [DenL]
theorem denL_cons {d : D} {ds : List D} {v : V} {vs : List V} (h : Den K M H d v) (hs : DenL K M H ds vs) : DenL K M H (d :: ds) (v :: vs) := by
  simp only [DenL]
  exact ⟨v, vs, rfl, h, hs⟩
theorem denL_app : ∀ {ds es : List D} {vs ws : List V}, DenL K M H ds vs → DenL K M H es ws → DenL K M H (ds ++ es) (vs ++ ws)
  | [], _, _, _, h, h' => by simp only [DenL] at h; subst h; simpa using h'
  | d :: ds, es, _, ws, h, h' => by
    simp only [DenL] at h
    obtain ⟨v, q, rfl, h1, h2⟩ := h
    exact denL_cons h1 (denL_app h2 h')
theorem denL_drop : ∀ {ds : List D} {vs : List V} (n : Nat), DenL K M H ds vs → DenL K M H (ds.drop n) (vs.drop n)
  | _, _, 0, h => h
  | [], _, n + 1, h => by simp only [DenL] at h; subst h; simp only [List.drop_nil]; exact denL_nil
  | d :: ds, _, n + 1, h => by
    simp only [DenL] at h
    obtain ⟨v, q, rfl, _, h2⟩ := h
    exact denL_drop n h2
theorem denL_take : ∀ {ds : List D} {vs : List V} (n : Nat), DenL K M H ds vs → DenL K M H (ds.take n) (vs.take n)
  | _, _, 0, _ => by simp only [List.take_zero]; exact denL_nil
  | [], _, n + 1, h => by simp only [DenL] at h; subst h; simp only [List.take_nil]; exact denL_nil
  | d :: ds, _, n + 1, h => by
    simp only [DenL] at h
    obtain ⟨v, q, rfl, h1, h2⟩ := h
    exact denL_cons h1 (denL_take n h2)
theorem denL_rev : ∀ {ds : List D} {vs : List V}, DenL K M H ds vs → DenL K M H ds.reverse vs.reverse
  | [], _, h => by simp only [DenL] at h; subst h; exact denL_nil
  | d :: ds, _, h => by
    simp only [DenL] at h
    obtain ⟨v, q, rfl, h1, h2⟩ := h
    rw [List.reverse_cons, List.reverse_cons]
    exact denL_app (denL_rev h2) (denL_cons h1 denL_nil)
theorem denL_set : ∀ {ds : List D} {vs : List V} {d : D} {v : V} (i : Nat), DenL K M H ds vs → Den K M H d v → DenL K M H (ds.set i d) (vs.set i v)
  | [], _, _, _, _, h, _ => by simp only [DenL] at h; subst h; exact denL_nil
  | d :: ds, _, x, y, 0, h, hx => by
    simp only [DenL] at h
    obtain ⟨v, q, rfl, h1, h2⟩ := h
    exact denL_cons hx h2
  | d :: ds, _, x, y, i + 1, h, hx => by
    simp only [DenL] at h
    obtain ⟨v, q, rfl, h1, h2⟩ := h
    exact denL_cons h1 (denL_set i h2 hx)
theorem denL_erase : ∀ {ds : List D} {vs : List V} (i : Nat), DenL K M H ds vs → DenL K M H (ds.eraseIdx i) (vs.eraseIdx i)
  | [], _, _, h => by simp only [DenL] at h; subst h; exact denL_nil
  | d :: ds, _, 0, h => by
    simp only [DenL] at h
    obtain ⟨v, q, rfl, h1, h2⟩ := h
    exact h2
  | d :: ds, _, i + 1, h => by
    simp only [DenL] at h
    obtain ⟨v, q, rfl, h1, h2⟩ := h
    exact denL_cons h1 (denL_erase i h2)
theorem denL_ints : ∀ {ns : List Int}, DenL K M H (ns.map D.int) (ns.map V.int)
  | [] => denL_nil
  | n :: ns => denL_cons (by simp only [Den]) denL_ints
theorem denL_ints_eq : ∀ {ns : List Int} {vs : List V}, DenL K M H (ns.map D.int) vs → vs = ns.map V.int
  | [], _, h => by simpa only [DenL, List.map_nil] using h
  | n :: ns, vs, h => by
    simp only [List.map_cons, DenL, Den] at h
    obtain ⟨v, q, rfl, rfl, h2⟩ := h
    rw [List.map_cons, denL_ints_eq h2]
theorem denL_bls_eq : ∀ {ns : List Bool} {vs : List V}, DenL K M H (ns.map D.bl) vs → vs = ns.map V.bl
  | [], _, h => by simpa only [DenL, List.map_nil] using h
  | n :: ns, vs, h => by
    simp only [List.map_cons, DenL, Den] at h
    obtain ⟨v, q, rfl, rfl, h2⟩ := h
    rw [List.map_cons, denL_bls_eq h2]
theorem denL_strs_eq : ∀ {ns : List Str} {vs : List V}, DenL K M H (ns.map D.str) vs → vs = ns.map V.str
  | [], _, h => by simpa only [DenL, List.map_nil] using h
  | n :: ns, vs, h => by
    simp only [List.map_cons, DenL, Den] at h
    obtain ⟨v, q, rfl, rfl, h2⟩ := h
    rw [List.map_cons, denL_strs_eq h2]
end

/-! ### readings over data -/
abbrev QK := D → Sto → Prop
/-- an exception: its class, its fields -/
abbrev EK := Value → List (Str × D) → Sto → Prop
abbrev EKS := Value → List (Str × D) → Gm → Sto → Prop
abbrev WE := Gm → Sto → QK → EK → Prop
abbrev WT := Gm → Sto → (Bool → Sto → Prop) → EK → Prop
abbrev WA := Gm → Sto → (List D → Sto → Prop) → EK → Prop
structure Nd where
  nx : Gm → Sto → Prop
  rt : QK
  bk : Gm → Sto → Prop := fun _ _ => False
  ct : Gm → Sto → Prop := fun _ _ => False
abbrev WS := Nd → EKS → Gm → Sto → Prop

/-- an exception's own dict -/
def ExD (K : PySem.W.Frag) (M : Mu) (H : Hp) (fs : List (Str × D)) (dd : Option Addr) : Prop :=
  (fs = [] ∧ dd = none) ∨ ∃ d gs, dd = some d ∧ H d = some (.xd gs) ∧ ¬ M d ∧ DenF K M H fs gs

section
variable (K : PySem.W.Frag)
/-- a state's data, and what is known of a later one -/
def Fut (M : Mu) (S : Sto) (H : Hp) (P : Mu → Sto → Hp → Prop) : Prop := ∀ M' S' H', Tr K M S H M' S' H' → StD K M' H' S' → P M' S' H'
def OkQ (M : Mu) (S : Sto) (H : Hp) (Q' : QK) (Q : VK) : Prop := Fut K M S H fun M' S' H' => ∀ d v, Den K M' H' d v → Q' d S' → Q v H'
def OkB (M : Mu) (S : Sto) (H : Hp) (Q' : Bool → Sto → Prop) (Q : Bool → Hp → Prop) : Prop := Fut K M S H fun M' S' H' => ∀ b, Q' b S' → Q b H'
def OkA (M : Mu) (S : Sto) (H : Hp) (Q' : List D → Sto → Prop) (Q : List V → Hp → Prop) : Prop := Fut K M S H fun M' S' H' => ∀ ds vs, DenL K M' H' ds vs → Q' ds S' → Q vs H'
def OkX (W : WX) (σ : St) (M : Mu) (S : Sto) (H : Hp) (E' : EK) : Prop := Fut K M S H fun M' S' H' => ∀ c fs dd, ExD K M' H' fs dd → E' c fs S' → W c dd σ H'
def OkN (M : Mu) (S : Sto) (H : Hp) (N' : Gm → Sto → Prop) (N : St → Hp → Prop) : Prop := Fut K M S H fun M' S' H' => ∀ Γ σ, EnvD K M' H' Γ σ → N' Γ S' → N σ H'
def OkXS (W : WX) (M : Mu) (S : Sto) (H : Hp) (E' : EKS) : Prop := Fut K M S H fun M' S' H' => ∀ c fs dd Γ σ, EnvD K M' H' Γ σ → ExD K M' H' fs dd → E' c fs Γ S' → W c dd σ H'
def liftE (W : WX) (w : WE) : TE := fun σ H Q => ∃ M Γ S Q' E', StD K M H S ∧ EnvD K M H Γ σ ∧ w Γ S Q' E' ∧ OkQ K M S H Q' Q ∧ OkX K W σ M S H E'
def liftT (W : WX) (w : WT) : TT := fun σ H Q => ∃ M Γ S Q' E', StD K M H S ∧ EnvD K M H Γ σ ∧ w Γ S Q' E' ∧ OkB K M S H Q' Q ∧ OkX K W σ M S H E'
def liftA (W : WX) (w : WA) : TA := fun σ H Q => ∃ M Γ S Q' E', StD K M H S ∧ EnvD K M H Γ σ ∧ w Γ S Q' E' ∧ OkA K M S H Q' Q ∧ OkX K W σ M S H E'
structure OkD (M : Mu) (S : Sto) (H : Hp) (D' : Nd) (D : Ends) : Prop where
  nx : OkN K M S H D'.nx D.nx
  rt : OkQ K M S H D'.rt D.rt
  bk : OkN K M S H D'.bk D.bk
  ct : OkN K M S H D'.ct D.ct
def liftS (W : WX) (w : WS) : TS := fun D σ H => ∃ M Γ S D' E', StD K M H S ∧ EnvD K M H Γ σ ∧ w D' E' Γ S ∧ OkD K M S H D' D ∧ OkXS K W M S H E'
end
section
variable {K : PySem.W.Frag} {M M1 : Mu} {S S1 : Sto} {H H1 : Hp}
theorem Fut.at {P : Mu → Sto → Hp → Prop} (t : Tr K M S H M1 S1 H1) (h : Fut K M S H P) : Fut K M1 S1 H1 P := fun M' S' H' t' r => h M' S' H' (t.trans t') r
theorem OkD.at {D' : Nd} {D : Ends} (t : Tr K M S H M1 S1 H1) (h : OkD K M S H D' D) : OkD K M1 S1 H1 D' D := ⟨h.nx.at t, h.rt.at t, h.bk.at t, h.ct.at t⟩
theorem Fut.now {P : Mu → Sto → Hp → Prop} (h : Fut K M S H P) (r : StD K M H S) : P M S H := h M S H Tr.refl r
end

structure SE (X : Cx) (W : WX) (e : Expr) (w : WE) : Prop where
  pe : PE X e (liftE X.K W w)
structure ST (X : Cx) (W : WX) (e : Expr) (w : WT) : Prop where
  pt : PT X e (liftT X.K W w)
structure SW (X : Cx) (W : WX) (e : Expr) (w : WT) : Prop where
  pw : PW X e (liftT X.K W w)
structure SA (X : Cx) (W : WX) (es : List Expr) (w : WA) : Prop where
  pa : PA X es (liftA X.K W w)
structure SS (X : Cx) (W : WX) (st : Stmt) (w : WS) : Prop where
  ps : PS X st (liftS X.K W w)
structure SSs (X : Cx) (W : WX) (st : List Stmt) (w : WS) : Prop where
  ps : PSs X st (liftS X.K W w)

theorem pe_imp {X : Cx} {e : Expr} {t t' : TE} (h : PE X e t) (i : ∀ σ H Q, t' σ H Q → t σ H Q) : PE X e t' := ⟨fun p s σ H Q I q => h.run p s σ H Q I (i σ H Q q)⟩
theorem pt_imp {X : Cx} {e : Expr} {t t' : TT} (h : PT X e t) (i : ∀ σ H Q, t' σ H Q → t σ H Q) : PT X e t' := ⟨fun p s σ H Q I q => h.run p s σ H Q I (i σ H Q q)⟩
theorem pw_imp {X : Cx} {e : Expr} {t t' : TT} (h : PW X e t) (i : ∀ σ H Q, t' σ H Q → t σ H Q) : PW X e t' := ⟨fun wh p s σ H Q I q => h.run wh p s σ H Q I (i σ H Q q)⟩
theorem pa_imp {X : Cx} {es : List Expr} {t t' : TA} (h : PA X es t) (i : ∀ σ H Q, t' σ H Q → t σ H Q) : PA X es t' := ⟨fun po p s σ H Q I q => h.run po p s σ H Q I (i σ H Q q)⟩
theorem ps_imp {X : Cx} {st : Stmt} {t t' : TS} (h : PS X st t) (i : ∀ D σ H, t' D σ H → t D σ H) : PS X st t' := ⟨fun p s σ H D I q => h.run p s σ H D I (i D σ H q)⟩
theorem pss_imp {X : Cx} {st : List Stmt} {t t' : TS} (h : PSs X st t) (i : ∀ D σ H, t' D σ H → t D σ H) : PSs X st t' := ⟨fun p s σ H D I q => h.run p s σ H D I (i D σ H q)⟩
end PL
end
/-! from PL1.lean -/
section
/-! PL1: expressions, operators, comparisons, tests. -/
namespace PL
open PySem L2
variable [TabCtx]

structure Bx (X : Cx) (W : WX) (k : Nat) : Prop where
  tk : Takes X W
  cm : X.calm = true
  nd : X.N.Nodup
  hr : Room k X.A

/-! ### names, constants -/
def wVar (i : Nat) : WE := fun Γ S Q _ => ∃ d, Γ[i]? = some (some d) ∧ Q d S
def wC (d : D) : WE := fun _ S Q _ => Q d S
section
variable {X : Cx} {W : WX} {k : Nat} {pos : Pos}
theorem se_var {i : Nat} {x : Str} (hN : X.N[i]? = some x) (hv : Vis X.env.scope x) (hd : (x == ("__debug__" : Str)) = false := by decide) (hcd : (x == ("__classdict__" : Str)) = false := by decide) : SE X W (.Name x pos) (wVar i) := by
  refine ⟨pe_imp (pe_var hN hv hd hcd) fun σ H Q h => ?_⟩
  obtain ⟨M, Γ, S, Q', E', r, e, ⟨d, hd, hq⟩, oq, _⟩ := h
  obtain ⟨v, h1, h2⟩ := e.2 i d hd
  exact ⟨v, h1, oq.now r d v h2 hq⟩
theorem se_const {e : Expr} {v : V} {d : D} (he : PE X e (tC v)) (hd : ∀ M H, Den X.K M H d v) : SE X W e (wC d) := by
  refine ⟨pe_imp he fun σ H Q h => ?_⟩
  obtain ⟨M, Γ, S, Q', E', r, e, hq, oq, _⟩ := h
  exact oq.now r d v (hd M H) hq
theorem se_int {i : Int} {j} : SE X W (.Constant (.int i) j pos) (wC (.int i)) := se_const pe_int fun _ _ => by simp only [Den]
theorem se_bl {b : Bool} {j} : SE X W (.Constant (.bool b) j pos) (wC (.bl b)) := se_const pe_bl fun _ _ => by simp only [Den]
theorem se_non {j} : SE X W (.Constant .none j pos) (wC .non) := se_const pe_non fun _ _ => by simp only [Den]
theorem se_str {x : Str} {j} : SE X W (.Constant (.str x) j pos) (wC (.str x)) := se_const pe_str fun _ _ => by simp only [Den]
/-- a module's constant -/
theorem se_glob {x : Str} {v : V} {u : Value} {d : D} (hg : Gl X x) (hm : X.mg x = some u) (r : RelV v u) (hd : ∀ M S H, StD X.K M H S → Den X.K M H d v) (hdb : (x == ("__debug__" : Str)) = false := by decide) : SE X W (.Name x pos) (wC d) := by
  refine ⟨pe_imp (pe_glob hg hm r hdb) fun σ H Q h => ?_⟩
  obtain ⟨M, Γ, S, Q', E', r, e, hq, oq, _⟩ := h
  exact oq.now r d v (hd M S H r) hq
end

/-! ### two-place operations -/
abbrev RD := D → D → Sto → QK → Prop
def liftR (K : PySem.W.Frag) (rd : RD) : R2 := fun x y H Q => ∃ M S d e Q', StD K M H S ∧ Den K M H d x ∧ Den K M H e y ∧ rd d e S Q' ∧ OkQ K M S H Q' Q
def OD (X : Cx) (f : Value → Value → Sem Value) (rd : RD) : Prop := OpR X f (liftR X.K rd)
def wBin (rd : RD) (wa wb : WE) : WE := fun Γ S Q E => wa Γ S (fun x S1 => wb Γ S1 (fun y S2 => rd x y S2 Q) E) E
theorem od_of {X : Cx} {f : Value → Value → Sem Value} {r : R2} {rd : RD} (h : OpR X f r) (i : ∀ M S H d e x y Q' Q, StD X.K M H S → Den X.K M H d x → Den X.K M H e y → rd d e S Q' → OkQ X.K M S H Q' Q → r x y H Q) : OD X f rd := by
  intro pins s σ H x y v u Q I rx ry q
  obtain ⟨M, S, d, e, Q', r, h1, h2, hq, oq⟩ := q
  exact h pins s σ H x y v u Q I rx ry (i M S H d e x y Q' Q r h1 h2 hq oq)
/-- by cases of the data -/
theorem od_or {X : Cx} {f : Value → Value → Sem Value} {a b rd : RD} (h : OD X f a) (h' : OD X f b) (i : ∀ d e S Q, rd d e S Q → a d e S Q ∨ b d e S Q) : OD X f rd := by
  intro pins s σ H x y v u Q I rx ry q
  obtain ⟨M, S, d, e, Q', r, h1, h2, hq, oq⟩ := q
  rcases i d e S Q' hq with z | z
  · exact h pins s σ H x y v u Q I rx ry ⟨M, S, d, e, Q', r, h1, h2, z, oq⟩
  · exact h' pins s σ H x y v u Q I rx ry ⟨M, S, d, e, Q', r, h1, h2, z, oq⟩
section
variable {X : Cx} {W : WX} {k : Nat} {pos : Pos} {a b c : Expr} {wa wb wc : WE}
theorem lift_bin {K : PySem.W.Frag} {rd : RD} {σ : St} {H : Hp} {Q : VK} (h : liftE K W (wBin rd wa wb) σ H Q) : tOp (liftR K rd) (liftE K W wa) (liftE K W wb) σ H Q := by
  obtain ⟨M, Γ, S, Q', E', r, e, h, oq, ox⟩ := h
  refine ⟨M, Γ, S, _, E', r, e, h, ?_, ox⟩
  intro M1 S1 H1 t1 r1 d v hd hq
  refine ⟨M1, Γ, S1, _, E', r1, envD_tr r t1 e, hq, ?_, ox.at t1⟩
  intro M2 S2 H2 t2 r2 d2 v2 hd2 hq2
  exact ⟨M2, S2, d, d2, Q', r2, den_tr r1 t2 d v hd, hd2, hq2, oq.at (t1.trans t2)⟩
theorem se_bin {op : Operator} {rd : RD} (ho : OD X (binaryOp op) rd) (ha : SE X W a wa) (hb : SE X W b wb) : SE X W (.BinOp a op b pos) (wBin rd wa wb) :=
  ⟨pe_imp (pe_op ho ha.pe hb.pe) fun _ _ _ h => lift_bin h⟩
theorem se_cmp {op : CmpOp} {rd : RD} (ho : OD X (compareOp op) rd) (ha : SE X W a wa) (hb : SE X W b wb) (hm : behindInMarks op b = false) : SE X W (.Compare a [op] [b] pos) (wBin rd wa wb) :=
  ⟨pe_imp (pe_cmpR ho ha.pe hb.pe hm) fun _ _ _ h => lift_bin h⟩
/-- a reading as a test: its value is True or False -/
def wTest (w : WE) : WT := fun Γ S Q E => w Γ S (fun d S1 => ∃ b, d = .bl b ∧ Q b S1) E
theorem lift_test {K : PySem.W.Frag} {w : WE} {σ : St} {H : Hp} {Q : Bool → Hp → Prop} (h : liftT K W (wTest w) σ H Q) : liftE K W w σ H fun x H1 => ∃ k, x = .bl k ∧ Q k H1 := by
  obtain ⟨M, Γ, S, Q', E', r, e, h, oq, ox⟩ := h
  refine ⟨M, Γ, S, _, E', r, e, h, ?_, ox⟩
  rintro M1 S1 H1 t1 r1 d v hd ⟨b, rfl, hq⟩
  simp only [Den] at hd
  exact ⟨b, hd, oq M1 S1 H1 t1 r1 b hq⟩
theorem st_cmp {op : CmpOp} {rd : RD} (ho : OD X (compareOp op) rd) (ha : SE X W a wa) (hb : SE X W b wb) (hm : behindInMarks op b = false) : ST X W (.Compare a [op] [b] pos) (wTest (wBin rd wa wb)) := by
  refine ⟨pt_imp (pt_cmpR ho ha.pe hb.pe hm) fun σ H Q h => ?_⟩
  exact lift_bin (lift_test h)
theorem st_val {e : Expr} {w : WE} (h : SE X W e w) (he : ∀ whole, isTrue e X.env whole = (do let v ← whole; standAt e.pos; holding [v] (truthy v)) := by intro _; rfl) : ST X W e (wTest w) :=
  ⟨pt_imp (pt_val h.pe he) fun _ _ _ h => lift_test h⟩

/-! ### ints -/
def dI (g : Int → Int → Int) : RD := fun x y S Q => ∃ i j, x = .int i ∧ y = .int j ∧ Q (.int (g i j)) S
theorem od_int {f : Value → Value → Sem Value} {g : Int → Int → Int} (h : OpR X f (rI0 fun i j => .int (g i j))) : OD X f (dI g) := od_of h fun M S H d e x y Q' Q r h1 h2 hq oq => by
  obtain ⟨i, j, rfl, rfl, hq⟩ := hq
  simp only [Den] at h1 h2
  exact ⟨i, j, h1, h2, oq.now r _ _ (by simp only [Den]) hq⟩
def dIC (C : Int → Int → Prop) (g : Int → Int → Int) : RD := fun x y S Q => ∃ i j, x = .int i ∧ y = .int j ∧ C i j ∧ Q (.int (g i j)) S
theorem od_intC {f : Value → Value → Sem Value} {C : Int → Int → Prop} {g : Int → Int → Int} (h : OpR X f (rI C fun i j => .int (g i j))) : OD X f (dIC C g) := od_of h fun M S H d e x y Q' Q r h1 h2 hq oq => by
  obtain ⟨i, j, rfl, rfl, hc, hq⟩ := hq
  simp only [Den] at h1 h2
  exact ⟨i, j, h1, h2, hc, oq.now r _ _ (by simp only [Den]) hq⟩
def dB (g : Int → Int → Bool) : RD := fun x y S Q => ∃ i j, x = .int i ∧ y = .int j ∧ Q (.bl (g i j)) S
theorem od_bool {f : Value → Value → Sem Value} {g : Int → Int → Bool} (h : OpR X f (rI0 fun i j => .bl (g i j))) : OD X f (dB g) := od_of h fun M S H d e x y Q' Q r h1 h2 hq oq => by
  obtain ⟨i, j, rfl, rfl, hq⟩ := hq
  simp only [Den] at h1 h2
  exact ⟨i, j, h1, h2, oq.now r _ _ (by simp only [Den]) hq⟩
abbrev dLt : RD := dB fun i j => decide (i < j)
abbrev dLe : RD := dB fun i j => decide (i ≤ j)
abbrev dGt : RD := dB fun i j => decide (j < i)
abbrev dGe : RD := dB fun i j => decide (j ≤ i)
theorem od_lt : OD X (compareOp .Lt) dLt := od_bool op_lt
theorem od_le : OD X (compareOp .LtE) dLe := od_bool op_le
theorem od_gt : OD X (compareOp .Gt) dGt := od_bool op_gt
theorem od_ge : OD X (compareOp .GtE) dGe := od_bool op_ge
abbrev dAddI : RD := dI fun i j => i + j
abbrev dSub : RD := dI fun i j => i - j
abbrev dMod : RD := dIC (fun _ j => j ≠ 0) fun i j => i.fmod j
theorem od_addI : OD X (binaryOp .Add) dAddI := od_int op_add
theorem od_sub : OD X (binaryOp .Sub) dSub := od_int op_sub
theorem od_mod : OD X (binaryOp .Mod) dMod := od_intC op_modN

/-! ### chains of two comparisons -/
def wChain (r r' : RD) (wa wb wc : WE) : WE := fun Γ S Q E => wa Γ S (fun x S1 => wb Γ S1 (fun y S2 => r x y S2 fun z S3 => ∃ b, z = .bl b ∧
  (if b = true then wc Γ S3 (fun u S4 => r' y u S4 Q) E else Q (.bl false) S3)) E) E
theorem lift_chain {K : PySem.W.Frag} {rd rd' : RD} {σ : St} {H : Hp} {Q : VK} (h : liftE K W (wChain rd rd' wa wb wc) σ H Q) : tChain (liftR K rd) (liftR K rd') (liftE K W wa) (liftE K W wb) (liftE K W wc) σ H Q := by
  obtain ⟨M, Γ, S, Q', E', r, e, h, oq, ox⟩ := h
  refine ⟨M, Γ, S, _, E', r, e, h, ?_, ox⟩
  intro M1 S1 H1 t1 r1 d v hd hq
  refine ⟨M1, Γ, S1, _, E', r1, envD_tr r t1 e, hq, ?_, ox.at t1⟩
  intro M2 S2 H2 t2 r2 d2 v2 hd2 hq2
  refine ⟨M2, S2, d, d2, _, r2, den_tr r1 t2 d v hd, hd2, hq2, ?_⟩
  rintro M3 S3 H3 t3 r3 z vz hz ⟨b, rfl, hb⟩
  simp only [Den] at hz
  refine ⟨b, hz, ?_⟩
  have t13 := (t1.trans t2).trans t3
  cases b with
  | false =>
    rw [if_neg Bool.false_ne_true] at hb ⊢
    exact oq.at t13 |>.now r3 _ _ (by simp only [Den]) hb
  | true =>
    rw [if_pos rfl] at hb ⊢
    refine ⟨M3, Γ, S3, _, E', r3, envD_tr r t13 e, hb, ?_, ox.at t13⟩
    intro M4 S4 H4 t4 r4 d4 v4 hd4 hq4
    exact ⟨M4, S4, d2, d4, Q', r4, den_tr r2 (t3.trans t4) d2 v2 hd2, hd4, hq4, oq.at (t13.trans t4)⟩
theorem se_chain {op op' : CmpOp} {r r' : RD} (ho : OD X (compareOp op) r) (ho' : OD X (compareOp op') r') (ha : SE X W a wa) (hb : SE X W b wb) (hc : SE X W c wc)
    (hm : lastMarks [op, op'] [b, c] = false := by with_unfolding_all rfl) : SE X W (.Compare a [op, op'] [b, c] pos) (wChain r r' wa wb wc) :=
  ⟨pe_imp (pe_chain ho ho' ha.pe hb.pe hc.pe hm) fun _ _ _ h => lift_chain h⟩
theorem st_chain {op op' : CmpOp} {r r' : RD} (ho : OD X (compareOp op) r) (ho' : OD X (compareOp op') r') (ha : SE X W a wa) (hb : SE X W b wb) (hc : SE X W c wc)
    (hm : lastMarks [op, op'] [b, c] = false := by with_unfolding_all rfl) : ST X W (.Compare a [op, op'] [b, c] pos) (wTest (wChain r r' wa wb wc)) :=
  ⟨pt_imp (pt_chain ho ho' ha.pe hb.pe hc.pe hm) fun _ _ _ h => lift_chain (lift_test h)⟩

/-! ### and, or, not, if -/
variable {wt wu : WT} {rest : List Expr}
def wAnd (t u : WT) : WT := fun Γ S Q E => t Γ S (fun b S1 => if b = true then u Γ S1 Q E else Q false S1) E
def wOr (t u : WT) : WT := fun Γ S Q E => t Γ S (fun b S1 => if b = true then Q true S1 else u Γ S1 Q E) E
def wNot (t : WT) : WT := fun Γ S Q E => t Γ S (fun b S1 => Q (!b) S1) E
theorem sw_and1 (ha : ST X W a wt) : SW X W (.BoolOp .And [a] pos) wt := ⟨pw_and1 ha.pt⟩
theorem sw_or1 (ha : ST X W a wt) : SW X W (.BoolOp .Or [a] pos) wt := ⟨pw_or1 ha.pt⟩
theorem SW.st {e : Expr} (h : SW X W e wt) : ST X W e wt := ⟨h.pw.pt⟩
theorem sw_and (ha : ST X W a wt) (hb : SW X W (.BoolOp .And (b :: rest) pos) wu) : SW X W (.BoolOp .And (a :: b :: rest) pos) (wAnd wt wu) := by
  refine ⟨pw_imp (pw_and ha.pt hb.pw) fun σ H Q h => ?_⟩
  obtain ⟨M, Γ, S, Q', E', r, e, h, oq, ox⟩ := h
  refine ⟨M, Γ, S, _, E', r, e, h, ?_, ox⟩
  intro M1 S1 H1 t1 r1 b hq
  cases b with
  | false => exact oq M1 S1 H1 t1 r1 false hq
  | true => exact ⟨M1, Γ, S1, Q', E', r1, envD_tr r t1 e, hq, oq.at t1, ox.at t1⟩
theorem sw_or (ha : ST X W a wt) (hb : SW X W (.BoolOp .Or (b :: rest) pos) wu) : SW X W (.BoolOp .Or (a :: b :: rest) pos) (wOr wt wu) := by
  refine ⟨pw_imp (pw_or ha.pt hb.pw) fun σ H Q h => ?_⟩
  obtain ⟨M, Γ, S, Q', E', r, e, h, oq, ox⟩ := h
  refine ⟨M, Γ, S, _, E', r, e, h, ?_, ox⟩
  intro M1 S1 H1 t1 r1 b hq
  cases b with
  | true => exact oq M1 S1 H1 t1 r1 true hq
  | false => exact ⟨M1, Γ, S1, Q', E', r1, envD_tr r t1 e, hq, oq.at t1, ox.at t1⟩
theorem st_not (ha : ST X W a wt) : ST X W (.UnaryOp .Not a pos) (wNot wt) := by
  refine ⟨pt_imp (pt_not ha.pt) fun σ H Q h => ?_⟩
  obtain ⟨M, Γ, S, Q', E', r, e, h, oq, ox⟩ := h
  exact ⟨M, Γ, S, _, E', r, e, h, fun M1 S1 H1 t1 r1 b hq => oq M1 S1 H1 t1 r1 (!b) hq, ox⟩
/-- the same as values, where all but the last are True or False -/
def wAndV (wa wb : WE) : WE := fun Γ S Q E => wa Γ S (fun d S1 => ∃ b, d = .bl b ∧ (if b = true then wb Γ S1 Q E else Q (.bl false) S1)) E
def wOrV (wa wb : WE) : WE := fun Γ S Q E => wa Γ S (fun d S1 => ∃ b, d = .bl b ∧ (if b = true then Q (.bl true) S1 else wb Γ S1 Q E)) E
def wNotV (wa : WE) : WE := fun Γ S Q E => wa Γ S (fun d S1 => ∃ b, d = .bl b ∧ Q (.bl (!b)) S1) E
theorem se_one {op} (h : SE X W a wa) : SE X W (.BoolOp op [a] pos) wa := ⟨pe_one h.pe⟩
theorem se_and (ha : SE X W a wa) (hb : SE X W (.BoolOp .And (b :: rest) pos) wb) : SE X W (.BoolOp .And (a :: b :: rest) pos) (wAndV wa wb) := by
  refine ⟨pe_imp (pe_and ha.pe hb.pe) fun σ H Q h => ?_⟩
  obtain ⟨M, Γ, S, Q', E', r, e, h, oq, ox⟩ := h
  refine ⟨M, Γ, S, _, E', r, e, h, ?_, ox⟩
  rintro M1 S1 H1 t1 r1 d v hd ⟨b, rfl, hq⟩
  simp only [Den] at hd
  refine ⟨b, hd, ?_⟩
  cases b with
  | false => exact oq M1 S1 H1 t1 r1 _ _ (by simp only [Den]) hq
  | true => exact ⟨M1, Γ, S1, Q', E', r1, envD_tr r t1 e, hq, oq.at t1, ox.at t1⟩
theorem se_or (ha : SE X W a wa) (hb : SE X W (.BoolOp .Or (b :: rest) pos) wb) : SE X W (.BoolOp .Or (a :: b :: rest) pos) (wOrV wa wb) := by
  refine ⟨pe_imp (pe_or ha.pe hb.pe) fun σ H Q h => ?_⟩
  obtain ⟨M, Γ, S, Q', E', r, e, h, oq, ox⟩ := h
  refine ⟨M, Γ, S, _, E', r, e, h, ?_, ox⟩
  rintro M1 S1 H1 t1 r1 d v hd ⟨b, rfl, hq⟩
  simp only [Den] at hd
  refine ⟨b, hd, ?_⟩
  cases b with
  | true => exact oq M1 S1 H1 t1 r1 _ _ (by simp only [Den]) hq
  | false => exact ⟨M1, Γ, S1, Q', E', r1, envD_tr r t1 e, hq, oq.at t1, ox.at t1⟩
theorem se_not (ha : SE X W a wa) : SE X W (.UnaryOp .Not a pos) (wNotV wa) := by
  refine ⟨pe_imp (pe_not ha.pe) fun σ H Q h => ?_⟩
  obtain ⟨M, Γ, S, Q', E', r, e, h, oq, ox⟩ := h
  refine ⟨M, Γ, S, _, E', r, e, h, ?_, ox⟩
  rintro M1 S1 H1 t1 r1 d v hd ⟨b, rfl, hq⟩
  simp only [Den] at hd
  exact ⟨b, hd, oq M1 S1 H1 t1 r1 _ _ (by simp only [Den]) hq⟩
def wIf (t : WT) (wa wb : WE) : WE := fun Γ S Q E => t Γ S (fun b S1 => if b = true then wa Γ S1 Q E else wb Γ S1 Q E) E
theorem se_if (hc : ST X W c wt) (ha : SE X W a wa) (hb : SE X W b wb) : SE X W (.IfExp c a b pos) (wIf wt wa wb) := by
  refine ⟨pe_imp (pe_ifExp hc.pt ha.pe hb.pe) fun σ H Q h => ?_⟩
  obtain ⟨M, Γ, S, Q', E', r, e, h, oq, ox⟩ := h
  refine ⟨M, Γ, S, _, E', r, e, h, ?_, ox⟩
  intro M1 S1 H1 t1 r1 b hq
  cases b with
  | true => exact ⟨M1, Γ, S1, Q', E', r1, envD_tr r t1 e, hq, oq.at t1, ox.at t1⟩
  | false => exact ⟨M1, Γ, S1, Q', E', r1, envD_tr r t1 e, hq, oq.at t1, ox.at t1⟩

/-! ### arguments, displays -/
variable {es : List Expr} {ws : WA}
def wNil : WA := fun _ S Q _ => Q [] S
def wCons (wa : WE) (ws : WA) : WA := fun Γ S Q E => wa Γ S (fun d S1 => ws Γ S1 (fun ds S2 => Q (d :: ds) S2) E) E
theorem sa_nil : SA X W [] wNil := by
  refine ⟨pa_imp pa_nil fun σ H Q h => ?_⟩
  obtain ⟨M, Γ, S, Q', E', r, e, h, oq, ox⟩ := h
  exact oq.now r _ _ denL_nil h
theorem sa_cons (ha : SE X W a wa) (hs : SA X W es ws) (he : starEach (a :: es) X.env = (false, eval a X.env) :: starEach es X.env := by rfl) : SA X W (a :: es) (wCons wa ws) := by
  refine ⟨pa_imp (pa_cons ha.pe hs.pa he) fun σ H Q h => ?_⟩
  obtain ⟨M, Γ, S, Q', E', r, e, h, oq, ox⟩ := h
  refine ⟨M, Γ, S, _, E', r, e, h, ?_, ox⟩
  intro M1 S1 H1 t1 r1 d v hd hq
  refine ⟨M1, Γ, S1, _, E', r1, envD_tr r t1 e, hq, ?_, ox.at t1⟩
  intro M2 S2 H2 t2 r2 ds vs hds hq2
  exact oq M2 S2 H2 (t1.trans t2) r2 _ _ (denL_cons (den_tr r1 t2 d v hd) hds) hq2
end
end PL
end
/-! from PL2.lean -/
section
/-! PL2: displays, new objects, the store's changes, items, slices, built-ins, methods of lists. -/
namespace PL
open PySem L2
variable [TabCtx]

section
variable {K : PySem.W.Frag} {M M' : Mu} {S S' : Sto} {H H' : Hp} {p : Addr} {o : HO}
/-- a new object that is not of the store -/
theorem new_tr0 (hp : H p = none) : Tr0 K M S H M S (upd H p o) := ⟨fun a u h n => ⟨by rw [upd_ne (ne_of_none h hp)]; exact h, n⟩, fun a u h m n => ⟨by rw [upd_ne (ne_of_none h hp)]; exact h, m, n⟩⟩
theorem new_tr (hp : H p = none) : Tr K M S H M S (upd H p o) := (new_tr0 hp).weak
theorem obD_kp (t : Kp M H M' H') {a : Addr} {x : Ob} (h : ObD K M H a x) (e : H' a = H a) : ObD K M' H' a x := by
  cases x with
  | lst ds =>
    obtain ⟨vs, h1, h2⟩ := h
    exact ⟨vs, e.trans h1, denL_kp t ds vs h2⟩
  | dct ds =>
    obtain ⟨vs, h1, h2⟩ := h
    exact ⟨vs, e.trans h1, denK_kp t ds vs h2⟩
  | dcn w ds ep =>
    obtain ⟨vs, h1, h2⟩ := h
    exact ⟨vs, e.trans h1, denN_kp t ds vs h2⟩
  | ins C ds =>
    obtain ⟨dx, vs, h1, h2⟩ := h
    exact ⟨dx, vs, e.trans h1, denF_kp t ds vs h2⟩
theorem obD_tr (_ : StD K M H S) (t : Tr K M S H M' S' H') {a : Addr} {x : Ob} (h : ObD K M H a x) (e : H' a = H a) : ObD K M' H' a x := obD_kp t.keep h e
theorem new_st (r : StD K M H S) (hp : H p = none) : StD K M (upd H p o) S := by
  have nn : ∀ a, M a → a ≠ p := fun a h z => by
    subst z
    exact r.tr a h hp
  refine ⟨fun a x h => ?_, r.mu, fun a h => ?_, r.tab.step (new_tr0 (K := K) hp)⟩
  · exact obD_tr r (new_tr hp) (r.ob a x h) (upd_ne (nn a (r.mu a (by rw [h]; simp))))
  · rw [upd_ne (nn a h)]
    exact r.tr a h
theorem new_mu (r : StD K M H S) (hp : H p = none) : ¬ M p := fun h => r.tr p h hp
theorem new_no (r : StD K M H S) (hp : H p = none) : S p = none := r.no (new_mu r hp)
/-- a new object of the store -/
def Mu.add (M : Mu) (p : Addr) : Mu := fun a => M a ∨ a = p
theorem add_tr0 (hp : H p = none) (x : Ob) : Tr0 K M S H (M.add p) (S.put p x) (upd H p o) := ⟨fun a u h n => by
  have ne : a ≠ p := ne_of_none h hp
  exact ⟨by rw [upd_ne ne]; exact h, fun z => z.elim n ne⟩, fun a u h m n => by
  have ne : a ≠ p := ne_of_none h hp
  exact ⟨by rw [upd_ne ne]; exact h, .inl m, by rw [Sto.put_ne ne]; exact n⟩⟩
theorem add_tr (hp : H p = none) (x : Ob) : Tr K M S H (M.add p) (S.put p x) (upd H p o) := (add_tr0 hp x).weak
theorem add_st (r : StD K M H S) (hp : H p = none) {x : Ob} (hx : ObD K (M.add p) (upd H p o) p x) : StD K (M.add p) (upd H p o) (S.put p x) := by
  have nn : ∀ a, M a → a ≠ p := fun a h z => by
    subst z
    exact r.tr a h hp
  refine ⟨fun a y h => ?_, fun a h => ?_, fun a h => ?_, r.tab.step (add_tr0 (K := K) hp x)⟩
  · by_cases e : a = p
    · subst e
      rw [Sto.put_same] at h
      cases h
      exact hx
    · rw [Sto.put_ne e] at h
      exact obD_tr r (add_tr hp x) (r.ob a y h) (upd_ne e)
  · by_cases e : a = p
    · exact .inr e
    · rw [Sto.put_ne e] at h
      exact .inl (r.mu a h)
  · by_cases e : a = p
    · subst e
      rw [upd_same]
      simp
    · rw [upd_ne e]
      exact r.tr a (h.resolve_right e)
/-- an object of the store is changed -/
theorem set_tr0 (r : StD K M H S) {a : Addr} {y x : Ob} (h : S a = some y) : Tr0 K M S H M (S.put a x) (upd H a o) := ⟨fun b u hb n => by
  have ne : b ≠ a := fun z => by
    subst z
    exact n (r.mu b (by rw [h]; simp))
  exact ⟨by rw [upd_ne ne]; exact hb, n⟩, fun b u hb m n => by
  have ne : b ≠ a := fun z => by
    subst z
    rw [h] at n
    cases n
  exact ⟨by rw [upd_ne ne]; exact hb, m, by rw [Sto.put_ne ne]; exact n⟩⟩
theorem set_tr (r : StD K M H S) {a : Addr} {y x : Ob} (h : S a = some y) : Tr K M S H M (S.put a x) (upd H a o) := (set_tr0 r h).weak
theorem set_st (r : StD K M H S) {a : Addr} {y x : Ob} (h : S a = some y) (hx : ObD K M (upd H a o) a x) : StD K M (upd H a o) (S.put a x) := by
  refine ⟨fun b z hb => ?_, fun b hb => ?_, fun b hb => ?_, r.tab.step (set_tr0 r (x := x) h)⟩
  · by_cases e : b = a
    · subst e
      rw [Sto.put_same] at hb
      cases hb
      exact hx
    · rw [Sto.put_ne e] at hb
      exact obD_tr r (set_tr r (x := x) h) (r.ob b z hb) (upd_ne e)
  · by_cases e : b = a
    · subst e
      exact r.mu b (by rw [h]; simp)
    · rw [Sto.put_ne e] at hb
      exact r.mu b hb
  · by_cases e : b = a
    · subst e
      rw [upd_same]
      simp
    · rw [upd_ne e]
      exact r.tr b hb
end

section
variable {X : Cx} {W : WX} {k : Nat} {pos : Pos} {a b c : Expr} {wa wb wc : WE} {es : List Expr} {ws : WA}
/-! ### tuples and lists written out -/
def wTup (ws : WA) : WE := fun Γ S Q E => ws Γ S (fun ds S1 => ds.length ≤ sizeLine ∧ Q (.tup ds) S1) E
def wLst (ws : WA) : WE := fun Γ S Q E => ws Γ S (fun ds S1 => ds.length ≤ sizeLine ∧ Q (.lst ds) S1) E
/-- a list that may be written later -/
def wLstM (ws : WA) : WE := fun Γ S Q E => ws Γ S (fun ds S1 => ds.length ≤ sizeLine ∧ ∀ p, S1 p = none → Q (.ref p) (S1.put p (.lst ds))) E
theorem se_tup {x1} (h : SA X W es ws) : SE X W (.Tuple es x1 pos) (wTup ws) := by
  refine ⟨pe_imp (pe_tup h.pa) fun σ H Q h => ?_⟩
  obtain ⟨M, Γ, S, Q', E', r, e, h, oq, ox⟩ := h
  refine ⟨M, Γ, S, _, E', r, e, h, ?_, ox⟩
  rintro M1 S1 H1 t1 r1 ds vs hd ⟨hl, hq⟩
  refine ⟨by rw [denL_len hd]; exact hl, fun p hp => ?_⟩
  refine oq M1 S1 _ (t1.trans (new_tr hp)) (new_st r1 hp) _ _ ?_ hq
  simp only [Den]
  exact ⟨p, vs, rfl, .inl ⟨upd_same, new_mu r1 hp⟩, denL_tr r1 (new_tr hp) ds vs hd⟩
theorem se_lst (h : SA X W es ws) : SE X W (.List es pos) (wLst ws) := by
  refine ⟨pe_imp (pe_lst h.pa) fun σ H Q h => ?_⟩
  obtain ⟨M, Γ, S, Q', E', r, e, h, oq, ox⟩ := h
  refine ⟨M, Γ, S, _, E', r, e, h, ?_, ox⟩
  rintro M1 S1 H1 t1 r1 ds vs hd ⟨hl, hq⟩
  refine ⟨by rw [denL_len hd]; exact hl, fun p hp => ?_⟩
  refine oq M1 S1 _ (t1.trans (new_tr hp)) (new_st r1 hp) _ _ ?_ hq
  simp only [Den]
  exact ⟨p, vs, rfl, upd_same, new_mu r1 hp, denL_tr r1 (new_tr hp) ds vs hd⟩
theorem se_lstM (h : SA X W es ws) : SE X W (.List es pos) (wLstM ws) := by
  refine ⟨pe_imp (pe_lst h.pa) fun σ H Q h => ?_⟩
  obtain ⟨M, Γ, S, Q', E', r, e, h, oq, ox⟩ := h
  refine ⟨M, Γ, S, _, E', r, e, h, ?_, ox⟩
  rintro M1 S1 H1 t1 r1 ds vs hd ⟨hl, hq⟩
  refine ⟨by rw [denL_len hd]; exact hl, fun p hp => ?_⟩
  have t2 : Tr X.K M1 S1 H1 (M1.add p) (S1.put p (.lst ds)) (upd H1 p (.lst vs)) := add_tr hp _
  refine oq _ _ _ (t1.trans t2) (add_st r1 hp ⟨vs, upd_same, denL_tr r1 t2 ds vs hd⟩) _ _ ?_ (hq p (new_no r1 hp))
  simp only [Den]

/-! ### items -/
/-- the items of a list or a tuple -/
def Sq (S : Sto) : D → List D → Prop
  | .tup ds, xs => ds = xs
  | .lst ds, xs => ds = xs
  | .scr ns, xs => ns.map D.int = xs
  | .ref a, xs => S a = some (.lst xs)
  | _, _ => False
def isT : D → Bool
  | .tup _ => true
  | _ => false
theorem sq_den {K : PySem.W.Frag} {M : Mu} {S : Sto} {H : Hp} {d : D} {xs : List D} {v : V} (r : StD K M H S) (h : Den K M H d v) (q : Sq S d xs) :
    ∃ p vs, v = .ref p ∧ DenL K M H xs vs ∧ ((isT d = false ∧ SqL K H p vs) ∨ (d = .tup xs ∧ TupAt K M H p vs)) := by
  cases d with
  | tup ds =>
    simp only [Den] at h
    obtain ⟨p, vs, e, h1, h2⟩ := h
    cases (show ds = xs from q)
    exact ⟨p, vs, e, h2, .inr ⟨rfl, h1⟩⟩
  | lst ds =>
    simp only [Den] at h
    obtain ⟨p, vs, e, h1, m, h2⟩ := h
    cases (show ds = xs from q)
    exact ⟨p, vs, e, h2, .inl ⟨rfl, SqL.of h1⟩⟩
  | scr ns =>
    simp only [Den] at h
    obtain ⟨p, e, h1⟩ := h
    cases (show ns.map D.int = xs from q)
    exact ⟨p, _, e, denL_ints, .inl ⟨rfl, h1.sq⟩⟩
  | ref a =>
    simp only [Den] at h
    obtain ⟨vs, h1, h2⟩ := r.ob a _ q
    exact ⟨a, vs, h, h2, .inl ⟨rfl, SqL.of h1⟩⟩
  | _ => exact False.elim q
def OIx (X : Cx) (rd : RD) : Prop := IxR X (liftR X.K rd)
/-- xs[i] -/
def dIx : RD := fun x y S Q => ∃ i, y = .int i ∧ match x with
  | .str z => z.length ≤ sizeLine ∧ ∃ c, atI z.cps.toList i = some c ∧ Q (.str ⟨#[c]⟩) S
  | _ => ∃ xs d, Sq S x xs ∧ atI xs i = some d ∧ Q d S
theorem atI_den {K : PySem.W.Frag} {M : Mu} {H : Hp} {ds : List D} {vs : List V} {i : Int} {d : D} (h : DenL K M H ds vs) (e : atI ds i = some d) : ∃ v, atI vs i = some v ∧ Den K M H d v := by
  unfold atI at e ⊢
  rw [denL_len h]
  cases q : ixN ds.length i with
  | none =>
    rw [q] at e
    cases e
  | some j =>
    rw [q] at e
    exact denL_get h e
theorem oix : OIx X dIx := by
  intro value slice pins s σ H x y v u Q I rx ry q hsub
  obtain ⟨M, S, d, e, Q', r, h1, h2, ⟨i, rfl, hq⟩, oq⟩ := q
  refine ix_seq value slice pins s σ H x y v u Q I rx ry ?_ hsub
  simp only [Den] at h2
  have gen : (∃ xs d', Sq S d xs ∧ atI xs i = some d' ∧ Q' d' S) → rIx X.K x y H Q := by
    rintro ⟨xs, d', hs, ha, hq⟩
    obtain ⟨p, vs, e1, e2, e3⟩ := sq_den r h1 hs
    obtain ⟨w, e4, e5⟩ := atI_den e2 ha
    rcases e3 with ⟨_, e3⟩ | ⟨_, e3⟩
    · exact .inl ⟨p, vs, i, w, e1, h2, e3, e4, oq.now r _ _ e5 hq⟩
    · exact .inr (.inl ⟨p, vs, i, w, e1, h2, e3.sq, e4, oq.now r _ _ e5 hq⟩)
  cases d with
  | str z =>
    obtain ⟨hz, c, hc, hq⟩ := hq
    simp only [Den] at h1
    exact .inr (.inr ⟨z, i, c, h1, h2, hz, hc, oq.now r _ _ (by simp only [Den]) hq⟩)
  | _ => exact gen hq
theorem se_ix {rd : RD} (hr : OIx X rd) (ha : SE X W a wa) (hb : SE X W b wb) (hs : PlainIx b := by exact fun _ _ => rfl) : SE X W (.Subscript a b pos) (wBin rd wa wb) :=
  ⟨pe_imp (pe_ix hr ha.pe hb.pe hs) fun _ _ _ h => lift_bin h⟩

/-! ### slices -/
abbrev WO := Gm → Sto → (Option Int → Sto → Prop) → EK → Prop
def liftO (K : PySem.W.Frag) (W : WX) (w : WO) : TO := fun σ H Q => ∃ M Γ S Q' E', StD K M H S ∧ EnvD K M H Γ σ ∧ w Γ S Q' E' ∧ (Fut K M S H fun M' S' H' => ∀ o, Q' o S' → Q o H') ∧ OkX K W σ M S H E'
structure SO (X : Cx) (W : WX) (e : Option Expr) (w : WO) : Prop where
  po : PO X e (liftO X.K W w)
def wNo : WO := fun _ S Q _ => Q none S
def wPart (wa : WE) : WO := fun Γ S Q E => wa Γ S (fun d S1 => ∃ i, d = .int i ∧ Q (some i) S1) E
theorem po_imp {e : Option Expr} {t t' : TO} (h : PO X e t) (i : ∀ σ H Q, t' σ H Q → t σ H Q) : PO X e t' := ⟨fun p s σ H Q I q => h.run p s σ H Q I (i σ H Q q)⟩
theorem so_none : SO X W none wNo := ⟨po_imp po_none fun σ H Q h => by
  obtain ⟨M, Γ, S, Q', E', r, e, h, oq, ox⟩ := h
  exact oq.now r none h⟩
theorem so_some (ha : SE X W a wa) : SO X W (some a) (wPart wa) := ⟨po_imp (po_some ha.pe) fun σ H Q h => by
  obtain ⟨M, Γ, S, Q', E', r, e, h, oq, ox⟩ := h
  refine ⟨M, Γ, S, _, E', r, e, h, ?_, ox⟩
  rintro M1 S1 H1 t1 r1 d v hd ⟨i, rfl, hq⟩
  simp only [Den] at hd
  exact ⟨i, hd, oq M1 S1 H1 t1 r1 _ hq⟩⟩
def cutD {α : Type} (xs : List α) (lo hi : Option Int) : List α := (xs.drop (HT.sIx xs.length 0 lo)).take (HT.sIx xs.length xs.length hi - HT.sIx xs.length 0 lo)
theorem cut_den {K : PySem.W.Frag} {M : Mu} {H : Hp} {ds : List D} {vs : List V} (h : DenL K M H ds vs) (lo hi : Option Int) : DenL K M H (cutD ds lo hi) (cutV vs lo hi) := by
  unfold cutD cutV
  rw [denL_len h]
  exact denL_take _ (denL_drop _ h)
abbrev RSl := D → Option Int → Option Int → Sto → QK → Prop
def dSl : RSl := fun x lo hi S Q => match x with
  | .str z => z.length ≤ sizeLine ∧ Q (.str (cutS z lo hi)) S
  | .tup ds => Q (.tup (cutD ds lo hi)) S
  | _ => ∃ xs, Sq S x xs ∧ Q (.lst (cutD xs lo hi)) S
def liftSl (K : PySem.W.Frag) (rd : RSl) : V → Option Int → Option Int → Hp → VK → Prop := fun x lo hi H Q => ∃ M S d Q', StD K M H S ∧ Den K M H d x ∧ rd d lo hi S Q' ∧ OkQ K M S H Q' Q
theorem osl : SlR X (liftSl X.K dSl) := by
  intro pins s σ H x v vl vu lo hi sl Q I rx hs pl pu q
  obtain ⟨M, S, d, Q', r, hd, hq, oq⟩ := q
  have gen : (∃ xs, Sq S d xs ∧ isT d = false ∧ Q' (.lst (cutD xs lo hi)) S) → rSlL X.K x lo hi H Q := by
    rintro ⟨xs, hsq, nt, hq⟩
    obtain ⟨p, vs, e1, e2, e3⟩ := sq_den r hd hsq
    have e4 : SqL X.K H p vs := by
      rcases e3 with ⟨_, e3⟩ | ⟨e3, _⟩
      · exact e3
      · rw [e3] at nt
        cases nt
    refine ⟨p, vs, e1, e4, fun p' hp => ?_⟩
    refine oq M S _ (new_tr hp) (new_st r hp) _ _ ?_ hq
    simp only [Den]
    exact ⟨p', _, rfl, upd_same, new_mu r hp, denL_tr r (new_tr hp) _ _ (cut_den e2 lo hi)⟩
  cases d with
  | str z =>
    obtain ⟨hz, hq⟩ := hq
    simp only [Den] at hd
    exact sl_str pins s σ H x v vl vu lo hi sl Q I rx hs pl pu ⟨z, hd, hz, oq.now r _ _ (by simp only [Den]) hq⟩
  | tup ds =>
    have hq : Q' (.tup (cutD ds lo hi)) S := hq
    refine sl_tupA pins s σ H x v vl vu lo hi sl Q I rx hs pl pu ?_
    have hd0 := hd
    simp only [Den] at hd
    obtain ⟨p, vs, e1, e2, e3⟩ := hd
    refine ⟨p, vs, e1, e2.sq, fun hw => ?_, fun _ p' hp => ?_⟩
    · have ec : cutD ds lo hi = ds := by
        unfold cutD
        rw [← denL_len e3, hw.1, hw.2, denL_len e3, List.drop_zero, Nat.sub_zero, List.take_length]
      rw [ec] at hq
      rw [e1] at hd0
      exact oq.now r _ _ hd0 hq
    · refine oq M S _ (new_tr hp) (new_st r hp) _ _ ?_ hq
      simp only [Den]
      exact ⟨p', _, rfl, .inl ⟨upd_same, new_mu r hp⟩, denL_tr r (new_tr hp) _ _ (cut_den e3 lo hi)⟩
  | lst ds =>
    obtain ⟨xs, h1, h2⟩ := hq
    exact sl_list pins s σ H x v vl vu lo hi sl Q I rx hs pl pu (gen ⟨xs, h1, rfl, h2⟩)
  | scr ds =>
    obtain ⟨xs, h1, h2⟩ := hq
    exact sl_list pins s σ H x v vl vu lo hi sl Q I rx hs pl pu (gen ⟨xs, h1, rfl, h2⟩)
  | ref ds =>
    obtain ⟨xs, h1, h2⟩ := hq
    exact sl_list pins s σ H x v vl vu lo hi sl Q I rx hs pl pu (gen ⟨xs, h1, rfl, h2⟩)
  | _ =>
    obtain ⟨xs, h1, h2⟩ := hq
    exact False.elim h1
def wSl (rd : RSl) (wa : WE) (wl wh : WO) : WE := fun Γ S Q E => wa Γ S (fun d S1 => wl Γ S1 (fun l S2 => wh Γ S2 (fun u S3 => rd d l u S3 Q) E) E) E
theorem se_slice {rd : RSl} {lo hi : Option Expr} {wl wh : WO} {p2 : Pos} (hr : SlR X (liftSl X.K rd)) (ha : SE X W a wa) (hl : SO X W lo wl) (hh : SO X W hi wh) : SE X W (.Subscript a (.Slice lo hi none p2) pos) (wSl rd wa wl wh) := by
  refine ⟨pe_imp (pe_slice hr ha.pe hl.po hh.po) fun σ H Q h => ?_⟩
  obtain ⟨M, Γ, S, Q', E', r, e, h, oq, ox⟩ := h
  refine ⟨M, Γ, S, _, E', r, e, h, ?_, ox⟩
  intro M1 S1 H1 t1 r1 d v hd hq
  refine ⟨M1, Γ, S1, _, E', r1, envD_tr r t1 e, hq, ?_, ox.at t1⟩
  intro M2 S2 H2 t2 r2 l hq2
  refine ⟨M2, Γ, S2, _, E', r2, envD_tr r (t1.trans t2) e, hq2, ?_, ox.at (t1.trans t2)⟩
  intro M3 S3 H3 t3 r3 u hq3
  exact ⟨M3, S3, d, Q', r3, den_tr r1 (t2.trans t3) d v hd, hq3, oq.at ((t1.trans t2).trans t3)⟩

/-! ### built-in functions and types, called -/
abbrev RC := List D → Sto → QK → Prop
def liftC (K : PySem.W.Frag) (rc : RC) : List V → Hp → VK → Prop := fun vs H Q => ∃ M S ds Q', StD K M H S ∧ DenL K M H ds vs ∧ rc ds S Q' ∧ OkQ K M S H Q' Q
def OC (X : Cx) (f : Value) (rc : RC) : Prop := CallR X f (liftC X.K rc)
def wCB (rc : RC) (ws : WA) : WE := fun Γ S Q E => ws Γ S (fun ds S1 => rc ds S1 Q) E
theorem lift_cb {K : PySem.W.Frag} {rc : RC} {σ : St} {H : Hp} {Q : VK} (h : liftE K W (wCB rc ws) σ H Q) : tCB (liftC K rc) (liftA K W ws) σ H Q := by
  obtain ⟨M, Γ, S, Q', E', r, e, h, oq, ox⟩ := h
  refine ⟨M, Γ, S, _, E', r, e, h, ?_, ox⟩
  intro M1 S1 H1 t1 r1 ds vs hd hq
  exact ⟨M1, S1, ds, Q', r1, hd, hq, oq.at t1⟩
theorem se_callB {x : Str} {p : Pos} {id : String} {rc : RC} (hc : OC X (.builtin id) rc) (hg : Gl X x) (hm : X.mg x = none) (hv : bootBuiltins x = some (.builtin id)) (ha : SA X W (a :: es) ws) (hn : x ≠ "__name__" := by decide) (hdb : (x == ("__debug__" : Str)) = false := by decide)
    (hs : starEach (a :: es) X.env = (false, eval a X.env) :: starEach es X.env := by rfl) (hpl : (backTo pos (starEach es X.env)).any (·.1) = false := by rfl) : SE X W (.Call (.Name x p) (a :: es) [] pos) (wCB rc ws) :=
  ⟨pe_imp (pe_callB hc hg hm hv ha.pa hn hdb hs hpl) fun _ _ _ h => lift_cb h⟩
theorem se_callTy {x : Str} {p : Pos} {id : String} {rc : RC} (hc : OC X (.type id) rc) (hg : Gl X x) (hm : X.mg x = none) (hv : bootBuiltins x = some (.type id)) (ha : SA X W (a :: es) ws) (hn : x ≠ "__name__" := by decide) (hdb : (x == ("__debug__" : Str)) = false := by decide)
    (hs : starEach (a :: es) X.env = (false, eval a X.env) :: starEach es X.env := by rfl) (hpl : (backTo pos (starEach es X.env)).any (·.1) = false := by rfl) : SE X W (.Call (.Name x p) (a :: es) [] pos) (wCB rc ws) :=
  ⟨pe_imp (pe_callTy hc hg hm hv ha.pa hn hdb hs hpl) fun _ _ _ h => lift_cb h⟩
theorem denL_one {K : PySem.W.Frag} {M : Mu} {H : Hp} {d : D} {vs : List V} (h : DenL K M H [d] vs) : ∃ v, vs = [v] ∧ Den K M H d v := by
  simp only [DenL] at h
  obtain ⟨v, r, rfl, h1, rfl⟩ := h
  exact ⟨v, rfl, h1⟩
theorem denL_two {K : PySem.W.Frag} {M : Mu} {H : Hp} {d e : D} {vs : List V} (h : DenL K M H [d, e] vs) : ∃ v u, vs = [v, u] ∧ Den K M H d v ∧ Den K M H e u := by
  simp only [DenL] at h
  obtain ⟨v, r, rfl, h1, u, r', rfl, h2, rfl⟩ := h
  exact ⟨v, u, rfl, h1, h2⟩
theorem oc_of {f : Value} {r : List V → Hp → VK → Prop} {rc : RC} (h : CallR X f r) (i : ∀ M S H ds vs Q' Q, StD X.K M H S → DenL X.K M H ds vs → rc ds S Q' → OkQ X.K M S H Q' Q → r vs H Q) : OC X f rc := by
  intro pins s σ H xs us Q I rx q
  obtain ⟨M, S, ds, Q', r, h1, hq, oq⟩ := q
  exact h pins s σ H xs us Q I rx (i M S H ds xs Q' Q r h1 hq oq)
/-- len -/
def rLenD : RC := fun ds S Q => ∃ d, ds = [d] ∧ match d with
  | .str z => z.length ≤ sizeLine ∧ Q (.int z.length) S
  | _ => ∃ xs, Sq S d xs ∧ Q (.int xs.length) S
theorem oc_len : OC X (.builtin "len") rLenD := oc_of call_len fun M S H ds vs Q' Q r h1 hq oq => by
  obtain ⟨d, rfl, hq⟩ := hq
  obtain ⟨v, rfl, hv⟩ := denL_one h1
  have gen : (∃ xs, Sq S d xs ∧ Q' (.int xs.length) S) → ∃ x n, [v] = [x] ∧ LenV X.K x H n ∧ Q (.int n) H := by
    rintro ⟨xs, hs, hq⟩
    obtain ⟨p, ws, e1, e2, e3⟩ := sq_den r hv hs
    have el := denL_len e2
    subst e1
    refine ⟨.ref p, ws.length, rfl, ?_, by rw [el]; exact oq.now r _ _ (by simp only [Den]) hq⟩
    rcases e3 with ⟨_, e3⟩ | ⟨_, e3⟩
    · exact .inl ⟨ws, e3, rfl⟩
    · exact .inr ⟨ws, e3.sq, rfl⟩
  cases d with
  | str z =>
    obtain ⟨hz, hq⟩ := hq
    simp only [Den] at hv
    subst hv
    exact ⟨.str z, z.length, rfl, ⟨hz, rfl⟩, oq.now r _ _ (by simp only [Den]) hq⟩
  | _ => exact gen hq
/-- abs, int of a number or a flag -/
def rAbsD : RC := fun ds S Q => ∃ i, ds = [.int i] ∧ Q (.int (if i < 0 then -i else i)) S
theorem oc_abs : OC X (.builtin "abs") rAbsD := oc_of call_abs fun M S H ds vs Q' Q r h1 hq oq => by
  obtain ⟨i, rfl, hq⟩ := hq
  obtain ⟨v, rfl, hv⟩ := denL_one h1
  simp only [Den] at hv
  subst hv
  exact ⟨i, rfl, oq.now r _ _ (by simp only [Den]) hq⟩
def rIntD : RC := fun ds S Q => ∃ d, ds = [d] ∧ match d with
  | .int i => Q (.int i) S
  | .bl b => Q (.int (if b then 1 else 0)) S
  | _ => False
theorem oc_int : OC X (.type "int") rIntD := oc_of call_int1 fun M S H ds vs Q' Q r h1 hq oq => by
  obtain ⟨d, rfl, hq⟩ := hq
  obtain ⟨v, rfl, hv⟩ := denL_one h1
  cases d with
  | int i =>
    simp only [Den] at hv
    subst hv
    exact .inl ⟨i, rfl, oq.now r _ _ (by simp only [Den]) hq⟩
  | bl i =>
    simp only [Den] at hv
    subst hv
    exact .inr ⟨i, rfl, oq.now r _ _ (by simp only [Den]) hq⟩
  | _ => exact False.elim hq
/-- all, any, sum of a list -/
def rAllD : RC := fun ds S Q => ∃ (d : D) (bs : List Bool), ds = [d] ∧ d = .lst (bs.map D.bl) ∧ Q (.bl (bs.all id)) S
theorem lst_den {K : PySem.W.Frag} {M : Mu} {H : Hp} {ds : List D} {v : V} (h : Den K M H (.lst ds) v) : ∃ a vs, v = .ref a ∧ SqL K H a vs ∧ H a = some (.lst vs) ∧ ¬ M a ∧ DenL K M H ds vs := by
  simp only [Den] at h
  obtain ⟨a, vs, e, h1, h2, h3⟩ := h
  exact ⟨a, vs, e, SqL.of h1, h1, h2, h3⟩
theorem oc_all (hc : X.calm = true) : OC X (.builtin "all") rAllD := oc_of (cr_all hc) fun M S H ds vs Q' Q r h1 hq oq => by
  obtain ⟨d, bs, rfl, rfl, hq⟩ := hq
  obtain ⟨v, rfl, hv⟩ := denL_one h1
  obtain ⟨a, ws, rfl, hs, _, _, h3⟩ := lst_den hv
  rw [denL_bls_eq h3] at hs
  exact ⟨a, bs, rfl, hs, oq.now r _ _ (by simp only [Den]) hq⟩
def rAnyD : RC := fun ds S Q => ∃ (d : D) (bs : List Bool), ds = [d] ∧ d = .lst (bs.map D.bl) ∧ Q (.bl (bs.any id)) S
theorem oc_any (hc : X.calm = true) : OC X (.builtin "any") rAnyD := oc_of (cr_any hc) fun M S H ds vs Q' Q r h1 hq oq => by
  obtain ⟨d, bs, rfl, rfl, hq⟩ := hq
  obtain ⟨v, rfl, hv⟩ := denL_one h1
  obtain ⟨a, ws, rfl, hs, _, _, h3⟩ := lst_den hv
  rw [denL_bls_eq h3] at hs
  exact ⟨a, bs, rfl, hs, oq.now r _ _ (by simp only [Den]) hq⟩
def rSumD : RC := fun ds S Q => ∃ (d : D) (ns : List Int), ds = [d] ∧ d = .lst (ns.map D.int) ∧ Q (.int ns.sum) S
theorem oc_sum (hc : X.calm = true) : OC X (.builtin "sum") rSumD := oc_of (cr_sum hc) fun M S H ds vs Q' Q r h1 hq oq => by
  obtain ⟨d, bs, rfl, rfl, hq⟩ := hq
  obtain ⟨v, rfl, hv⟩ := denL_one h1
  obtain ⟨a, ws, rfl, hs, _, _, h3⟩ := lst_den hv
  rw [denL_ints_eq h3] at hs
  exact ⟨a, bs, rfl, hs, oq.now r _ _ (by simp only [Den]) hq⟩
/-- list(xs), tuple(xs): new ones -/
def rListD : RC := fun ds S Q => ∃ d xs, ds = [d] ∧ Sq S d xs ∧ Q (.lst xs) S
def rListM : RC := fun ds S Q => ∃ d xs, ds = [d] ∧ Sq S d xs ∧ ∀ p, S p = none → Q (.ref p) (S.put p (.lst xs))
theorem oc_list : OC X (.type "list") rListD := oc_of call_list_of fun M S H ds vs Q' Q r h1 hq oq => by
  obtain ⟨d, xs, rfl, hs, hq⟩ := hq
  obtain ⟨v, rfl, hv⟩ := denL_one h1
  obtain ⟨p, ws, rfl, e2, e3⟩ := sq_den r hv hs
  refine ⟨p, ws, rfl, e3.imp (fun z => z.2) (fun z => z.2.sq), fun l hl => ?_⟩
  refine oq M S _ (new_tr hl) (new_st r hl) _ _ ?_ hq
  simp only [Den]
  exact ⟨l, ws, rfl, upd_same, new_mu r hl, denL_tr r (new_tr hl) _ _ e2⟩
theorem oc_listM : OC X (.type "list") rListM := oc_of call_list_of fun M S H ds vs Q' Q r h1 hq oq => by
  obtain ⟨d, xs, rfl, hs, hq⟩ := hq
  obtain ⟨v, rfl, hv⟩ := denL_one h1
  obtain ⟨p, ws, rfl, e2, e3⟩ := sq_den r hv hs
  refine ⟨p, ws, rfl, e3.imp (fun z => z.2) (fun z => z.2.sq), fun l hl => ?_⟩
  have t2 : Tr X.K M S H (M.add l) (S.put l (.lst xs)) (upd H l (.lst ws)) := add_tr hl _
  refine oq _ _ _ t2 (add_st r hl ⟨ws, upd_same, denL_tr r t2 _ _ e2⟩) _ _ ?_ (hq l (new_no r hl))
  simp only [Den]
def rTupD : RC := fun ds S Q => ∃ d xs, ds = [d] ∧ Sq S d xs ∧ Q (.tup xs) S
theorem oc_tup : OC X (.type "tuple") rTupD := oc_of call_tuple_of fun M S H ds vs Q' Q r h1 hq oq => by
  obtain ⟨d, xs, rfl, hs, hq⟩ := hq
  obtain ⟨v, rfl, hv⟩ := denL_one h1
  obtain ⟨p, ws, rfl, e2, e3⟩ := sq_den r hv hs
  refine ⟨p, ws, rfl, ?_⟩
  rcases e3 with ⟨_, e3⟩ | ⟨rfl, e3⟩
  · refine .inl ⟨e3, fun l hl => ?_⟩
    refine oq M S _ (new_tr hl) (new_st r hl) _ _ ?_ hq
    simp only [Den]
    exact ⟨l, ws, rfl, .inl ⟨upd_same, new_mu r hl⟩, denL_tr r (new_tr hl) _ _ e2⟩
  · refine .inr ⟨e3.sq, oq.now r (.tup xs) (.ref p) ?_ hq⟩
    simp only [Den]
    exact ⟨p, ws, rfl, e3, e2⟩
end
end PL
end
/-! from PL3.lean -/
section
/-! PL3: statements, targets, loops. -/
namespace PL
open PySem L2
variable [TabCtx]

section
variable {K : PySem.W.Frag} {M M' : Mu} {S S' : Sto} {H H' : Hp}
theorem envD_set {Γ : Gm} {σ : St} {i : Nat} {d : D} {v : V} (e : EnvD K M H Γ σ) (h : Den K M H d v) : EnvD K M H (Γ.set i (some d)) (σ.set i (some v)) := by
  refine ⟨by rw [List.length_set, List.length_set]; exact e.1, fun j x hj => ?_⟩
  by_cases z : i = j
  · subst z
    have hl : i < Γ.length := by
      have := (List.getElem?_eq_some_iff.mp hj).1
      rwa [List.length_set] at this
    rw [List.getElem?_set_self hl] at hj
    have hx : d = x := Option.some.inj (Option.some.inj hj)
    subst hx
    exact ⟨v, by rw [List.getElem?_set_self (by rw [← e.1]; exact hl)], h⟩
  · rw [List.getElem?_set_ne z] at hj
    obtain ⟨w, h1, h2⟩ := e.2 j x hj
    exact ⟨w, by rw [List.getElem?_set_ne z]; exact h1, h2⟩
theorem okx_of {W : WX} {Γ : Gm} {σ : St} {E' : EKS} (r : StD K M H S) (e : EnvD K M H Γ σ) (ox : OkXS K W M S H E') : OkX K W σ M S H (fun c fs S1 => E' c fs Γ S1) :=
  fun M' S' H' t r' c fs dd hx hq => ox M' S' H' t r' c fs dd Γ σ (envD_tr r t e) hx hq
end

abbrev EK.of (E : EKS) (Γ : Gm) : EK := fun c fs S1 => E c fs Γ S1
section
variable {X : Cx} {W : WX} {k : Nat} {pos : Pos} {a b c : Expr} {wa wb wc : WE} {es : List Expr} {ws : WA} {wt : WT} {st : Stmt} {rest : List Stmt} {w u z : WS}
/-! ### blocks -/
def wNext : WS := fun N _ Γ S => N.nx Γ S
def wSeq (w u : WS) : WS := fun N E Γ S => w { N with nx := u N E } E Γ S
theorem sss_nil : SSs X W [] wNext := ⟨pss_imp pss_nil fun D σ H h => by
  obtain ⟨M, Γ, S, D', E', r, e, h, od, ox⟩ := h
  exact od.nx.now r Γ σ e h⟩
theorem okd_nx {K : PySem.W.Frag} {M : Mu} {S : Sto} {H : Hp} {D' : Nd} {D : Ends} {u : WS} {E' : EKS} (od : OkD K M S H D' D) (ox : OkXS K W M S H E') : OkD K M S H { D' with nx := u D' E' } { D with nx := liftS K W u D } :=
  ⟨fun M1 S1 H1 t1 r1 Γ σ e h => ⟨M1, Γ, S1, D', E', r1, e, h, od.at t1, ox.at t1⟩, od.rt, od.bk, od.ct⟩
theorem sss_cons (h1 : SS X W st w) (h2 : SSs X W rest u) : SSs X W (st :: rest) (wSeq w u) := ⟨pss_imp (pss_cons h1.ps h2.ps) fun D σ H h => by
  obtain ⟨M, Γ, S, D', E', r, e, h, od, ox⟩ := h
  exact ⟨M, Γ, S, _, E', r, e, h, okd_nx od ox, ox⟩⟩
theorem sss_one (h1 : SS X W st w) : SSs X W [st] w := ⟨pss_one h1.ps⟩
theorem ss_pass : SS X W (.Pass pos) wNext := ⟨ps_imp ps_pass fun D σ H h => by
  obtain ⟨M, Γ, S, D', E', r, e, h, od, ox⟩ := h
  exact od.nx.now r Γ σ e h⟩
def wBreak : WS := fun N _ Γ S => N.bk Γ S
def wCont : WS := fun N _ Γ S => N.ct Γ S
theorem ss_break : SS X W (.Break pos) wBreak := ⟨ps_imp ps_break fun D σ H h => by
  obtain ⟨M, Γ, S, D', E', r, e, h, od, ox⟩ := h
  exact od.bk.now r Γ σ e h⟩
theorem ss_cont : SS X W (.Continue pos) wCont := ⟨ps_imp ps_continue fun D σ H h => by
  obtain ⟨M, Γ, S, D', E', r, e, h, od, ox⟩ := h
  exact od.ct.now r Γ σ e h⟩
def wNever : WS := fun _ _ _ _ => False
theorem ss_never : SS X W st wNever := ⟨ps_imp ps_never fun D σ H h => by
  obtain ⟨M, Γ, S, D', E', r, e, h, od, ox⟩ := h
  exact h⟩
def wDrop (wa : WE) : WS := fun N E Γ S => wa Γ S (fun _ S1 => N.nx Γ S1) (EK.of E Γ)
theorem ss_expr (ha : SE X W a wa) (hs : swapsWith a none pos.line X.env = pure false := by rfl) : SS X W (.Expr a pos) (wDrop wa) := ⟨ps_imp (ps_expr ha.pe hs) fun D σ H h => by
  obtain ⟨M, Γ, S, D', E', r, e, h, od, ox⟩ := h
  exact ⟨M, Γ, S, _, _, r, e, h, fun M1 S1 H1 t1 r1 d v hd hq => od.nx M1 S1 H1 t1 r1 Γ σ (envD_tr r t1 e) hq, okx_of r e ox⟩⟩
def wRet (wa : WE) : WS := fun N E Γ S => wa Γ S N.rt (EK.of E Γ)
theorem ss_ret (ha : SE X W a wa) : SS X W (.Return (some a) pos) (wRet wa) := ⟨ps_imp (ps_ret ha.pe) fun D σ H h => by
  obtain ⟨M, Γ, S, D', E', r, e, h, od, ox⟩ := h
  exact ⟨M, Γ, S, _, _, r, e, h, od.rt, okx_of r e ox⟩⟩
def wRetN : WS := fun N _ _ S => N.rt .non S
theorem ss_retN : SS X W (.Return none pos) wRetN := ⟨ps_imp ps_retN fun D σ H h => by
  obtain ⟨M, Γ, S, D', E', r, e, h, od, ox⟩ := h
  exact od.rt.now r _ _ (by simp only [Den]) h⟩
def wIfS (t : WT) (w u : WS) : WS := fun N E Γ S => t Γ S (fun b S1 => if b = true then w N E Γ S1 else u N E Γ S1) (EK.of E Γ)
theorem ss_if {sa sb : List Stmt} (hc : ST X W c wt) (ha : SSs X W sa w) (hb : SSs X W sb u) : SS X W (.If c sa sb pos) (wIfS wt w u) := ⟨ps_imp (ps_if hc.pt ha.ps hb.ps) fun D σ H h => by
  obtain ⟨M, Γ, S, D', E', r, e, h, od, ox⟩ := h
  refine ⟨M, Γ, S, _, _, r, e, h, ?_, okx_of r e ox⟩
  intro M1 S1 H1 t1 r1 b hq
  cases b with
  | true => exact ⟨M1, Γ, S1, D', E', r1, envD_tr r t1 e, hq, od.at t1, ox.at t1⟩
  | false => exact ⟨M1, Γ, S1, D', E', r1, envD_tr r t1 e, hq, od.at t1, ox.at t1⟩⟩

/-! ### stores -/
def wSet (i : Nat) (wa : WE) : WS := fun N E Γ S => wa Γ S (fun d S1 => N.nx (Γ.set i (some d)) S1) (EK.of E Γ)
theorem lift_set {K : PySem.W.Frag} {i : Nat} {D : Ends} {σ : St} {H : Hp} (h : liftS K W (wSet i wa) D σ H) : tAsg (liftE K W wa) (gName i) D σ H := by
  obtain ⟨M, Γ, S, D', E', r, e, h, od, ox⟩ := h
  exact ⟨M, Γ, S, _, _, r, e, h, fun M1 S1 H1 t1 r1 d v hd hq => od.nx M1 S1 H1 t1 r1 _ _ (envD_set (envD_tr r t1 e) hd) hq, okx_of r e ox⟩
theorem ss_set {i : Nat} {x : Str} {pos' : Pos} (hN : X.N.Nodup) (hi : X.N[i]? = some x) (hx : Loc X.env.scope x) (ha : SE X W a wa) (hs : swapsWith a (some (.Name x pos')) pos.line X.env = pure false := by rfl) (hf : X.fn x = true ∨ X.env.scope.names.lookup x = some .local := by first | exact .inl rfl | exact .inr rfl | assumption) :
    SS X W (.Assign [.Name x pos'] a pos) (wSet i wa) := ⟨ps_imp (ps_set hN hi hx ha.pe hs hf) fun _ _ _ h => lift_set h⟩
/-- a, b = x, y -/
def wPar (i j : Nat) (ws : WA) : WS := fun N E Γ S => ws Γ S (fun ds S1 => ∃ d e, ds = [d, e] ∧ N.nx ((Γ.set i (some d)).set j (some e)) S1) (EK.of E Γ)
theorem ss_par {i j : Nat} {x y : Str} {px py pt : Pos} {kt k2 pt2} (hc : X.calm = true) (hN : X.N.Nodup) (hi : X.N[i]? = some x) (hj : X.N[j]? = some y) (hij : i ≠ j)
    (hx : X.env.scope.names.lookup x = some .local) (hy : X.env.scope.names.lookup y = some .local) (ha : SA X W [a, b] ws)
    (hw : swappedStores [.Tuple [.Name x px, .Name y py] kt pt] (.Tuple [a, b] k2 pt2) X.env = pure (some [x, y]))
    (hs : swapsWithSole [.Tuple [.Name x px, .Name y py] kt pt] (.Tuple [a, b] k2 pt2) pos.line X.env = pure false := by rfl) :
    SS X W (.Assign [.Tuple [.Name x px, .Name y py] kt pt] (.Tuple [a, b] k2 pt2) pos) (wPar i j ws) := ⟨ps_imp (ps_par hc hN hi hj hij hx hy ha.pa hw hs) fun D σ H h => by
  obtain ⟨M, Γ, S, D', E', r, e, h, od, ox⟩ := h
  refine ⟨M, Γ, S, _, _, r, e, h, ?_, okx_of r e ox⟩
  rintro M1 S1 H1 t1 r1 ds vs hd ⟨d1, d2, rfl, hq⟩
  obtain ⟨v1, v2, rfl, h1, h2⟩ := denL_two hd
  exact ⟨v1, v2, rfl, od.nx M1 S1 H1 t1 r1 _ _ (envD_set (envD_set (envD_tr r t1 e) h1) h2) hq⟩⟩
/-- targets -/
abbrev WG := D → Gm → Sto → (Gm → Sto → Prop) → Prop
/-- σ' is σ but for the slots vs -/
structure But (vs : List Nat) (σ σ' : St) : Prop where
  len : σ'.length = σ.length
  out : ∀ j : Nat, j ∉ vs → σ'[j]? = σ[j]?
theorem But.refl {vs : List Nat} {σ : St} : But vs σ σ := ⟨rfl, fun _ _ => rfl⟩
theorem But.trans {vs us : List Nat} {σ σ' σ'' : St} (a : But vs σ σ') (b : But us σ' σ'') : But (vs ++ us) σ σ'' :=
  ⟨b.len.trans a.len, fun j h => (b.out j fun z => h (List.mem_append_right _ z)).trans (a.out j fun z => h (List.mem_append_left _ z))⟩
def OkG (K : PySem.W.Frag) (vs : List Nat) (σ : St) (M : Mu) (S : Sto) (H : Hp) (N' : Gm → Sto → Prop) (N : St → Hp → Prop) : Prop :=
  Fut K M S H fun M' S' H' => ∀ Γ σ', EnvD K M' H' Γ σ' → But vs σ σ' → N' Γ S' → N σ' H'
theorem OkN.g {K : PySem.W.Frag} {vs : List Nat} {σ : St} {M : Mu} {S : Sto} {H : Hp} {N' : Gm → Sto → Prop} {N : St → Hp → Prop} (h : OkN K M S H N' N) : OkG K vs σ M S H N' N :=
  fun M' S' H' t r Γ σ' e _ q => h M' S' H' t r Γ σ' e q
def liftG (K : PySem.W.Frag) (vs : List Nat) (g : WG) : TG := fun v σ H Q => ∃ M Γ S d Q', StD K M H S ∧ EnvD K M H Γ σ ∧ Den K M H d v ∧ g d Γ S Q' ∧ OkG K vs σ M S H Q' Q
structure SG (X : Cx) (tg : Expr) (vs : List Nat) (g : WG) : Prop where
  pg : PG X tg (liftG X.K vs g)
theorem pg_imp {tg : Expr} {t t' : TG} (h : PG X tg t) (i : ∀ v σ H Q, t' v σ H Q → t v σ H Q) : PG X tg t' := ⟨fun p s σ H v u Q I r q => h.run p s σ H v u Q I r (i v σ H Q q)⟩
def wName (i : Nat) : WG := fun d Γ S Q => Q (Γ.set i (some d)) S
theorem sg_name {i : Nat} {x : Str} (hN : X.N.Nodup) (hi : X.N[i]? = some x) (hx : Loc X.env.scope x) (hf : X.fn x = true ∨ X.env.scope.names.lookup x = some .local := by first | exact .inl rfl | exact .inr rfl | assumption) : SG X (.Name x pos) [i] (wName i) :=
  ⟨pg_imp (pg_name hN hi hx hf) fun v σ H Q h => by
    obtain ⟨M, Γ, S, d, Q', r, e, hd, h, oq⟩ := h
    exact oq.now r _ _ (envD_set e hd) ⟨List.length_set, fun j hj => List.getElem?_set_ne fun z => hj (by rw [z]; exact List.mem_singleton.mpr rfl)⟩ h⟩
abbrev WGs := List D → Gm → Sto → (Gm → Sto → Prop) → Prop
def liftGs (K : PySem.W.Frag) (vs : List Nat) (g : WGs) : TGs := fun us σ H Q => ∃ M Γ S ds Q', StD K M H S ∧ EnvD K M H Γ σ ∧ DenL K M H ds us ∧ g ds Γ S Q' ∧ OkG K vs σ M S H Q' Q
structure SGs (X : Cx) (ts : List Expr) (vs : List Nat) (g : WGs) : Prop where
  pg : PGs X ts (liftGs X.K vs g)
theorem pgs_imp {ts : List Expr} {t t' : TGs} (h : PGs X ts t) (i : ∀ v σ H Q, t' v σ H Q → t v σ H Q) : PGs X ts t' := ⟨fun p s σ H v u Q I r q => h.run p s σ H v u Q I r (i v σ H Q q)⟩
def wgNil : WGs := fun ds Γ S Q => ds = [] ∧ Q Γ S
def wgCons (g : WG) (gs : WGs) : WGs := fun ds Γ S Q => ∃ d r, ds = d :: r ∧ g d Γ S fun Γ1 S1 => gs r Γ1 S1 Q
theorem sgs_nil : SGs X [] [] wgNil := ⟨pgs_imp pgs_nil fun v σ H Q h => by
  obtain ⟨M, Γ, S, ds, Q', r, e, hd, ⟨rfl, h⟩, oq⟩ := h
  simp only [DenL] at hd
  exact ⟨hd, oq.now r _ _ e But.refl h⟩⟩
theorem sgs_cons {t : Expr} {ts : List Expr} {g : WG} {gs : WGs} {v1 v2 : List Nat} (h1 : SG X t v1 g) (h2 : SGs X ts v2 gs)
    (hs : (assignEach (t :: ts) X.env).map (·.2) = assign t X.env :: (assignEach ts X.env).map (·.2) := by rfl) : SGs X (t :: ts) (v1 ++ v2) (wgCons g gs) := ⟨pgs_imp (pgs_cons h1.pg h2.pg hs) fun v σ H Q h => by
  obtain ⟨M, Γ, S, ds, Q', r, e, hd, ⟨d, rs, rfl, h⟩, oq⟩ := h
  simp only [DenL] at hd
  obtain ⟨x1, vr, rfl, hd1, hd2⟩ := hd
  refine ⟨x1, vr, rfl, M, Γ, S, d, _, r, e, hd1, h, ?_⟩
  intro M1 S1 H1 t1 r1 Γ1 σ1 e1 b1 h1
  exact ⟨M1, Γ1, S1, rs, Q', r1, e1, denL_tr r t1 _ _ hd2, h1, fun M2 S2 H2 t2 r2 Γ2 σ2 e2 b2 h2 => oq M2 S2 H2 (t1.trans t2) r2 Γ2 σ2 e2 (b1.trans b2) h2⟩⟩
def wgTup (n : Nat) (gs : WGs) : WG := fun d Γ S Q => ∃ ds, d = .tup ds ∧ ds.length = n ∧ gs ds Γ S Q
theorem sg_tup {ts : List Expr} {kk : Nat} {gs : WGs} {n : Nat} {vs : List Nat} (hc : X.calm = true) (h : SGs X ts vs gs)
    (hn : (assignEach ts X.env).length = n := by rfl) (hst : (assignEach ts X.env).findIdx? (·.1) = none := by rfl) : SG X (.Tuple ts kk pos) vs (wgTup n gs) := ⟨pg_imp (pg_tup hc h.pg hn hst) fun v σ H Q h => by
  obtain ⟨M, Γ, S, d, Q', r, e, hd, ⟨ds, rfl, hl, h⟩, oq⟩ := h
  simp only [Den] at hd
  obtain ⟨p, us, rfl, h1, h2⟩ := hd
  exact ⟨p, us, rfl, h1.sq, by rw [denL_len h2]; exact hl, M, Γ, S, ds, Q', r, e, h2, h, oq⟩⟩
def wAsg (wa : WE) (g : WG) : WS := fun N E Γ S => wa Γ S (fun d S1 => g d Γ S1 N.nx) (EK.of E Γ)
theorem ss_asg {tg : Expr} {g : WG} {vs : List Nat} (ha : SE X W a wa) (hg : SG X tg vs g) (hs : swapsWithSole [tg] a pos.line X.env = pure false := by rfl) (hw : swappedStores [tg] a X.env = pure none := by rfl)
    (h1 : (assignEach [tg] X.env).map (·.2) = [assign tg X.env] := by rfl) : SS X W (.Assign [tg] a pos) (wAsg wa g) := ⟨ps_imp (ps_asg ha.pe hg.pg hs hw h1) fun D σ H h => by
  obtain ⟨M, Γ, S, D', E', r, e, h, od, ox⟩ := h
  exact ⟨M, Γ, S, _, _, r, e, h, fun M1 S1 H1 t1 r1 d v hd hq => ⟨M1, Γ, S1, d, _, r1, envD_tr r t1 e, hd, hq, OkN.g (od.nx.at t1)⟩, okx_of r e ox⟩⟩
/-- o[i] = v -/
abbrev RSet := D → D → D → Sto → (Sto → Prop) → Prop
def liftSet (K : PySem.W.Frag) (rs : RSet) : TSet := fun o i v H Q => ∃ M S d e f Q', StD K M H S ∧ Den K M H d o ∧ Den K M H e i ∧ Den K M H f v ∧ rs d e f S Q' ∧ Fut K M S H fun M' S' H' => Q' S' → Q H'
def rSetLD : RSet := fun o i v S Q => ∃ p xs n j, o = .ref p ∧ i = .int n ∧ S p = some (.lst xs) ∧ ixN xs.length n = some j ∧ Q (S.put p (.lst (xs.set j v)))
theorem oset_list : PSet X (liftSet X.K rSetLD) := by
  intro pins s σ H o i v ov iv u Q I r1 r2 r3 h
  obtain ⟨M, S, d, e, f, Q', r, h1, h2, h3, ⟨p, xs, n, j, rfl, rfl, hs, hj, hq⟩, oq⟩ := h
  simp only [Den] at h1 h2
  obtain ⟨vs, g1, g2⟩ := r.ob p _ hs
  have t2 : Tr X.K M S H M (S.put p (.lst (xs.set j f))) (upd H p (.lst (vs.set j v))) := set_tr r hs
  refine set_list pins s σ H o i v ov iv u Q I r1 r2 r3 ⟨p, vs, n, j, h1, h2, g1, by rw [denL_len g2]; exact hj, ?_⟩
  exact oq _ _ _ t2 (set_st r hs ⟨_, upd_same, denL_tr r t2 _ _ (denL_set j g2 h3)⟩) hq
/-- as a statement -/
def wSetIx (rs : RSet) (wv wo wi : WE) : WS := fun N E Γ S => wv Γ S (fun v S1 => wo Γ S1 (fun o S2 => wi Γ S2 (fun i S3 => rs o i v S3 fun S4 => N.nx Γ S4) (EK.of E Γ)) (EK.of E Γ)) (EK.of E Γ)
theorem ss_setix {o i v : Expr} {wv wo wi : WE} {rs : RSet} {pos' : Pos} (hv : SE X W v wv) (ho : SE X W o wo) (hi : SE X W i wi) (hs : PSet X (liftSet X.K rs))
    (hsw : swapsWithSole [.Subscript o i pos'] v pos.line X.env = pure false := by rfl) (hw : swappedStores [.Subscript o i pos'] v X.env = pure none := by rfl)
    (h1 : (assignEach [.Subscript o i pos'] X.env).map (·.2) = [assign (.Subscript o i pos') X.env] := by rfl)
    (ha : ∀ u, assign (.Subscript o i pos') X.env u = (do
      let ov ← holding [u] (eval o X.env)
      let iv ← holding [u, ov] (eval i X.env)
      standAt pos'
      holding [u, ov, iv] (setItem ov iv u)
      release [u, ov, iv] []) := by intro _; rfl) : SS X W (.Assign [.Subscript o i pos'] v pos) (wSetIx rs wv wo wi) :=
  ⟨ps_imp (ps_asg hv.pe (pg_sub ho.pe hi.pe hs ha) hsw hw h1) fun D σ H h => by
    obtain ⟨M, Γ, S, D', E', r, e, h, od, ox⟩ := h
    refine ⟨M, Γ, S, _, _, r, e, h, ?_, okx_of r e ox⟩
    intro M1 S1 H1 t1 r1 d1 x1 hd1 hq1
    have e1 := envD_tr r t1 e
    refine ⟨M1, Γ, S1, _, _, r1, e1, hq1, ?_, okx_of r1 e1 (ox.at t1)⟩
    intro M2 S2 H2 t2 r2 d2 x2 hd2 hq2
    have e2 := envD_tr r1 t2 e1
    refine ⟨M2, Γ, S2, _, _, r2, e2, hq2, ?_, okx_of r2 e2 (ox.at (t1.trans t2))⟩
    intro M3 S3 H3 t3 r3 d3 x3 hd3 hq3
    refine ⟨M3, S3, d2, d3, d1, _, r3, den_tr r2 t3 _ _ hd2, hd3, den_tr r1 (t2.trans t3) _ _ hd1, hq3, ?_⟩
    intro M4 S4 H4 t4 r4 hq4
    exact od.nx M4 S4 H4 (((t1.trans t2).trans t3).trans t4) r4 Γ σ (envD_tr r2 (t3.trans t4) e2) hq4⟩
/-- x op= e -/
def wAug (i : Nat) (rd : RD) (wa : WE) : WS := fun N E Γ S => ∃ x, Γ[i]? = some (some x) ∧ wa Γ S (fun y S1 => rd x y S1 fun z S2 => N.nx (Γ.set i (some z)) S2) (EK.of E Γ)
theorem ss_aug {i : Nat} {x : Str} {op : Operator} {rd : RD} {pos' : Pos} (hN : X.N.Nodup) (hi : X.N[i]? = some x) (hx : Loc X.env.scope x) (ha : SE X W a wa) (ho : OD X (inplaceOp op) rd) (hf : X.fn x = true ∨ X.env.scope.names.lookup x = some .local := by first | exact .inl rfl | exact .inr rfl | assumption) :
    SS X W (.AugAssign (.Name x pos') op a pos) (wAug i rd wa) := ⟨ps_imp (ps_aug hN hi hx ha.pe ho hf) fun D σ H h => by
  obtain ⟨M, Γ, S, D', E', r, e, ⟨x, hx, h⟩, od, ox⟩ := h
  obtain ⟨v, hv, hd⟩ := e.2 i x hx
  refine ⟨v, hv, M, Γ, S, _, _, r, e, h, ?_, okx_of r e ox⟩
  intro M1 S1 H1 t1 r1 d1 x1 hd1 hq1
  refine ⟨M1, S1, x, d1, _, r1, den_tr r t1 _ _ hd, hd1, hq1, ?_⟩
  intro M2 S2 H2 t2 r2 d2 x2 hd2 hq2
  exact od.nx M2 S2 H2 (t1.trans t2) r2 _ _ (envD_set (envD_tr r (t1.trans t2) e) hd2) hq2⟩
theorem od_iadd : OD X (inplaceOp .Add) dAddI := od_int iop_add
theorem od_isub : OD X (inplaceOp .Sub) dSub := od_int iop_sub

/-! ### while -/
def wWhile (wt : WT) (wb : WS) : WS := fun N E Γ S => ∃ Wp : Nat → Gm → Sto → Prop, (∃ m, Wp m Γ S) ∧ ∀ m Γ S, Wp m Γ S →
  wt Γ S (fun b S1 => if b = true then ∃ Nx : Gm → Sto → Prop, (∀ Γ' S', Nx Γ' S' → ∃ m', m' < m ∧ Wp m' Γ' S') ∧ wb { N with nx := Nx, ct := Nx, bk := N.nx } E Γ S1 else N.nx Γ S1) (EK.of E Γ)
theorem ss_while {body : List Stmt} (hp : PassesOwn (model X.prog X.w) X.A X.env X.xe) (hc : ST X W c wt) (hb : SSs X W body w) : SS X W (.While c body [] pos) (wWhile wt w) := ⟨ps_imp (ps_while hp hc.pt hb.ps) fun D σ H h => by
  obtain ⟨M, Γ, S, D', E', r, e, ⟨Wp, ⟨m0, w0⟩, turn⟩, od, ox⟩ := h
  refine ⟨fun m σ' H' => ∃ M' Γ' S', Tr X.K M S H M' S' H' ∧ StD X.K M' H' S' ∧ EnvD X.K M' H' Γ' σ' ∧ Wp m Γ' S', ⟨m0, M, Γ, S, Tr.refl, r, e, w0⟩, ?_⟩
  rintro m σ1 H1 ⟨M1, Γ1, S1, t1, r1, e1, w1⟩
  refine ⟨M1, Γ1, S1, _, _, r1, e1, turn m Γ1 S1 w1, ?_, okx_of r1 e1 (ox.at t1)⟩
  intro M2 S2 H2 t2 r2 b hq
  have e2 := envD_tr r1 t2 e1
  cases b with
  | false => exact od.nx M2 S2 H2 (t1.trans t2) r2 Γ1 σ1 e2 hq
  | true =>
    obtain ⟨Nx, hN, hq⟩ := hq
    refine ⟨fun σ' H' => ∃ M' Γ' S', Tr X.K M S H M' S' H' ∧ StD X.K M' H' S' ∧ EnvD X.K M' H' Γ' σ' ∧ Nx Γ' S', ?_, M2, Γ1, S2, _, _, r2, e2, hq, ?_, ox.at (t1.trans t2)⟩
    · rintro σ' H' ⟨M', Γ', S', t', r', e', n'⟩
      obtain ⟨m', lt, w'⟩ := hN Γ' S' n'
      exact ⟨m', lt, M', Γ', S', t', r', e', w'⟩
    · exact ⟨fun M3 S3 H3 t3 r3 Γ3 σ3 e3 n3 => ⟨M3, Γ3, S3, (t1.trans t2).trans t3, r3, e3, n3⟩, od.rt.at (t1.trans t2), od.nx.at (t1.trans t2),
        fun M3 S3 H3 t3 r3 Γ3 σ3 e3 n3 => ⟨M3, Γ3, S3, (t1.trans t2).trans t3, r3, e3, n3⟩⟩⟩
end
end PL
end
/-! from PL4.lean -/
section
/-! PL4: what is walked; for; comprehensions. -/
namespace PL
open PySem L2
variable [TabCtx]

/-- J hands out the items xs, one a turn, wherever stay holds -/
def Turns (K : PySem.W.Frag) (J : It) (xs : List D) (stay : Sto → Prop) (M : Mu) (S : Sto) (H : Hp) : Prop := Fut K M S H fun M' S' H' => stay S' →
  (∀ i, i < xs.length → J.go i H') ∧ (∀ i, xs.length ≤ i → J.stop i H') ∧ ∀ (i : Nat) d x H2, xs[i]? = some d → J.yld i H' x H2 → Tr K M' S' H' M' S' H2 ∧ StD K M' H2 S' ∧ Den K M' H2 d x
abbrev WI := Gm → Sto → (List D → (Sto → Prop) → Sto → Prop) → EK → Prop
def liftI (K : PySem.W.Frag) (W : WX) (wi : WI) : TI := fun σ H R => ∃ M Γ S Q' E', StD K M H S ∧ EnvD K M H Γ σ ∧ wi Γ S Q' E' ∧ (Fut K M S H fun M' S' H' => ∀ xs stay, Q' xs stay S' → ∀ J, Turns K J xs stay M' S' H' → R J H') ∧ OkX K W σ M S H E'
structure SI (X : Cx) (W : WX) (tg iter : Expr) (wi : WI) : Prop where
  pi : PI X tg iter (liftI X.K W wi)
theorem pi_imp {X : Cx} {tg iter : Expr} {t t' : TI} (h : PI X tg iter t) (i : ∀ σ H R, t' σ H R → t σ H R) : PI X tg iter t' := ⟨fun p s σ H R I q => h.run p s σ H R I (i σ H R q)⟩
section
variable {X : Cx} {W : WX} {k : Nat} {pos : Pos} {a b c : Expr} {wa wb wc : WE} {es : List Expr} {ws : WA} {wt : WT} {tg iter : Expr} {wi : WI}
theorem Turns.at {K : PySem.W.Frag} {J : It} {xs : List D} {stay : Sto → Prop} {M M1 : Mu} {S S1 : Sto} {H H1 : Hp} (h : Turns K J xs stay M S H) (t : Tr K M S H M1 S1 H1) : Turns K J xs stay M1 S1 H1 := Fut.at t h
/-! ### lists, tuples, ranges, texts -/
def wiL (wa : WE) : WI := fun Γ S Q E => wa Γ S (fun d S1 => ∃ xs, isT d = false ∧ Sq S1 d xs ∧ Q xs (fun S' => Sq S' d xs) S1) E
def wiT (wa : WE) : WI := fun Γ S Q E => wa Γ S (fun d S1 => ∃ xs, d = .tup xs ∧ Q xs (fun _ => True) S1) E
theorem si_lst (ha : SE X W a wa) : SI X W tg a (wiL wa) := ⟨pi_imp (pi_list ha.pe) fun σ H R h => by
  obtain ⟨M, Γ, S, Q', E', r, e, h, oq, ox⟩ := h
  refine ⟨M, Γ, S, _, E', r, e, h, ?_, ox⟩
  rintro M1 S1 H1 t1 r1 d v hd ⟨xs, nt, hs, hq⟩
  have key : ∀ M2 S2 H2, Tr X.K M1 S1 H1 M2 S2 H2 → StD X.K M2 H2 S2 → Sq S2 d xs → ∃ p vs, v = .ref p ∧ DenL X.K M2 H2 xs vs ∧ SqL X.K H2 p vs := fun M2 S2 H2 t2 r2 h2 => by
    obtain ⟨p, vs, e1, e2, e3⟩ := sq_den r2 (den_tr r1 t2 _ _ hd) h2
    rcases e3 with ⟨_, e3⟩ | ⟨e3, _⟩
    · exact ⟨p, vs, e1, e2, e3⟩
    · rw [e3] at nt
      cases nt
  obtain ⟨p, vs, e1, e2, e3⟩ := key M1 S1 H1 Tr.refl r1 hs
  subst e1
  refine ⟨p, rfl, ⟨vs, e3⟩, oq M1 S1 H1 t1 r1 xs _ hq _ ?_⟩
  intro M2 S2 H2 t2 r2 st
  obtain ⟨p', us, f1, f2, f3⟩ := key M2 S2 H2 t2 r2 st
  cases f1
  have hl := denL_len f2
  refine ⟨fun i hi => ⟨us, us[i]'(by omega), f3, List.getElem?_eq_getElem _⟩, fun i hi => ⟨us, f3, by omega⟩, fun i x y H3 hx hy => ?_⟩
  obtain ⟨rfl, hy⟩ := hy
  obtain ⟨z, g1, g2⟩ := denL_get f2 hx
  have e := hy us f3
  rw [g1] at e
  cases e
  exact ⟨Tr.refl, r2, g2⟩⟩
theorem si_tup (ha : SE X W a wa) : SI X W tg a (wiT wa) := ⟨pi_imp (pi_tup ha.pe) fun σ H R h => by
  obtain ⟨M, Γ, S, Q', E', r, e, h, oq, ox⟩ := h
  refine ⟨M, Γ, S, _, E', r, e, h, ?_, ox⟩
  rintro M1 S1 H1 t1 r1 d v hd ⟨xs, rfl, hq⟩
  have hd0 := hd
  simp only [Den] at hd
  obtain ⟨p, vs, rfl, e2, e3⟩ := hd
  refine ⟨p, rfl, ⟨vs, e2.sq⟩, oq M1 S1 H1 t1 r1 xs _ hq _ ?_⟩
  intro M2 S2 H2 t2 r2 _
  have g := den_tr r1 t2 _ _ hd0
  simp only [Den] at g
  obtain ⟨p', us, f1, f3, f2⟩ := g
  cases f1
  have hl := denL_len f2
  refine ⟨fun i hi => ⟨us, us[i]'(by omega), f3.sq, List.getElem?_eq_getElem _⟩, fun i hi => ⟨us, f3.sq, by omega⟩, fun i x y H3 hx hy => ?_⟩
  obtain ⟨rfl, hy⟩ := hy
  obtain ⟨z, g1, g2⟩ := denL_get f2 hx
  have e := hy us f3.sq
  rw [g1] at e
  cases e
  exact ⟨Tr.refl, r2, g2⟩⟩
/-- the ints lo, lo + 1, .. -/
def ups (lo : Int) (n : Nat) : List D := (List.range n).map fun i => D.int (lo + (i : Nat))
theorem ups_len {lo : Int} {n : Nat} : (ups lo n).length = n := by simp [ups]
theorem turns_range {K : PySem.W.Frag} {lo : Int} {n : Nat} {M : Mu} {S : Sto} {H : Hp} : Turns K (Itr lo n) (ups lo n) (fun _ => True) M S H := fun M2 S2 H2 t2 r2 _ => by
  refine ⟨fun i hi => by rw [ups_len] at hi; exact hi, fun i hi => by rw [ups_len] at hi; exact hi, fun i d x H3 hx hy => ?_⟩
  obtain ⟨rfl, rfl⟩ := hy
  refine ⟨Tr.refl, r2, ?_⟩
  have hi : i < n := by
    have := (List.getElem?_eq_some_iff.mp hx).1
    rwa [ups_len] at this
  simp only [ups, List.getElem?_map, List.getElem?_range hi, Option.map_some, Option.some.injEq] at hx
  subst hx
  simp only [Den]
def wiR1 (ws : WA) : WI := fun Γ S Q E => ws Γ S (fun ds S1 => ∃ j : Int, ds = [.int j] ∧ -(2 ^ 62) ≤ j ∧ j < 2 ^ 62 ∧ Q (ups 0 j.toNat) (fun _ => True) S1) E
def wiR2 (ws : WA) : WI := fun Γ S Q E => ws Γ S (fun ds S1 => ∃ i j : Int, ds = [.int i, .int j] ∧ (-(2 ^ 62) ≤ i ∧ i < 2 ^ 62 ∧ -(2 ^ 62) ≤ j ∧ j < 2 ^ 62) ∧ Q (ups i (j - i).toNat) (fun _ => True) S1) E
theorem si_range1 {p : Pos} (hg : Gl X "range") (hm : X.mg "range" = none) (ha : SA X W [a] ws) (hs : starEach [a] X.env = [(false, eval a X.env)] := by rfl) : SI X W tg (.Call (.Name "range" p) [a] [] pos) (wiR1 ws) := ⟨pi_imp (pi_range1 hg hm ha.pa hs) fun σ H R h => by
  obtain ⟨M, Γ, S, Q', E', r, e, h, oq, ox⟩ := h
  refine ⟨M, Γ, S, _, E', r, e, h, ?_, ox⟩
  rintro M1 S1 H1 t1 r1 ds vs hd ⟨j, rfl, h1, h2, hq⟩
  obtain ⟨v, rfl, hv⟩ := denL_one hd
  simp only [Den] at hv
  subst hv
  exact ⟨j, rfl, h1, h2, oq M1 S1 H1 t1 r1 _ _ hq _ turns_range⟩⟩
theorem si_range2 {p : Pos} (hg : Gl X "range") (hm : X.mg "range" = none) (ha : SA X W [a, b] ws) (hs : starEach [a, b] X.env = [(false, eval a X.env), (false, eval b X.env)] := by rfl) (hs2 : starEach [b] X.env = [(false, eval b X.env)] := by rfl) :
    SI X W tg (.Call (.Name "range" p) [a, b] [] pos) (wiR2 ws) := ⟨pi_imp (pi_range2 hg hm ha.pa hs hs2) fun σ H R h => by
  obtain ⟨M, Γ, S, Q', E', r, e, h, oq, ox⟩ := h
  refine ⟨M, Γ, S, _, E', r, e, h, ?_, ox⟩
  rintro M1 S1 H1 t1 r1 ds vs hd ⟨i, j, rfl, h1, hq⟩
  obtain ⟨v, u, rfl, hv, hu⟩ := denL_two hd
  simp only [Den] at hv hu
  subst hv hu
  exact ⟨i, j, rfl, h1, oq M1 S1 H1 t1 r1 _ _ hq _ turns_range⟩⟩
/-- a text, sign by sign -/
def signsD (z : Str) : List D := z.cps.toList.map fun c => .str ⟨#[c]⟩
def wiS (wa : WE) : WI := fun Γ S Q E => wa Γ S (fun d S1 => ∃ z, d = .str z ∧ Q (signsD z) (fun _ => True) S1) E
theorem si_str (ha : SE X W a wa) : SI X W tg a (wiS wa) := ⟨pi_imp (pi_str ha.pe) fun σ H R h => by
  obtain ⟨M, Γ, S, Q', E', r, e, h, oq, ox⟩ := h
  refine ⟨M, Γ, S, _, E', r, e, h, ?_, ox⟩
  rintro M1 S1 H1 t1 r1 d v hd ⟨z, rfl, hq⟩
  simp only [Den] at hd
  refine ⟨z, hd, oq M1 S1 H1 t1 r1 _ _ hq _ ?_⟩
  intro M2 S2 H2 t2 r2 _
  have hl : (signsD z).length = z.cps.size := by simp [signsD]
  refine ⟨fun i hi => by rw [hl] at hi; exact hi, fun i hi => by rw [hl] at hi; exact hi, fun i d x H3 hx hy => ?_⟩
  obtain ⟨rfl, c, hc, rfl⟩ := hy
  refine ⟨Tr.refl, r2, ?_⟩
  rw [signsD, List.getElem?_map] at hx
  have e2 : z.cps.toList[i]? = some c := by simpa using hc
  rw [e2] at hx
  simp only [Option.map_some, Option.some.injEq] at hx
  subst hx
  simp only [Den]⟩

/-! ### for -/
def wFor (wi : WI) (g : WG) (wb : WS) : WS := fun N E Γ S => wi Γ S (fun xs stay S1 => ∃ Wp : Nat → Gm → Sto → Prop, Wp 0 Γ S1 ∧ (∀ i Γ' S', i ≤ xs.length → Wp i Γ' S' → stay S') ∧
  (∀ (i : Nat) x Γ' S', xs[i]? = some x → Wp i Γ' S' → g x Γ' S' fun Γ2 S2 => wb { N with nx := Wp (i + 1), ct := Wp (i + 1), bk := N.nx } E Γ2 S2) ∧ ∀ Γ' S', Wp xs.length Γ' S' → N.nx Γ' S') (EK.of E Γ)
theorem ss_for {body : List Stmt} {g : WG} {vs : List Nat} {w : WS} (hp : PassesOwn (model X.prog X.w) X.A X.env X.xe) (hc : X.calm = true) (hi : SI X W tg iter wi) (hg : SG X tg vs g) (hb : SSs X W body w)
    (hps : ∀ t u v, PI X tg iter t → PG X tg u → PSs X body v → PS X (.For tg iter body [] pos) (tFor t u v)) : SS X W (.For tg iter body [] pos) (wFor wi g w) := ⟨ps_imp (hps _ _ _ hi.pi hg.pg hb.ps) fun D σ H h => by
  obtain ⟨M, Γ, S, D', E', r, e, h, od, ox⟩ := h
  refine ⟨M, Γ, S, _, _, r, e, h, ?_, okx_of r e ox⟩
  rintro M1 S1 H1 t1 r1 xs stay ⟨Wp, w0, wst, ws, wd⟩ J hJ
  refine ⟨fun i m σ' H' => m = xs.length - i ∧ i ≤ xs.length ∧ ∃ M' Γ' S', Tr X.K M1 S1 H1 M' S' H' ∧ StD X.K M' H' S' ∧ EnvD X.K M' H' Γ' σ' ∧ Wp i Γ' S', ⟨xs.length, by omega, Nat.zero_le _, M1, Γ, S1, Tr.refl, r1, envD_tr r t1 e, w0⟩, ?_⟩
  rintro i m σ2 H2 ⟨rfl, hi, M2, Γ2, S2, t2, r2, e2, w2⟩
  obtain ⟨j1, j2, j3⟩ := hJ M2 S2 H2 t2 r2 (wst i Γ2 S2 hi w2)
  by_cases hlt : i < xs.length
  · refine .inr ⟨j1 i hlt, fun σ' H' => ∃ M' Γ' S', Tr X.K M1 S1 H1 M' S' H' ∧ StD X.K M' H' S' ∧ EnvD X.K M' H' Γ' σ' ∧ Wp (i + 1) Γ' S', fun σ' H' h' => ⟨xs.length - (i + 1), by omega, rfl, hlt, h'⟩, fun x H3 hy => ?_⟩
    obtain ⟨t3, r3, d3⟩ := j3 i xs[i] x H3 (List.getElem?_eq_getElem hlt) hy
    refine ⟨M2, Γ2, S2, xs[i], _, r3, envD_tr r2 t3 e2, d3, ws i xs[i] Γ2 S2 (List.getElem?_eq_getElem hlt) w2, ?_⟩
    intro M4 S4 H4 t4 r4 Γ4 σ4 e4 _ h4
    have t14 := (t2.trans t3).trans t4
    refine ⟨M4, Γ4, S4, _, _, r4, e4, h4, ?_, ox.at (t1.trans t14)⟩
    exact ⟨fun M5 S5 H5 t5 r5 Γ5 σ5 e5 n5 => ⟨M5, Γ5, S5, t14.trans t5, r5, e5, n5⟩, od.rt.at (t1.trans t14), od.nx.at (t1.trans t14), fun M5 S5 H5 t5 r5 Γ5 σ5 e5 n5 => ⟨M5, Γ5, S5, t14.trans t5, r5, e5, n5⟩⟩
  · have ei : i = xs.length := by omega
    subst ei
    exact .inl ⟨j2 _ (Nat.le_refl _), od.nx M2 S2 H2 (t1.trans t2) r2 Γ2 σ2 e2 (wd Γ2 S2 w2)⟩⟩

/-! ### comprehensions -/
def wipeG (Γ : Gm) : List Nat → Gm
  | [] => Γ
  | v :: vs => (wipeG Γ vs).set v none
theorem wipe_in {σ : St} {j : Nat} : ∀ {vs : List Nat}, j ∈ vs → j < σ.length → (wipe σ vs)[j]? = some none
  | [], h, _ => by cases h
  | v :: vs, h, hl => by
    unfold wipe
    by_cases e : v = j
    · subst e
      rw [List.getElem?_set_self (by rw [wipe_length]; exact hl)]
    · rw [List.getElem?_set_ne e]
      exact wipe_in ((List.mem_cons.mp h).resolve_left fun z => e z.symm) hl
theorem wipe_not {σ : St} {j : Nat} : ∀ {vs : List Nat}, j ∉ vs → (wipe σ vs)[j]? = σ[j]?
  | [], _ => rfl
  | v :: vs, h => by
    unfold wipe
    rw [List.getElem?_set_ne fun z => h (by rw [z]; exact List.mem_cons_self)]
    exact wipe_not fun z => h (List.mem_cons_of_mem _ z)
theorem wipe_but {σ σ2 : St} {vs us : List Nat} (h : But us (wipe σ vs) σ2) (hu : ∀ j ∈ us, j ∈ vs) : wipe σ2 vs = wipe σ vs := by
  have hl : σ2.length = σ.length := by rw [h.len, wipe_length]
  apply List.ext_getElem?
  intro j
  by_cases hj : j ∈ vs
  · by_cases hlt : j < σ.length
    · rw [wipe_in hj hlt, wipe_in hj (by omega)]
    · rw [List.getElem?_eq_none (by rw [wipe_length]; omega), List.getElem?_eq_none (by rw [wipe_length]; omega)]
  · rw [wipe_not hj, wipe_not hj, h.out j fun z => hj (hu j z), wipe_not hj]
theorem wipeG_len (Γ : Gm) : ∀ vs : List Nat, (wipeG Γ vs).length = Γ.length
  | [] => rfl
  | v :: vs => by unfold wipeG; rw [List.length_set, wipeG_len Γ vs]
theorem envD_wipe {K : PySem.W.Frag} {M : Mu} {H : Hp} {Γ : Gm} {σ : St} (e : EnvD K M H Γ σ) : ∀ vs : List Nat, EnvD K M H (wipeG Γ vs) (wipe σ vs)
  | [] => e
  | v :: vs => by
    obtain ⟨h1, h2⟩ := envD_wipe e vs
    refine ⟨by unfold wipeG wipe; rw [List.length_set, List.length_set]; exact h1, fun j d hj => ?_⟩
    unfold wipeG at hj
    unfold wipe
    by_cases z : v = j
    · subst z
      by_cases hl : v < (wipeG Γ vs).length
      · rw [List.getElem?_set_self hl] at hj
        cases hj
      · rw [List.getElem?_eq_none (by rw [List.length_set]; omega)] at hj
        cases hj
    · rw [List.getElem?_set_ne z] at hj ⊢
      exact h2 j d hj
/-- the comprehension's turns -/
def wLcGo (g : WG) (wt : WT) (we : WE) (stay : Sto → Prop) (Γ0 : Gm) (Q : List D → Sto → Prop) : List D → List D → Sto → Prop
  | [], acc, S => Q acc S
  | x :: r, acc, S => stay S ∧ g x Γ0 S fun Γ1 S1 => wt Γ1 S1 (fun b S2 => if b = true then we Γ1 S2 (fun y S3 => wLcGo g wt we stay Γ0 Q r (acc ++ [y]) S3) (fun _ _ _ => False) else wLcGo g wt we stay Γ0 Q r acc S2) (fun _ _ _ => False)
def wLcB (wi : WI) (g : WG) (wt : WT) (we : WE) (vs : List Nat) : Gm → Sto → (List D → Sto → Prop) → EK → Prop := fun Γ S Q E => wi Γ S (fun xs stay S1 => xs.length ≤ sizeLine ∧ wLcGo g wt we stay (wipeG Γ vs) (fun acc S2 => stay S2 ∧ Q acc S2) xs [] S1) E
def wLc (wi : WI) (g : WG) (wt : WT) (we : WE) (vs : List Nat) : WE := fun Γ S Q E => wLcB wi g wt we vs Γ S (fun acc S2 => Q (.lst acc) S2) E
/-- the new list may be written later -/
def wLcM (wi : WI) (g : WG) (wt : WT) (we : WE) (vs : List Nat) : WE := fun Γ S Q E => wLcB wi g wt we vs Γ S (fun acc S2 => ∀ p, S2 p = none → Q (.ref p) (S2.put p (.lst acc))) E
def wYes : WT := fun _ S Q _ => Q true S
structure STs (X : Cx) (W : WX) (ifs : List Expr) (w : WT) : Prop where
  pt : PTs X ifs (liftT X.K W w)
theorem sts_nil : STs X W [] wYes := ⟨⟨fun pins s σ H Q I h => by
  obtain ⟨M, Γ, S, Q', E', r, e, h, oq, ox⟩ := h
  exact pts_nil.run pins s σ H Q I (oq.now r true h)⟩⟩
theorem sts_one (h : ST X W c wt) : STs X W [c] wt := ⟨pts_one h.pt⟩
abbrev W0 : WX := fun _ _ _ _ => False
theorem okx0 {K : PySem.W.Frag} {σ : St} {M : Mu} {S : Sto} {H : Hp} : OkX K W0 σ M S H (fun _ _ _ => False) := fun _ _ _ _ _ _ _ _ _ h => h
theorem lift_lc {K : PySem.W.Frag} {g : WG} {we : WE} {vs us : List Nat} {σ : St} {H : Hp} {Q : VK} {Q0 : List D → Sto → Prop} (hu : ∀ j ∈ us, j ∈ vs) (h : ∃ M Γ S E', StD K M H S ∧ EnvD K M H Γ σ ∧ wLcB wi g wt we vs Γ S Q0 E' ∧
      (∀ M1 S1 H1, Tr K M S H M1 S1 H1 → StD K M1 H1 S1 → ∀ p, H1 p = none → ∀ M' S' H', Tr K M1 S1 H1 M' S' H' → StD K M' H' S' → ∀ acc xs, H' p = some (.lst xs) → M' p → S' p = none → DenL K M' H' acc xs → Q0 acc S' → Q (.ref p) H') ∧ OkX K W σ M S H E') :
    tLc (liftI K W wi) (liftG K us g) (liftT K W0 wt) (liftE K W0 we) vs σ H Q := by
  obtain ⟨M, Γ, S, E', r, e, h, oq, ox⟩ := h
  refine ⟨M, Γ, S, _, E', r, e, h, ?_, ox⟩
  rintro M1 S1 H1 t1 r1 xs stay ⟨hl, hgo⟩ J hJ p hp
  let At : Nat → Hp → Prop := fun i H' => ∃ M' S' acc us, Tr K M1 S1 H1 M' S' H' ∧ StD K M' H' S' ∧ M' p ∧ S' p = none ∧ H' p = some (.lst us) ∧ DenL K M' H' acc us ∧ acc.length ≤ i ∧
    wLcGo g wt we stay (wipeG Γ vs) (fun acc S2 => stay S2 ∧ Q0 acc S2) (xs.drop i) acc S'
  have ne1 : ∀ a o, H1 a = some o → a ≠ p := fun a o q => ne_of_none q hp
  refine ⟨fun i m H' => m = xs.length - i ∧ i ≤ xs.length ∧ At i H', ⟨xs.length, by omega, Nat.zero_le _, M1.add p, S1, [], [], ?_, ?_, .inr rfl, new_no r1 hp, upd_same, denL_nil, Nat.le_refl _, by rw [List.drop_zero]; exact hgo⟩, ?_⟩
  · exact ⟨fun a o q n => ⟨by rw [upd_ne (ne1 a o q)]; exact q, fun z => z.elim n (ne1 a o q)⟩, fun a o q m n _ => ⟨by rw [upd_ne (ne1 a o q)]; exact q, .inl m, n⟩⟩
  · have kp : Kp M1 H1 (M1.add p) (upd H1 p (.lst [])) := fun a o q n => ⟨by rw [upd_ne (ne1 a o q)]; exact q, fun z => z.elim n (ne1 a o q)⟩
    refine ⟨fun a x hx => obD_kp kp (r1.ob a x hx) (upd_ne fun z => ?_), fun a hx => .inl (r1.mu a hx), fun a ha => ?_, r1.tab.gen (fun a o _ e n => kp _ _ e n) (fun P o ht e m n => ⟨by rw [upd_ne (ne1 _ _ e)]; exact e, n, fun _ => .inl m⟩)⟩
    · subst z
      exact r1.tr a (r1.mu a (by rw [hx]; simp)) hp
    · by_cases z : a = p
      · rw [z, upd_same]
        simp
      · rw [upd_ne z]
        exact r1.tr a (ha.resolve_right z)
  rintro i m H2 ⟨rfl, hi, M2, S2, acc, us2, t2, r2, mp, sp, hp2, hd2, hacc, hgo2⟩
  by_cases hlt : i < xs.length
  · rw [List.drop_eq_getElem_cons hlt] at hgo2
    obtain ⟨hst, hg⟩ := hgo2
    obtain ⟨j1, j2, j3⟩ := hJ M2 S2 H2 t2 r2 hst
    refine .inr ⟨j1 i hlt, At (i + 1), fun H' h' => ⟨xs.length - (i + 1), by omega, rfl, hlt, h'⟩, fun x H3 hy => ?_⟩
    obtain ⟨t3, r3, d3⟩ := j3 i xs[i] x H3 (List.getElem?_eq_getElem hlt) hy
    refine ⟨M2, wipeG Γ vs, S2, xs[i], _, r3, envD_wipe (envD_tr r2 t3 (envD_tr r1 t2 (envD_tr r t1 e))) vs, d3, hg, ?_⟩
    intro M4 S4 H4 t4 r4 Γ4 σ4 e4 b4 h4
    refine ⟨wipe_but b4 hu, M4, Γ4, S4, _, _, r4, e4, h4, ?_, okx0⟩
    intro M5 S5 H5 t5 r5 b hb
    have t25 := (t3.trans t4).trans t5
    cases b with
    | false =>
      obtain ⟨q1, q2, q3⟩ := t25.forn p _ hp2 mp sp (fun ps z => by cases z)
      exact ⟨M5, S5, acc, us2, t2.trans t25, r5, q2, q3, q1, denL_tr r2 t25 _ _ hd2, Nat.le_succ_of_le hacc, hb⟩
    | true =>
      refine ⟨M5, Γ4, S5, _, _, r5, envD_tr r4 t5 e4, hb, ?_, okx0⟩
      intro M6 S6 H6 t6 r6 y vy hy hq
      have t26 := t25.trans t6
      obtain ⟨q1, q2, q3⟩ := t26.forn p _ hp2 mp sp (fun ps z => by cases z)
      have el := denL_len hd2
      refine ⟨us2, q1, by omega, M6, S6, acc ++ [y], us2 ++ [vy], ?_, ?_, q2, q3, upd_same, ?_, by rw [List.length_append]; simp only [List.length_cons, List.length_nil]; omega, hq⟩
      · have t := t2.trans t26
        exact ⟨fun a o q n => ⟨by rw [upd_ne (ne1 a o q)]; exact (t.keep a o q n).1, (t.keep a o q n).2⟩, fun a o q m n y => ⟨by rw [upd_ne (ne1 a o q)]; exact (t.forn a o q m n y).1, (t.forn a o q m n y).2⟩⟩
      · have kp : Kp M6 H6 M6 (upd H6 p (.lst (us2 ++ [vy]))) := fun a o q n => ⟨by rw [upd_ne (fun z => n (by rw [z]; exact q2))]; exact q, n⟩
        refine ⟨fun a x hx => obD_kp kp (r6.ob a x hx) (upd_ne fun z => ?_), r6.mu, fun a ha => ?_, r6.tab.gen (fun a o _ e n => kp _ _ e n) (fun P o ht e m n => ⟨by rw [upd_ne (neT lst_nT q1 ht e)]; exact e, n, fun _ => m⟩)⟩
        · rw [z, q3] at hx
          cases hx
        · by_cases z : a = p
          · rw [z, upd_same]
            simp
          · rw [upd_ne z]
            exact r6.tr a ha
      · have kp : Kp M6 H6 M6 (upd H6 p (.lst (us2 ++ [vy]))) := fun a o q n => ⟨by rw [upd_ne (fun z => n (by rw [z]; exact q2))]; exact q, n⟩
        exact denL_kp kp _ _ (denL_app (denL_tr r2 t26 _ _ hd2) (denL_cons hy denL_nil))
  · have ei : i = xs.length := by omega
    subst ei
    rw [List.drop_length] at hgo2
    obtain ⟨hst, hq⟩ := hgo2
    obtain ⟨j1, j2, j3⟩ := hJ M2 S2 H2 t2 r2 hst
    exact .inl ⟨j2 _ (Nat.le_refl _), oq M1 S1 H1 t1 r1 p hp M2 S2 H2 t2 r2 acc us2 hp2 mp sp hd2 hq⟩
theorem lc_frz {K : PySem.W.Frag} {g : WG} {we : WE} {vs us : List Nat} {σ : St} {H : Hp} {Q : VK} (hu : ∀ j ∈ us, j ∈ vs) (h : liftE K W (wLc wi g wt we vs) σ H Q) : tLc (liftI K W wi) (liftG K us g) (liftT K W0 wt) (liftE K W0 we) vs σ H Q := by
  obtain ⟨M, Γ, S, Q', E', r, e, h, oq, ox⟩ := h
  refine lift_lc hu ⟨M, Γ, S, E', r, e, h, ?_, ox⟩
  intro M1 S1 H1 t1 r1 p hp M2 S2 H2 t2 r2 acc us hp2 mp sp hd hq
  have ne1 : ∀ a o, H1 a = some o → a ≠ p := fun a o q => ne_of_none q hp
  have t := t1.trans t2
  have kp : Kp M2 H2 (fun a => M2 a ∧ a ≠ p) H2 := fun a o q n => ⟨q, fun z => n z.1⟩
  refine oq (fun a => M2 a ∧ a ≠ p) S2 H2 ⟨fun a o q n => ⟨(t.keep a o q n).1, fun z => (t.keep a o q n).2 z.1⟩, fun a o q m n y => ?_⟩ ⟨fun a x hx => obD_kp kp (r2.ob a x hx) rfl, fun a hx => ⟨r2.mu a hx, fun z => ?_⟩, fun a ha => r2.tr a ha.1, r2.tab.gen (fun a o _ e n => ⟨e, fun z => n z.1⟩) (fun P o ht e m n => ⟨e, n, fun _ => ⟨m, neT lst_nT hp2 ht e⟩⟩)⟩ (.lst acc) (.ref p) ?_ hq
  · obtain ⟨f1, f2, f3⟩ := t1.forn a o q m n y
    exact ⟨(t.forn a o q m n y).1, ⟨(t.forn a o q m n y).2.1, ne1 a o f1⟩, (t.forn a o q m n y).2.2⟩
  · rw [z] at hx
    exact hx sp
  · simp only [Den]
    exact ⟨p, us, rfl, hp2, fun z => z.2 rfl, denL_kp kp _ _ hd⟩
theorem lc_mut {K : PySem.W.Frag} {g : WG} {we : WE} {vs us : List Nat} {σ : St} {H : Hp} {Q : VK} (hu : ∀ j ∈ us, j ∈ vs) (h : liftE K W (wLcM wi g wt we vs) σ H Q) : tLc (liftI K W wi) (liftG K us g) (liftT K W0 wt) (liftE K W0 we) vs σ H Q := by
  obtain ⟨M, Γ, S, Q', E', r, e, h, oq, ox⟩ := h
  refine lift_lc hu ⟨M, Γ, S, E', r, e, h, ?_, ox⟩
  intro M1 S1 H1 t1 r1 p hp M2 S2 H2 t2 r2 acc us hp2 mp sp hd hq
  have ne1 : ∀ a o, H1 a = some o → a ≠ p := fun a o q => ne_of_none q hp
  have t := t1.trans t2
  refine oq M2 (S2.put p (.lst acc)) H2 ⟨t.keep, fun a o q m n y => ?_⟩ ⟨fun a x hx => ?_, fun a hx => ?_, r2.tr, r2.tab.gen (fun a o _ e n => ⟨e, n⟩) (fun P o ht e m n => ⟨e, by rw [Sto.put_ne (neT lst_nT hp2 ht e)]; exact n, fun _ => m⟩)⟩ (.ref p) (.ref p) (by simp only [Den]) (hq p sp)
  · obtain ⟨f1, f2, f3⟩ := t1.forn a o q m n y
    exact ⟨(t.forn a o q m n y).1, (t.forn a o q m n y).2.1, by rw [Sto.put_ne (ne1 a o f1)]; exact (t.forn a o q m n y).2.2⟩
  · by_cases z : a = p
    · subst z
      rw [Sto.put_same] at hx
      cases hx
      exact ⟨us, hp2, hd⟩
    · rw [Sto.put_ne z] at hx
      exact r2.ob a x hx
  · by_cases z : a = p
    · rw [z]
      exact mp
    · rw [Sto.put_ne z] at hx
      exact r2.mu a hx
theorem se_lc {scope : Scope} {own : List (Str × Nat)} {ifs : List Expr} {g : WG} {us : List Nat} {we : WE} {elt : Expr} (hc : X.calm = true) (hN : X.N.Nodup) (hi : SI X W tg iter wi) (ok : BlkOk X.N X.env.scope scope own) (hu : ∀ j ∈ us, j ∈ own.map (·.2))
    (hg : ∀ (s : Shared) (H : Hp) (C : Addr) (cl : List (Str × Addr)) (fp : List Addr), SG (X.blk s H scope (compEnvC scope cl C X.env) fp) tg us g) (ht : ∀ (s : Shared) (H : Hp) (C : Addr) (cl : List (Str × Addr)) (fp : List Addr), STs (X.blk s H scope (compEnvC scope cl C X.env) fp) W0 ifs wt)
    (he : ∀ (s : Shared) (H : Hp) (C : Addr) (cl : List (Str × Addr)) (fp : List Addr), SE (X.blk s H scope (compEnvC scope cl C X.env) fp) W0 elt we) (hs : ∀ x, foldedSetIterable iter X.env x = pure x := by intro _; rfl) :
    SE X W (.ListComp elt [⟨tg, iter, ifs, 0⟩] scope pos) (wLc wi g wt we (own.map (·.2))) :=
  ⟨pe_imp (pe_lc hc hN hi.pi ok (fun s H C cl fp => (hg s H C cl fp).pg) (fun s H C cl fp => (ht s H C cl fp).pt) (fun s H C cl fp => (he s H C cl fp).pe) hs) fun _ _ _ h => lc_frz hu h⟩
/-- x = [..] on one line -/
theorem ss_setLc {i : Nat} {y : Str} {py : Pos} {scope : Scope} {own : List (Str × Nat)} {ifs : List Expr} {g : WG} {us : List Nat} {we : WE} {elt : Expr} {spos : Pos} (hc : X.calm = true) (hN : X.N.Nodup) (hy : X.N[i]? = some y) (hyl : X.env.scope.names.lookup y = some .local)
    (hsw : swapsWith (.ListComp elt [⟨tg, iter, ifs, 0⟩] scope pos) (some (.Name y py)) spos.line X.env = pure true) (hi : SI X W tg iter wi) (ok : BlkOk X.N X.env.scope scope own) (hu : ∀ j ∈ us, j ∈ own.map (·.2))
    (hg : ∀ (s : Shared) (H : Hp) (C : Addr) (cl : List (Str × Addr)) (fp : List Addr), SG (X.blk s H scope (compEnvC scope cl C X.env) fp) tg us g) (ht : ∀ (s : Shared) (H : Hp) (C : Addr) (cl : List (Str × Addr)) (fp : List Addr), STs (X.blk s H scope (compEnvC scope cl C X.env) fp) W0 ifs wt)
    (he : ∀ (s : Shared) (H : Hp) (C : Addr) (cl : List (Str × Addr)) (fp : List Addr), SE (X.blk s H scope (compEnvC scope cl C X.env) fp) W0 elt we) (hs : ∀ x, foldedSetIterable iter X.env x = pure x := by intro _; rfl) :
    SS X W (.Assign [.Name y py] (.ListComp elt [⟨tg, iter, ifs, 0⟩] scope pos) spos) (wSet i (wLc wi g wt we (own.map (·.2)))) :=
  ⟨ps_imp (ps_setLc hc hN hy hyl hsw hi.pi ok (fun s H C cl fp => (hg s H C cl fp).pg) (fun s H C cl fp => (ht s H C cl fp).pt) (fun s H C cl fp => (he s H C cl fp).pe) hs) fun D σ H h => by
    have h2 := lift_set h
    exact lc_frz hu h2⟩
end
end PL
end
/-! from PL5.lean -/
section
/-! PL5: defs and their calls. -/
namespace PL
open PySem L2
variable [TabCtx]

abbrev PSp := List D → Sto → QK → EK → Prop
def liftSp (K : PySem.W.Frag) (sp : PSp) : Sp := fun vs H Q E => ∃ M S ds Q' E', StD K M H S ∧ DenL K M H ds vs ∧ sp ds S Q' E' ∧ OkQ K M S H Q' Q ∧ (Fut K M S H fun M' S' H' => ∀ c fs dd, ExD K M' H' fs dd → E' c fs S' → E c dd H')
def wCall (sp : PSp) (ws : WA) : WE := fun Γ S Q E => ws Γ S (fun ds S1 => sp ds S1 Q E) E
section
variable {X : Cx} {W : WX} {k : Nat} {pos : Pos} {a b c : Expr} {es : List Expr} {ws : WA}
theorem lift_call {K : PySem.W.Frag} {sp : PSp} {σ : St} {H : Hp} {Q : VK} (h : liftE K W (wCall sp ws) σ H Q) : tCallS (liftSp K sp) (L2.WE W) (liftA K W ws) σ H Q := by
  obtain ⟨M, Γ, S, Q', E', r, e, h, oq, ox⟩ := h
  refine ⟨M, Γ, S, _, E', r, e, h, ?_, ox⟩
  intro M1 S1 H1 t1 r1 ds vs hd hq
  exact ⟨M1, S1, ds, Q', E', r1, hd, hq, oq.at t1, ox.at t1⟩
theorem se_call {f : Addr} {fd : FuncData} {ps : List Str} {sp : PSp} {x : Str} {p : Pos} (F : FnOk X.prog X.w X.K X.mg X.base (L2.CX X.prog X.w) k f fd ps (liftSp X.K sp)) (hr : Room k X.A) (hg : Gl X x) (hm : X.mg x = some (.ref f)) (hk : PySem.W.keepIn X.K (.ref f) = true) (hb : Binds X.K fd ps []) (tk : Takes X W)
    (ha : SA X W (a :: es) ws) (hdb : (x == ("__debug__" : Str)) = false := by decide) (he : starEach (a :: es) X.env = (false, eval a X.env) :: starEach es X.env := by rfl) (hpl : (backTo pos (starEach es X.env)).any (·.1) = false := by rfl) :
    SE X W (.Call (.Name x p) (a :: es) [] pos) (wCall sp ws) :=
  ⟨pe_imp (pe_callS F hr hg hm hk hb (fun σ => passAt tk σ) ha.pa hdb he hpl) fun _ _ _ h => lift_call h⟩
end
/-- the names' data at a def's entry -/
def startG (N : List Str) (ds : List D) : Gm := ds.map some ++ List.replicate (N.length - ds.length) none
theorem envD_start {K : PySem.W.Frag} {M : Mu} {H : Hp} {N : List Str} {ds : List D} {vs : List V} (h : DenL K M H ds vs) : EnvD K M H (startG N ds) (L2.start N vs) := by
  have hl := denL_len h
  refine ⟨by simp only [startG, L2.start, List.length_append, List.length_map, List.length_replicate]; omega, fun i d hi => ?_⟩
  unfold startG at hi
  unfold L2.start
  by_cases hlt : i < ds.length
  · rw [List.getElem?_append_left (by rw [List.length_map]; exact hlt), List.getElem?_map] at hi
    rw [List.getElem?_append_left (by rw [List.length_map]; omega), List.getElem?_map]
    cases e : ds[i]? with
    | none =>
      rw [e] at hi
      cases hi
    | some x =>
      rw [e] at hi
      have hx : x = d := Option.some.inj (Option.some.inj hi)
      subst hx
      obtain ⟨v, h1, h2⟩ := denL_get h e
      exact ⟨v, by rw [h1]; rfl, h2⟩
  · rw [List.getElem?_append_right (by rw [List.length_map]; omega), List.getElem?_replicate] at hi
    split at hi
    · cases hi
    · cases hi
/-- where a def's body runs -/
abbrev BX (P : Program) (w : World) (K : PySem.W.Frag) (mg : Str → Option Value) (base : Heap) (N : List Str) (qual : Str) (scope : Scope) (f : Addr) (cd : Value) (A : Around) (outer : List PySem.Env) (s : Shared) (H : Hp) (E : XK) : Cx := cxOf (L2.CX P w) P w K mg base N qual scope f cd A outer s H E
abbrev BW (E : XK) : WX := fun cls d _ H => E cls d H
/-- a body's context, and what is known of it -/
structure Bd (X : Cx) (W : WX) (k : Nat) : Prop where
  tk : Takes X W
  pa : PassesOwn (model X.prog X.w) X.A X.env X.xe
  hr : Room k X.A
section
variable {P : Program} {w : World} {K : PySem.W.Frag} {mg : Str → Option Value} {base : Heap} {x qual : Str} {params : Arguments} {body : List Stmt} {scope : Scope} {f : Addr} {fd : FuncData}
/-- THE RULE for a def -/
theorem fn_pl {N ps : List Str} {k : Nat} {sp : PSp} {wb : WS} (F : FunD K x qual params body scope [] [] f fd) (S : FnScope N ps scope) (len : ∀ ds S Q E, sp ds S Q E → ds.length = ps.length)
    (hbody : ∀ (cd : Value) (A : Around) (outer : List PySem.Env) (s : Shared) (H : Hp) (E : XK), Bd (BX P w K mg base N qual scope f cd A outer s H E) (BW E) k → SSs (BX P w K mg base N qual scope f cd A outer s H E) (BW E) body wb)
    (pure : ∀ ds S Q E, sp ds S Q E → wb { nx := fun _ S' => Q .non S', rt := Q } (fun c fs _ S' => E c fs S') (startG N ds) S) : FnOk P w K mg base (L2.CX P w) (k + 1) f fd ps (liftSp K sp) := by
  refine F.ok S (fun vs H Q E h => ?_) (fun cdv A outer s H vs Q E hr h => ⟨liftS K (BW E) wb, (hbody cdv A outer s H E ⟨takes_of rfl rfl rfl rfl, passes_of rfl, hr⟩).ps, ?_⟩)
  · obtain ⟨M, S', ds, Q', E', r, hd, h, _, _⟩ := h
    rw [denL_len hd]
    exact len _ _ _ _ h
  · obtain ⟨M, S', ds, Q', E', r, hd, h, oq, ox⟩ := h
    refine ⟨M, startG N ds, S', _, _, r, envD_start hd, pure ds S' Q' E' h, ⟨?_, oq, fun _ _ _ _ _ _ _ _ h => h, fun _ _ _ _ _ _ _ _ h => h⟩, ?_⟩
    · intro M1 S1 H1 t1 r1 Γ σ e hq
      exact oq M1 S1 H1 t1 r1 _ _ (by simp only [Den]) hq
    · intro M1 S1 H1 t1 r1 c fs dd Γ σ e hx hq
      exact ox M1 S1 H1 t1 r1 c fs dd hx hq
/-- a weaker promise -/
theorem FnOk.impP {ps : List Str} {k : Nat} {sp sp' : PSp} {CX : CXT} (F : FnOk P w K mg base CX k f fd ps (liftSp K sp)) (h : ∀ ds S Q E, sp' ds S Q E → sp ds S Q E) : FnOk P w K mg base CX k f fd ps (liftSp K sp') :=
  FnOk.imp F fun vs H Q E ⟨M, S, ds, Q', E', r, hd, hs, oq, ox⟩ => ⟨M, S, ds, Q', E', r, hd, h ds S Q' E' hs, oq, ox⟩
end
end PL
end
/-! from PL6.lean -/
section
/-! PL6: isinstance, ==, in, sums and products, methods of lists. -/
namespace PL
open PySem L2
variable [TabCtx]

section
variable {X : Cx} {W : WX} {k : Nat} {pos : Pos} {a b c : Expr} {wa wb wc : WE} {es : List Expr} {ws : WA}
/-! ### numbers -/
def CDivA (i j : Int) : Prop := j ≠ 0 ∧ j.natAbs.log2 < 9000
abbrev dMulI : RD := dIC IntMulOk fun i j => i * j
abbrev dDiv : RD := dIC CDivA fun i j => i.fdiv j
abbrev dPow : RD := dIC CPow fun i j => i ^ j.toNat
theorem od_mulI : OD X (binaryOp .Mult) dMulI := od_intC (opI fun _ _ _ _ _ _ _ hc q => PyProof.Rows.mul_int q hc)
theorem od_div : OD X (binaryOp .FloorDiv) dDiv := od_intC (opI fun _ _ _ _ _ _ _ hc q => PyProof.Rows.floordiv_int hc.1 q (.inl (PyProof.noPylong_of_log2 hc.2)))
theorem od_pow : OD X (binaryOp .Pow) dPow := od_intC op_pow
theorem mulOk_r {i j : Int} (h1 : -(2 ^ 64) < j) (h2 : j < 2 ^ 64) : IntMulOk i j := .of_right (intBits_le_64 h1 h2)
theorem mulOk_l {i j : Int} (h1 : -(2 ^ 64) < i) (h2 : i < 2 ^ 64) : IntMulOk i j := .of_left (intBits_le_64 h1 h2)
theorem divOk {i j : Int} (h1 : 0 < j) (h2 : j < 2 ^ 64) : CDivA i j := by
  refine ⟨by omega, ?_⟩
  have : j.natAbs.log2 < 64 := (Nat.log2_lt (by omega)).mpr (by omega)
  omega
def wUn (rd : D → Sto → QK → Prop) (wa : WE) : WE := fun Γ S Q E => wa Γ S (fun d S1 => rd d S1 Q) E
def dNeg : D → Sto → QK → Prop := fun d S Q => ∃ i, d = .int i ∧ Q (.int (-i)) S
theorem se_neg (ha : SE X W a wa) : SE X W (.UnaryOp .USub a pos) (wUn dNeg wa) := ⟨pe_imp (pe_un un_neg ha.pe) fun σ H Q h => by
  obtain ⟨M, Γ, S, Q', E', r, e, h, oq, ox⟩ := h
  refine ⟨M, Γ, S, _, E', r, e, h, ?_, ox⟩
  rintro M1 S1 H1 t1 r1 d v hd ⟨i, rfl, hq⟩
  simp only [Den] at hd
  exact ⟨i, hd, oq M1 S1 H1 t1 r1 _ _ (by simp only [Den]) hq⟩⟩

/-! ### + of texts, tuples, lists -/
def dAdd : RD := fun x y S Q => match x, y with
  | .int i, .int j => Q (.int (i + j)) S
  | .str s, .str t => s.length + t.length ≤ sizeLine ∧ Q (.str (s ++ t)) S
  | .tup ds, .tup es => ds.length + es.length ≤ sizeLine ∧ Q (.tup (ds ++ es)) S
  | .lst ds, .lst es => ds.length + es.length ≤ sizeLine ∧ Q (.lst (ds ++ es)) S
  | _, _ => False
theorem od_addS : OD X (binaryOp .Add) (fun x y S Q => ∃ s t, x = .str s ∧ y = .str t ∧ s.length + t.length ≤ sizeLine ∧ Q (.str (s ++ t)) S) := od_of op_add_str fun M S H d e x y Q' Q r h1 h2 hq oq => by
  obtain ⟨s, t, rfl, rfl, hl, hq⟩ := hq
  simp only [Den] at h1 h2
  exact ⟨s, t, h1, h2, hl, oq.now r _ _ (by simp only [Den]) hq⟩
theorem od_addT : OD X (binaryOp .Add) (fun x y S Q => ∃ ds es, x = .tup ds ∧ y = .tup es ∧ ds.length + es.length ≤ sizeLine ∧ Q (.tup (ds ++ es)) S) := od_of op_catA fun M S H d e x y Q' Q r h1 h2 hq oq => by
  obtain ⟨ds, es, rfl, rfl, hl, hq⟩ := hq
  have g1 := h1
  have g2 := h2
  simp only [Den] at h1 h2
  obtain ⟨p, vs, rfl, e1, e2⟩ := h1
  obtain ⟨q, us, rfl, f1, f2⟩ := h2
  refine ⟨p, q, vs, us, rfl, rfl, e1.sq, f1.sq, by rw [denL_len e2, denL_len f2]; exact hl, fun z => ?_, fun _ z => ?_, fun _ _ n hn => ?_⟩
  · subst z
    have z2 : ds = [] := List.length_eq_zero_iff.mp (denL_len e2).symm
    subst z2
    exact oq.now r _ _ g2 hq
  · subst z
    have z2 : es = [] := List.length_eq_zero_iff.mp (denL_len f2).symm
    subst z2
    rw [List.append_nil] at hq
    exact oq.now r _ _ g1 hq
  · refine oq M S _ (new_tr hn) (new_st r hn) _ _ ?_ hq
    simp only [Den]
    exact ⟨n, vs ++ us, rfl, .inl ⟨upd_same, new_mu r hn⟩, denL_tr r (new_tr hn) _ _ (denL_app e2 f2)⟩
theorem od_addL : OD X (binaryOp .Add) (fun x y S Q => ∃ ds es, x = .lst ds ∧ y = .lst es ∧ ds.length + es.length ≤ sizeLine ∧ Q (.lst (ds ++ es)) S) := od_of op_cat fun M S H d e x y Q' Q r h1 h2 hq oq => by
  obtain ⟨ds, es, rfl, rfl, hl, hq⟩ := hq
  simp only [Den] at h1 h2
  obtain ⟨p, vs, rfl, e1, m1, e2⟩ := h1
  obtain ⟨q, us, rfl, f1, m2, f2⟩ := h2
  refine ⟨p, q, vs, us, rfl, rfl, e1, f1, by rw [denL_len e2, denL_len f2]; exact hl, fun n hn => ?_⟩
  refine oq M S _ (new_tr hn) (new_st r hn) _ _ ?_ hq
  simp only [Den]
  exact ⟨n, vs ++ us, rfl, upd_same, new_mu r hn, denL_tr r (new_tr hn) _ _ (denL_app e2 f2)⟩
theorem od_add : OD X (binaryOp .Add) dAdd := od_or (od_or od_addI od_addS fun _ _ _ _ h => h) (od_or od_addT od_addL fun _ _ _ _ h => h) fun d e S Q h => by
  unfold dAdd at h
  split at h
  · exact .inl (.inl ⟨_, _, rfl, rfl, h⟩)
  · exact .inl (.inr ⟨_, _, rfl, rfl, h⟩)
  · exact .inr (.inl ⟨_, _, rfl, rfl, h⟩)
  · exact .inr (.inr ⟨_, _, rfl, rfl, h⟩)
  · exact h.elim

/-! ### isinstance -/
def TyD (S : Sto) : D → String → Prop
  | .non, t => t = "NoneType"
  | .bl _, t => t = "bool"
  | .int _, t => t = "int"
  | .str _, t => t = "str"
  | .tup _, t => t = "tuple"
  | .lst _, t => t = "list"
  | .scr _, t => t = "list"
  | .dct _, t => t = "dict"
  | .ref a, t => (∃ xs, S a = some (.lst xs) ∧ t = "list") ∨ ∃ xs, S a = some (.dct xs) ∧ t = "dict"
  | _, _ => False
theorem kTup {K : PySem.W.Frag} {a : Addr} {vs : List V} (h : SqT K noH a vs) : ∃ o, K.lookup a = some o ∧ o.cls = .type "tuple" := by
  rcases h with h | ⟨o, _, _, h1, h2, _⟩
  · exact absurd h noH_rd
  · exact ⟨o, h1, h2⟩
theorem tyX_den {K : PySem.W.Frag} {M : Mu} {S : Sto} {H : Hp} {d : D} {v : V} {t : String} (r : StD K M H S) (h : Den K M H d v) (ht : TyD S d t) : TyX K H v (.type t) := by
  cases d with
  | non => cases ht; simp only [Den] at h; subst h; exact .base .non
  | bl b => cases ht; simp only [Den] at h; subst h; exact .base (.bl b)
  | int b => cases ht; simp only [Den] at h; subst h; exact .base (.int b)
  | str b => cases ht; simp only [Den] at h; subst h; exact .base (.str b)
  | tup ds =>
    cases ht
    simp only [Den] at h
    obtain ⟨p, vs, rfl, e1, _⟩ := h
    rcases e1 with ⟨e1, _⟩ | e1
    · exact .base (.tup e1)
    · obtain ⟨o, h1, h2⟩ := kTup e1
      exact .kTuple h1 h2
  | lst ds =>
    cases ht
    simp only [Den] at h
    obtain ⟨p, vs, rfl, e1, _⟩ := h
    exact .base (.lst e1)
  | dct ds =>
    cases ht
    simp only [Den] at h
    obtain ⟨p, vs, rfl, e1, _⟩ := h
    exact .base (.dK e1)
  | scr ds =>
    cases ht
    simp only [Den] at h
    obtain ⟨p, rfl, e1⟩ := h
    rcases e1 with ⟨e1 | ⟨o, e1⟩, _⟩ | e1
    · exact .base (.lst e1)
    · exact .base (.frz e1)
    · rcases e1 with e1 | ⟨o, _, _, h1, h2, _⟩
      · exact absurd e1 noH_rd
      · exact .kList h1 h2
  | ref p =>
    simp only [Den] at h
    subst h
    rcases ht with ⟨xs, hx, rfl⟩ | ⟨xs, hx, rfl⟩
    · obtain ⟨vs, h1, _⟩ := r.ob p _ hx
      exact .base (.lst h1)
    · obtain ⟨vs, h1, _⟩ := r.ob p _ hx
      exact .base (.dK h1)
  | _ => exact False.elim ht
def tyNames : List String := ["NoneType", "bool", "int", "str", "tuple", "list", "dict"]
def isa (t T : String) : Bool := t == T || (t == "bool" && T == "int")
theorem isa_kit : ∀ t ∈ tyNames, ∀ T ∈ tyNames, kitB t T = some (isa t T) := by decide +kernel
theorem tyD_mem {S : Sto} {d : D} {t : String} (h : TyD S d t) : t ∈ tyNames := by
  cases d with
  | ref a => rcases h with ⟨_, _, rfl⟩ | ⟨_, _, rfl⟩ <;> decide
  | obj => exact h.elim
  | dcn => exact h.elim
  | exc => exact h.elim
  | exq => exact h.elim
  | raw => exact h.elim
  | _ => cases h; decide
def rIsiD : RC := fun ds S Q => ∃ d T t, ds = [d, .raw (.ty T)] ∧ TyD S d t ∧ T ∈ tyNames ∧ Q (.bl (isa t T)) S
theorem oc_isi : OC X (.builtin "isinstance") rIsiD := oc_of call_isi fun M S H ds vs Q' Q r h1 hq oq => by
  obtain ⟨d, T, t, rfl, ht, hT, hq⟩ := hq
  obtain ⟨v, u, rfl, hv, hu⟩ := denL_two h1
  simp only [Den] at hu
  subst hu
  exact ⟨v, .ty T, .type t, .type T, isa t T, rfl, .ty T, tyX_den r hv ht, kit_ty (isa_kit t (tyD_mem ht) T hT), oq.now r _ _ (by simp only [Den]) hq⟩
/-- isinstance(x, (T, U, ..)) -/
def rIsiTD : RC := fun ds S Q => ∃ (d : D) (Ts : List String) (t : String), ds = [d, .tup (Ts.map fun T => .raw (.ty T))] ∧ TyD S d t ∧ (∀ T ∈ Ts, T ∈ tyNames) ∧ Q (.bl (Ts.any fun T => isa t T)) S
theorem denL_tys {K : PySem.W.Frag} {M : Mu} {H : Hp} : ∀ {Ts : List String} {vs : List V}, DenL K M H (Ts.map fun T => .raw (.ty T)) vs → vs = Ts.map V.ty
  | [], _, h => by simpa only [DenL, List.map_nil] using h
  | n :: ns, vs, h => by
    simp only [List.map_cons, DenL, Den] at h
    obtain ⟨v, q, rfl, rfl, h2⟩ := h
    rw [List.map_cons, denL_tys h2]
theorem cls_tys : ∀ Ts : List String, Paired ClsV (Ts.map V.ty) (Ts.map Value.type)
  | [] => .nil
  | T :: Ts => .cons (.ty T) (cls_tys Ts)
theorem kitAny_tys {K : PySem.W.Frag} {t : String} (ht : t ∈ tyNames) : ∀ Ts : List String, (∀ T ∈ Ts, T ∈ tyNames) → PySem.W.kitAny K (.type t) (Ts.map Value.type) = some (Ts.any fun T => isa t T)
  | [], _ => rfl
  | T :: Ts, h => by
    rw [List.map_cons, List.any_cons]
    refine kitAny_cons (b := isa t T) (kit_ty (isa_kit t ht T (h T List.mem_cons_self))) (fun e => ?_) fun e => ?_
    · rw [e, Bool.false_or]
      exact kitAny_tys ht Ts fun U hU => h U (List.mem_cons_of_mem _ hU)
    · rw [e, Bool.true_or]
theorem oc_isiT : OC X (.builtin "isinstance") rIsiTD := by
  intro pins s σ H xs us Q I rx q
  obtain ⟨M, S, ds, Q', r, h1, ⟨d, Ts, t, rfl, ht, hT, hq⟩, oq⟩ := q
  obtain ⟨v, u, rfl, hv, hu⟩ := denL_two h1
  simp only [Den] at hu
  obtain ⟨p, ws, rfl, e1, e2⟩ := hu
  have e3 := denL_tys e2
  subst e3
  have hk := kitAny_tys (K := X.K) (tyD_mem ht) Ts hT
  have hty := tyX_den r hv ht
  have hQ : Q (.bl (Ts.any fun T => isa t T)) H := oq.now r _ _ (by simp only [Den]) hq
  rcases e1 with ⟨e1, _⟩ | e1
  · exact call_isiT pins s σ H _ us Q I rx ⟨v, p, _, .type t, _, _, rfl, e1, cls_tys Ts, hty, hk, hQ⟩
  · rcases e1 with e1 | ⟨o, its, n, g1, g2, g3, g4, g5⟩
    · exact absurd e1 noH_rd
    · obtain ⟨oc, od, dt, sl⟩ := o
      simp only at g2 g3
      subst g2 g3
      have e4 := ClsV.all (cls_tys Ts) g5
      have e5 : its = (Ts.map Value.type).toArray := by rw [← e4]
      subst e5
      exact call_isiK pins s σ H _ us Q I rx ⟨v, p, od, Ts.map Value.type, n, sl, .type t, _, rfl, g1, hty, hk, hQ⟩
/-- a built-in type as a value -/
theorem se_type {x : Str} {T : String} {p : Pos} (hg : Gl X x) (hm : X.mg x = none) (hv : bootBuiltins x = some (.type T)) (hn : x ≠ "__name__" := by decide) (hd : (x == ("__debug__" : Str)) = false := by decide) : SE X W (.Name x p) (wC (.raw (.ty T))) :=
  se_const (pe_bltn (v := .ty T) hg hm hv rfl hn hd) fun _ _ => by simp only [Den]

/-! ### == -/
mutual
/-- as plain data: no store, no objects -/
def toPy : D → Option PyData
  | .non => some .none
  | .bl b => some (.bool b)
  | .int i => some (.int i)
  | .str s => some (.str s)
  | .tup ds => (toPyL ds).map .tuple
  | .lst ds => (toPyL ds).map .list
  | _ => none
def toPyL : List D → Option (List PyData)
  | [] => some []
  | d :: ds => match toPy d, toPyL ds with
    | some p, some ps => some (p :: ps)
    | _, _ => none
end
mutual
theorem dp_den {K : PySem.W.Frag} {M : Mu} {H : Hp} : ∀ (d : D) (v : V) (p : PyData), Den K M H d v → toPy d = some p → Dp K H v p
  | .non, v, p, h, e => by simp only [Den] at h; subst h; simp only [toPy, Option.some.injEq] at e; subst e; exact .non
  | .bl b, v, p, h, e => by simp only [Den] at h; subst h; simp only [toPy, Option.some.injEq] at e; subst e; exact .bl b
  | .int b, v, p, h, e => by simp only [Den] at h; subst h; simp only [toPy, Option.some.injEq] at e; subst e; exact .int b
  | .str b, v, p, h, e => by simp only [Den] at h; subst h; simp only [toPy, Option.some.injEq] at e; subst e; exact .str b
  | .tup ds, v, p, h, e => by
    simp only [Den] at h
    obtain ⟨a, vs, rfl, h1, h2⟩ := h
    simp only [toPy, Option.map_eq_some_iff] at e
    obtain ⟨ps, e1, rfl⟩ := e
    exact .tup h1.sq (dpL_den ds vs ps h2 e1)
  | .lst ds, v, p, h, e => by
    simp only [Den] at h
    obtain ⟨a, vs, rfl, h1, m, h2⟩ := h
    simp only [toPy, Option.map_eq_some_iff] at e
    obtain ⟨ps, e1, rfl⟩ := e
    exact .lst (SqL.of h1) (dpL_den ds vs ps h2 e1)
  | .obj _ _, v, p, h, e => by simp [toPy] at e
  | .exc _ _, v, p, h, e => by simp [toPy] at e
  | .exq _ _ _, v, p, h, e => by simp [toPy] at e
  | .dct _, v, p, h, e => by simp [toPy] at e
  | .dcn _ _, v, p, h, e => by simp [toPy] at e
  | .scr _, v, p, h, e => by simp [toPy] at e
  | .ref _, v, p, h, e => by simp [toPy] at e
  | .raw _, v, p, h, e => by simp [toPy] at e
theorem dpL_den {K : PySem.W.Frag} {M : Mu} {H : Hp} : ∀ (ds : List D) (vs : List V) (ps : List PyData), DenL K M H ds vs → toPyL ds = some ps → DpAll K H vs ps
  | [], vs, ps, h, e => by
    simp only [DenL] at h
    subst h
    simp only [toPyL, Option.some.injEq] at e
    subst e
    exact .nil
  | d :: ds, vs, ps, h, e => by
    simp only [DenL] at h
    obtain ⟨v, r, rfl, h1, h2⟩ := h
    simp only [toPyL] at e
    split at e
    · rename_i p q e1 e2
      cases e
      exact .cons (dp_den d v p h1 e1) (dpL_den ds r q h2 e2)
    · cases e
end
/-- scalars -/
def sv : D → Option V
  | .non => some .non
  | .bl b => some (.bl b)
  | .int i => some (.int i)
  | .str s => some (.str s)
  | _ => none
theorem sv_den {K : PySem.W.Frag} {M : Mu} {H : Hp} {d : D} {v u : V} (h : Den K M H d v) (e : sv d = some u) : v = u := by
  cases d with
  | non => simp only [Den] at h; simp only [sv, Option.some.injEq] at e; rw [h, e]
  | bl b => simp only [Den] at h; simp only [sv, Option.some.injEq] at e; rw [h, e]
  | int b => simp only [Den] at h; simp only [sv, Option.some.injEq] at e; rw [h, e]
  | str b => simp only [Den] at h; simp only [sv, Option.some.injEq] at e; rw [h, e]
  | _ => cases e
def dEqS : RD := fun x y S Q => ∃ u v, sv x = some u ∧ sv y = some v ∧ scal u v = true ∧ Q (.bl (decide (u = v))) S
def dNeS : RD := fun x y S Q => ∃ u v, sv x = some u ∧ sv y = some v ∧ scal u v = true ∧ Q (.bl (!decide (u = v))) S
theorem od_eqS : OD X (compareOp .Eq) dEqS := od_of op_eq fun M S H d e x y Q' Q r h1 h2 hq oq => by
  obtain ⟨u, v, e1, e2, hs, hq⟩ := hq
  rw [sv_den h1 e1, sv_den h2 e2]
  exact ⟨hs, oq.now r _ _ (by simp only [Den]) hq⟩
theorem od_neS : OD X (compareOp .NotEq) dNeS := od_of op_ne fun M S H d e x y Q' Q r h1 h2 hq oq => by
  obtain ⟨u, v, e1, e2, hs, hq⟩ := hq
  rw [sv_den h1 e1, sv_den h2 e2]
  exact ⟨hs, oq.now r _ _ (by simp only [Den]) hq⟩
def dEqD : RD := fun x y S Q => ∃ p q, toPy x = some p ∧ toPy y = some q ∧ SeqAt.shaped p = true ∧ SeqAt.shaped q = true ∧ Q (.bl (PyData.eqv p q)) S
def dNeD : RD := fun x y S Q => ∃ p q, toPy x = some p ∧ toPy y = some q ∧ SeqAt.shaped p = true ∧ SeqAt.shaped q = true ∧ Q (.bl (!PyData.eqv p q)) S
theorem od_eqD (hr : Room k X.A) : OD X (compareOp .Eq) dEqD := od_of (op_eqD hr.units) fun M S H d e x y Q' Q r h1 h2 hq oq => by
  obtain ⟨p, q, e1, e2, hs, ht, hq⟩ := hq
  exact ⟨p, q, dp_den d x p h1 e1, dp_den e y q h2 e2, hs, ht, oq.now r _ _ (by simp only [Den]) hq⟩
theorem od_neD (hr : Room k X.A) : OD X (compareOp .NotEq) dNeD := od_of (op_neD hr.units) fun M S H d e x y Q' Q r h1 h2 hq oq => by
  obtain ⟨p, q, e1, e2, hs, ht, hq⟩ := hq
  exact ⟨p, q, dp_den d x p h1 e1, dp_den e y q h2 e2, hs, ht, oq.now r _ _ (by simp only [Den]) hq⟩
/-- ==: scalars, or data -/
def dEq : RD := fun x y S Q => match sv x, sv y with
  | some u, some v => (scal u v = true ∧ Q (.bl (decide (u = v))) S) ∨ (scal u v = false ∧ dEqD x y S Q)
  | _, _ => dEqD x y S Q
def dNe : RD := fun x y S Q => match sv x, sv y with
  | some u, some v => (scal u v = true ∧ Q (.bl (!decide (u = v))) S) ∨ (scal u v = false ∧ dNeD x y S Q)
  | _, _ => dNeD x y S Q
theorem od_eq (hr : Room k X.A) : OD X (compareOp .Eq) dEq := od_or od_eqS (od_eqD hr) fun x y S Q h => by
  unfold dEq at h
  split at h
  · rename_i u v e1 e2
    rcases h with ⟨h1, h2⟩ | ⟨_, h2⟩
    · exact .inl ⟨u, v, e1, e2, h1, h2⟩
    · exact .inr h2
  · exact .inr h
theorem od_ne (hr : Room k X.A) : OD X (compareOp .NotEq) dNe := od_or od_neS (od_neD hr) fun x y S Q h => by
  unfold dNe at h
  split at h
  · rename_i u v e1 e2
    rcases h with ⟨h1, h2⟩ | ⟨_, h2⟩
    · exact .inl ⟨u, v, e1, e2, h1, h2⟩
    · exact .inr h2
  · exact .inr h
/-- is None -/
def dIsN : RD := fun x y S Q => y = .non ∧ ((x = .non ∧ Q (.bl true) S) ∨ (x ≠ .non ∧ (∀ v, x ≠ .raw v) ∧ Q (.bl false) S))
def dNotN : RD := fun x y S Q => y = .non ∧ ((x = .non ∧ Q (.bl false) S) ∨ (x ≠ .non ∧ (∀ v, x ≠ .raw v) ∧ Q (.bl true) S))
theorem den_non {K : PySem.W.Frag} {M : Mu} {H : Hp} {d : D} (h : Den K M H d .non) : d = .non ∨ ∃ v, d = .raw v := by
  cases d with
  | non => exact .inl rfl
  | raw v => exact .inr ⟨v, rfl⟩
  | tup ds => simp only [Den] at h; obtain ⟨_, _, e, _⟩ := h; cases e
  | lst ds => simp only [Den] at h; obtain ⟨_, _, e, _⟩ := h; cases e
  | obj C ds => simp only [Den] at h; obtain ⟨_, _, _, e, _⟩ := h; cases e
  | exc C ds => simp only [Den] at h; obtain ⟨_, _, _, e, _⟩ := h; cases e
  | exq a d ds => simp only [Den] at h; obtain ⟨e, _⟩ := h; cases e
  | dct ds => simp only [Den] at h; obtain ⟨_, _, e, _⟩ := h; cases e
  | dcn w ds => simp only [Den] at h; obtain ⟨_, _, _, e, _⟩ := h; cases e
  | scr ds => simp only [Den] at h; obtain ⟨_, e, _⟩ := h; cases e
  | _ => simp only [Den] at h; cases h
theorem od_isN : OD X (compareOp .Is) dIsN := od_of op_isN fun M S H d e x y Q' Q r h1 h2 hq oq => by
  obtain ⟨rfl, hq⟩ := hq
  simp only [Den] at h2
  refine ⟨h2, ?_⟩
  rcases hq with ⟨rfl, hq⟩ | ⟨n1, n2, hq⟩
  · simp only [Den] at h1
    rw [h1]
    exact oq.now r _ _ (by simp only [Den, decide_true, Bool.not_true]) hq
  · have z : x ≠ .non := fun z => by
      subst z
      rcases den_non h1 with q | ⟨v, q⟩
      · exact n1 q
      · exact n2 v q
    rw [decide_eq_false z]
    exact oq.now r _ _ (by simp only [Den, Bool.not_false]) hq
theorem od_notN : OD X (compareOp .IsNot) dNotN := od_of op_notN fun M S H d e x y Q' Q r h1 h2 hq oq => by
  obtain ⟨rfl, hq⟩ := hq
  simp only [Den] at h2
  refine ⟨h2, ?_⟩
  rcases hq with ⟨rfl, hq⟩ | ⟨n1, n2, hq⟩
  · simp only [Den] at h1
    rw [h1]
    exact oq.now r _ _ (by simp only [Den, decide_true, Bool.not_true]) hq
  · have z : x ≠ .non := fun z => by
      subst z
      rcases den_non h1 with q | ⟨v, q⟩
      · exact n1 q
      · exact n2 v q
    rw [decide_eq_false z]
    exact oq.now r _ _ (by simp only [Den, Bool.not_false]) hq

/-! ### in -/
def svL : List D → Option (List V)
  | [] => some []
  | d :: ds => match sv d, svL ds with
    | some v, some vs => some (v :: vs)
    | _, _ => none
theorem svL_den {K : PySem.W.Frag} {M : Mu} {H : Hp} : ∀ {ds : List D} {vs us : List V}, DenL K M H ds vs → svL ds = some us → vs = us
  | [], _, _, h, e => by simp only [DenL] at h; simp only [svL, Option.some.injEq] at e; rw [h, e]
  | d :: ds, _, _, h, e => by
    simp only [DenL] at h
    obtain ⟨v, r, rfl, h1, h2⟩ := h
    simp only [svL] at e
    split at e
    · rename_i p q e1 e2
      cases e
      rw [sv_den h1 e1, svL_den h2 e2]
    · cases e
def dInQ (neg : Bool) : RD := fun x y S Q => ∃ xs u us, Sq S y xs ∧ sv x = some u ∧ svL xs = some us ∧ flatV u = true ∧ us.all flatV = true ∧ Q (.bl (if neg then !inV u us else inV u us)) S
theorem din_lift {neg : Bool} {K : PySem.W.Frag} {M : Mu} {S : Sto} {H : Hp} {d e : D} {x y : V} {Q' : QK} {Q : VK} (r : StD K M H S) (h1 : Den K M H d x) (h2 : Den K M H e y) (hq : dInQ neg d e S Q') (oq : OkQ K M S H Q' Q) : rIn K neg x y H Q := by
  obtain ⟨xs, u, us, hs, e1, e2, f1, f2, hq⟩ := hq
  obtain ⟨p, vs, rfl, g2, g3⟩ := sq_den r h2 hs
  have z1 := sv_den h1 e1
  have z2 := svL_den g2 e2
  subst z1 z2
  exact ⟨p, vs, rfl, g3.imp (fun z => z.2) (fun z => z.2.sq), f1, f2, oq.now r _ _ (by simp only [Den]) hq⟩
theorem od_inQ : OD X (compareOp .In) (dInQ false) := od_of op_in_seq fun M S H d e x y Q' Q r h1 h2 hq oq => din_lift r h1 h2 hq oq
theorem od_ninQ : OD X (compareOp .NotIn) (dInQ true) := od_of op_notIn_seq fun M S H d e x y Q' Q r h1 h2 hq oq => din_lift r h1 h2 hq oq
/-- one sign in a text -/
def dInS : RD := fun x y S Q => ∃ (c : Nat) (z : Str), x = .str ⟨#[c]⟩ ∧ y = .str z ∧ Q (.bl (decide (c ∈ z.cps.toList))) S
theorem od_inS : OD X (compareOp .In) dInS := od_of op_in_sign fun M S H d e x y Q' Q r h1 h2 hq oq => by
  obtain ⟨c, z, rfl, rfl, hq⟩ := hq
  simp only [Den] at h1 h2
  exact ⟨c, z, h1, h2, oq.now r _ _ (by simp only [Den]) hq⟩

/-! ### methods -/
abbrev RM := D → List D → Sto → QK → Prop
def liftM (K : PySem.W.Frag) (rm : RM) : V → List V → Hp → VK → Prop := fun x vs H Q => ∃ M S d ds Q', StD K M H S ∧ Den K M H d x ∧ DenL K M H ds vs ∧ rm d ds S Q' ∧ OkQ K M S H Q' Q
def OM (X : Cx) (id : String) (rm : RM) : Prop := MtR X id (liftM X.K rm)
/-- of which type the receiver is -/
def TyM (S : Sto) : D → String → Prop
  | .str _, T => T = "str"
  | .lst _, T => T = "list"
  | .dct _, T => T = "dict"
  | .ref a, T => (∃ xs, S a = some (.lst xs) ∧ T = "list") ∨ ∃ xs, S a = some (.dct xs) ∧ T = "dict"
  | _, _ => False
theorem tyM_den {K : PySem.W.Frag} {M : Mu} {S : Sto} {H : Hp} {d : D} {v : V} {T : String} (r : StD K M H S) (h : Den K M H d v) (ht : TyM S d T) : tyV K T v H := by
  cases d with
  | str z => cases ht; simp only [Den] at h; subst h; rfl
  | lst z =>
    cases ht
    simp only [Den] at h
    obtain ⟨p, vs, rfl, e1, _⟩ := h
    exact .inl ⟨rfl, vs, SqL.of e1⟩
  | dct z =>
    cases ht
    simp only [Den] at h
    obtain ⟨p, vs, rfl, e1, _⟩ := h
    exact .inr (.inr (.inl ⟨rfl, .inl ⟨vs, e1⟩⟩))
  | ref p =>
    simp only [Den] at h
    subst h
    rcases ht with ⟨xs, hx, rfl⟩ | ⟨xs, hx, rfl⟩
    · obtain ⟨vs, h1, _⟩ := r.ob p _ hx
      exact .inl ⟨rfl, vs, SqL.of h1⟩
    · obtain ⟨vs, h1, _⟩ := r.ob p _ hx
      exact .inr (.inr (.inl ⟨rfl, .inl ⟨vs, h1⟩⟩))
  | _ => exact ht.elim
def wBM (T : String) (rm : RM) (wo : WE) (ws : WA) : WE := fun Γ S Q E => wo Γ S (fun d S1 => TyM S1 d T ∧ ws Γ S1 (fun ds S2 => rm d ds S2 Q) E) E
theorem se_bm {T id : String} {name : Str} {rm : RM} {o : Expr} {wo : WE} {apos cpos : Pos} (pa : PlainAttrs T) (slot : Slot T name id) (hty : typeOf (.builtin id) = pure (.type "method_descriptor")) (hm : OM X id rm) (ho : SE X W o wo) (ha : SA X W (a :: es) ws)
    (hbase : attributeBase o name X.env (eval o X.env) = eval o X.env := by rfl)
    (hfew : ((backTo cpos (starEach (a :: es) X.env)).all (fun x => !x.1) && (backToKw cpos (keywordEach [] X.env)).all (fun x => x.1.isSome)
      && decide ((a :: es).length + ([] : List Keyword).length + (if ([] : List Keyword).isEmpty then 0 else 1) < 30)) = true := by rfl)
    (hline : (apos.endLine == cpos.line) = true := by rfl) (hs : starEach (a :: es) X.env = (false, eval a X.env) :: starEach es X.env := by rfl) (hplain : (backTo cpos (starEach es X.env)).any (·.1) = false := by rfl) :
    SE X W (.Call (.Attribute o name apos) (a :: es) [] cpos) (wBM T rm wo ws) := ⟨pe_imp (pe_bm pa slot hty hm ho.pe ha.pa hbase hfew hline hs hplain) fun σ H Q h => by
  obtain ⟨M, Γ, S, Q', E', r, e, h, oq, ox⟩ := h
  refine ⟨M, Γ, S, _, E', r, e, h, ?_, ox⟩
  rintro M1 S1 H1 t1 r1 d v hd ⟨ht, hq⟩
  refine ⟨tyM_den r1 hd ht, M1, Γ, S1, _, E', r1, envD_tr r t1 e, hq, ?_, ox.at t1⟩
  intro M2 S2 H2 t2 r2 ds vs hds hq2
  exact ⟨M2, S2, d, ds, Q', r2, den_tr r1 t2 _ _ hd, hds, hq2, oq.at (t1.trans t2)⟩⟩
theorem se_bm0 {T id : String} {name : Str} {rm : RM} {o : Expr} {wo : WE} {apos cpos : Pos} (pa : PlainAttrs T) (slot : Slot T name id) (hty : typeOf (.builtin id) = pure (.type "method_descriptor")) (hm : OM X id rm) (ho : SE X W o wo)
    (hbase : attributeBase o name X.env (eval o X.env) = eval o X.env := by rfl) (hline : (apos.endLine == cpos.line) = true := by rfl) :
    SE X W (.Call (.Attribute o name apos) [] [] cpos) (wBM T rm wo wNil) := ⟨pe_imp (pe_bm0 pa slot hty hm ho.pe hbase hline) fun σ H Q h => by
  obtain ⟨M, Γ, S, Q', E', r, e, h, oq, ox⟩ := h
  refine ⟨M, Γ, S, _, E', r, e, h, ?_, ox⟩
  rintro M1 S1 H1 t1 r1 d v hd ⟨ht, hq⟩
  exact ⟨tyM_den r1 hd ht, M1, S1, d, [], Q', r1, hd, denL_nil, hq, oq.at t1⟩⟩
theorem om_of {id : String} {r : V → List V → Hp → VK → Prop} {rm : RM} (h : MtR X id r) (i : ∀ M S H d ds x vs Q' Q, StD X.K M H S → Den X.K M H d x → DenL X.K M H ds vs → rm d ds S Q' → OkQ X.K M S H Q' Q → r x vs H Q) : OM X id rm := by
  intro pins s σ H x xs v us Q I rx rxs q
  obtain ⟨M, S, d, ds, Q', r, h1, h2, hq, oq⟩ := q
  exact h pins s σ H x xs v us Q I rx rxs (i M S H d ds x xs Q' Q r h1 h2 hq oq)
def rAppD : RM := fun d ds S Q => ∃ p xs y, d = .ref p ∧ ds = [y] ∧ S p = some (.lst xs) ∧ xs.length < sizeLine ∧ Q .non (S.put p (.lst (xs ++ [y])))
theorem om_append : OM X "list.append" rAppD := om_of mt_append fun M S H d ds x vs Q' Q r h1 h2 hq oq => by
  obtain ⟨p, xs, y, rfl, rfl, hs, hl, hq⟩ := hq
  simp only [Den] at h1
  obtain ⟨v, rfl, hv⟩ := denL_one h2
  obtain ⟨us, g1, g2⟩ := r.ob p _ hs
  have t2 : Tr X.K M S H M (S.put p (.lst (xs ++ [y]))) (upd H p (.lst (us ++ [v]))) := set_tr r hs
  exact ⟨p, us, v, h1, rfl, g1, by rw [denL_len g2]; exact hl, oq _ _ _ t2 (set_st r hs ⟨_, upd_same, denL_tr r t2 _ _ (denL_app g2 (denL_cons hv denL_nil))⟩) _ _ (by simp only [Den]) hq⟩
def rExtD : RM := fun d ds S Q => ∃ p xs ys, d = .ref p ∧ ds = [.lst ys] ∧ S p = some (.lst xs) ∧ xs.length + ys.length ≤ sizeLine ∧ Q .non (S.put p (.lst (xs ++ ys)))
theorem om_extend : OM X "list.extend" rExtD := om_of mt_extend fun M S H d ds x vs Q' Q r h1 h2 hq oq => by
  obtain ⟨p, xs, y, rfl, rfl, hs, hl, hq⟩ := hq
  simp only [Den] at h1
  obtain ⟨v, rfl, hv⟩ := denL_one h2
  obtain ⟨b, ws, rfl, _, e1, m, e2⟩ := lst_den hv
  obtain ⟨us, g1, g2⟩ := r.ob p _ hs
  have t2 : Tr X.K M S H M (S.put p (.lst (xs ++ y))) (upd H p (.lst (us ++ ws))) := set_tr r hs
  exact ⟨p, b, us, ws, h1, rfl, g1, e1, by rw [denL_len g2, denL_len e2]; exact hl, oq _ _ _ t2 (set_st r hs ⟨_, upd_same, denL_tr r t2 _ _ (denL_app g2 e2)⟩) _ _ (by simp only [Den]) hq⟩
theorem denL_dropLast {K : PySem.W.Frag} {M : Mu} {H : Hp} {ds : List D} {vs : List V} (h : DenL K M H ds vs) : DenL K M H ds.dropLast vs.dropLast := by
  rw [List.dropLast_eq_take, List.dropLast_eq_take, denL_len h]
  exact denL_take _ h
def rPopD : RM := fun d ds S Q => ∃ p xs y, d = .ref p ∧ ds = [] ∧ S p = some (.lst xs) ∧ xs[xs.length - 1]? = some y ∧ Q y (S.put p (.lst xs.dropLast))
theorem om_pop : OM X "list.pop" rPopD := om_of mt_pop fun M S H d ds x vs Q' Q r h1 h2 hq oq => by
  obtain ⟨p, xs, y, rfl, rfl, hs, hl, hq⟩ := hq
  simp only [Den] at h1
  simp only [DenL] at h2
  subst h2
  obtain ⟨us, g1, g2⟩ := r.ob p _ hs
  have t2 : Tr X.K M S H M (S.put p (.lst xs.dropLast)) (upd H p (.lst us.dropLast)) := set_tr r hs
  obtain ⟨v, e1, e2⟩ := denL_get g2 hl
  exact ⟨p, us, v, h1, rfl, g1, by rw [denL_len g2]; exact e1, oq _ _ _ t2 (set_st r hs ⟨_, upd_same, denL_tr r t2 _ _ (denL_dropLast g2)⟩) _ _ (den_tr r t2 _ _ e2) hq⟩
def rPopAtD : RM := fun d ds S Q => ∃ p xs i j y, d = .ref p ∧ ds = [.int i] ∧ S p = some (.lst xs) ∧ -(2 ^ 63) ≤ i ∧ i < 2 ^ 63 ∧ seqIndex? i xs.length = some j ∧ xs[j]? = some y ∧ Q y (S.put p (.lst (xs.eraseIdx j)))
theorem om_popAt : OM X "list.pop" rPopAtD := om_of mt_popAt fun M S H d ds x vs Q' Q r h1 h2 hq oq => by
  obtain ⟨p, xs, i, j, y, rfl, rfl, hs, b1, b2, hj, hl, hq⟩ := hq
  simp only [Den] at h1
  obtain ⟨v, rfl, hv⟩ := denL_one h2
  simp only [Den] at hv
  subst hv
  obtain ⟨us, g1, g2⟩ := r.ob p _ hs
  have t2 : Tr X.K M S H M (S.put p (.lst (xs.eraseIdx j))) (upd H p (.lst (us.eraseIdx j))) := set_tr r hs
  obtain ⟨v, e1, e2⟩ := denL_get g2 hl
  exact ⟨p, us, i, j, v, h1, rfl, g1, b1, b2, by rw [denL_len g2]; exact hj, e1, oq _ _ _ t2 (set_st r hs ⟨_, upd_same, denL_tr r t2 _ _ (denL_erase j g2)⟩) _ _ (den_tr r t2 _ _ e2) hq⟩
end
end PL
end
/-! from PL7.lean -/
section
/-! PL7: short words for printed derivations; defs by name; more operations. -/
namespace PL
open PySem L2
variable [TabCtx]

/-- a module's constant -/
def GlD (K : PySem.W.Frag) (mg : Str → Option Value) (x : Str) (d : D) : Prop := ∃ v u, mg x = some u ∧ RelV v u ∧ ∀ M H, Den K M H d v
/-- a def of the text, by its name, and its promise -/
def Fn1 (P : Program) (w : World) (K : PySem.W.Frag) (mg : Str → Option Value) (base : Heap) (k : Nat) (x : Str) (ps : List Str) (sp : PSp) : Prop :=
  ∃ f fd, mg x = some (.ref f) ∧ PySem.W.keepIn K (.ref f) = true ∧ Binds K fd ps [] ∧ FnOk P w K mg base (L2.CX P w) k f fd ps (liftSp K sp)
/-- where its text stands -/
def Tx1 (K : PySem.W.Frag) (mg : Str → Option Value) (x : Str) (st : Stmt) : Prop := ∃ f fd, mg x = some (.ref f) ∧ FunD K x x (defArgs st) (defBody st) (defScope st) [] [] f fd
section
variable {P : Program} {w : World} {K : PySem.W.Frag} {mg : Str → Option Value} {base : Heap} {k j : Nat} {x : Str} {ps N : List Str} {sp sp' : PSp} {st : Stmt} {wb : WS}
theorem Fn1.up (F : Fn1 P w K mg base j x ps sp) (h : j ≤ k := by decide) : Fn1 P w K mg base k x ps sp := by
  obtain ⟨f, fd, h1, h2, h3, h4⟩ := F
  exact ⟨f, fd, h1, h2, h3, h4.mono h⟩
theorem Fn1.imp (F : Fn1 P w K mg base k x ps sp) (h : ∀ ds S Q E, sp' ds S Q E → sp ds S Q E) : Fn1 P w K mg base k x ps sp' := by
  obtain ⟨f, fd, h1, h2, h3, h4⟩ := F
  exact ⟨f, fd, h1, h2, h3, FnOk.impP h4 h⟩
/-- the body's derivation: at every place where it may run -/
abbrev Dv (P : Program) (w : World) (K : PySem.W.Frag) (mg : Str → Option Value) (base : Heap) (N : List Str) (x : Str) (st : Stmt) (k : Nat) (wb : WS) : Prop :=
  ∀ (f : Addr) (cd : Value) (A : Around) (outer : List PySem.Env) (s : Shared) (H : Hp) (E : XK), Bd (BX P w K mg base N x (defScope st) f cd A outer s H E) (BW E) k → SSs (BX P w K mg base N x (defScope st) f cd A outer s H E) (BW E) (defBody st) wb
theorem fn1 (T : Tx1 K mg x st) (S : FnScope N ps (defScope st)) (hb : ∀ (fd : FuncData) (f : Addr), FunD K x x (defArgs st) (defBody st) (defScope st) [] [] f fd → Binds K fd ps []) (D : Dv P w K mg base N x st k wb)
    (len : ∀ ds S Q E, sp ds S Q E → ds.length = ps.length) (pure : ∀ ds S Q E, sp ds S Q E → wb { nx := fun _ S' => Q .non S', rt := Q } (fun c fs _ S' => E c fs S') (startG N ds) S) : Fn1 P w K mg base (k + 1) x ps sp := by
  obtain ⟨f, fd, hm, F⟩ := T
  exact ⟨f, fd, hm, F.kp, hb fd f F, fn_pl F S len (fun cd A outer s H E b => D f cd A outer s H E b) pure⟩
end
section
variable {X : Cx} {W : WX} {k : Nat} {pos : Pos} {a b c : Expr} {wa wb wc : WE} {es : List Expr} {ws : WA}
theorem xv (i : Nat) {x : Str} {pos : Pos} (hv : Vis X.env.scope x) (hN : X.N[i]? = some x := by rfl) (hd : (x == ("__debug__" : Str)) = false := by decide) (hcd : (x == ("__classdict__" : Str)) = false := by decide) : SE X W (.Name x pos) (wVar i) := se_var hN hv hd hcd
theorem xg {x : Str} {d : D} {pos : Pos} (h : GlD X.K X.mg x d) (hg : Gl X x := by rfl) (hdb : (x == ("__debug__" : Str)) = false := by decide) : SE X W (.Name x pos) (wC d) := by
  obtain ⟨v, u, h1, h2, h3⟩ := h
  exact se_glob hg h1 h2 (fun M _ H _ => h3 M H) hdb
theorem xf {x : Str} {p : Pos} {ps : List Str} {sp : PSp} (F : Fn1 X.prog X.w X.K X.mg X.base k x ps sp) (hr : Room k X.A) (tk : Takes X W) (ha : SA X W (a :: es) ws) (hg : Gl X x := by rfl) (hdb : (x == ("__debug__" : Str)) = false := by decide)
    (he : starEach (a :: es) X.env = (false, eval a X.env) :: starEach es X.env := by rfl) (hpl : (backTo pos (starEach es X.env)).any (·.1) = false := by rfl) : SE X W (.Call (.Name x p) (a :: es) [] pos) (wCall sp ws) := by
  obtain ⟨f, fd, h1, h2, h3, h4⟩ := F
  exact se_call h4 hr hg h1 h2 h3 tk ha hdb he hpl
/-- a call within a comprehension, where nothing may be raised -/
theorem sa_one (ha : SE X W a wa) (he : starEach [a] X.env = (false, eval a X.env) :: starEach [] X.env := by rfl) : SA X W [a] (wCons wa wNil) := sa_cons ha sa_nil he
abbrev wTrue : WE := wC (.bl true)
end
end PL
end
/-! from PL8.lean -/
section
/-! PL8: products, in, reversed tuples, list(range(..)), {}, comprehensions that may be written. -/
namespace PL
open PySem PySem.Spec PyProof.Rows L2
variable [TabCtx]

section
variable {X : Cx} {W : WX} {k : Nat} {pos : Pos} {a b c : Expr} {wa wb wc : WE} {es : List Expr} {ws : WA}
/-! ### * -/
theorem denL_rep {K : PySem.W.Frag} {M : Mu} {H : Hp} {ds : List D} {vs : List V} (h : DenL K M H ds vs) : ∀ n : Nat, DenL K M H (List.replicate n ds).flatten (List.replicate n vs).flatten
  | 0 => denL_nil
  | n + 1 => by
    rw [List.replicate_succ, List.replicate_succ, List.flatten_cons, List.flatten_cons]
    exact denL_app h (denL_rep h n)
def dMul : RD := fun x y S Q => match x, y with
  | .int i, .int j => IntMulOk i j ∧ Q (.int (i * j)) S
  | .lst ds, .int j => -(2 ^ 63) ≤ j ∧ j < 2 ^ 63 ∧ ds.length * j.toNat ≤ sizeLine ∧ Q (.lst (List.replicate j.toNat ds).flatten) S
  | _, _ => False
theorem od_repL : OD X (binaryOp .Mult) (fun x y S Q => ∃ ds j, x = .lst ds ∧ y = .int j ∧ -(2 ^ 63) ≤ j ∧ j < 2 ^ 63 ∧ ds.length * j.toNat ≤ sizeLine ∧ Q (.lst (List.replicate j.toNat ds).flatten) S) := od_of op_rep fun M S H d e x y Q' Q r h1 h2 hq oq => by
  obtain ⟨ds, j, rfl, rfl, h3, h4, h5, hq⟩ := hq
  simp only [Den] at h1 h2
  obtain ⟨p, vs, rfl, e1, m1, e2⟩ := h1
  refine ⟨p, j, vs, rfl, h2, e1, h3, h4, by rw [denL_len e2]; exact h5, fun n hn => ?_⟩
  refine oq M S _ (new_tr hn) (new_st r hn) _ _ ?_ hq
  simp only [Den]
  exact ⟨n, _, rfl, upd_same, new_mu r hn, denL_tr r (new_tr hn) _ _ (denL_rep e2 _)⟩
theorem od_mul : OD X (binaryOp .Mult) dMul := od_or od_mulI od_repL fun d e S Q h => by
  unfold dMul at h
  split at h
  · exact .inl ⟨_, _, rfl, rfl, h⟩
  · exact .inr ⟨_, _, rfl, rfl, h⟩
  · exact h.elim

/-! ### in -/
def dIn : RD := fun x y S Q => match y with
  | .str z => ∃ c : Nat, x = .str ⟨#[c]⟩ ∧ Q (.bl (decide (c ∈ z.cps.toList))) S
  | y => dInQ false x y S Q
theorem od_in : OD X (compareOp .In) dIn := od_or od_inS od_inQ fun d e S Q h => by
  unfold dIn at h
  split at h
  · obtain ⟨c, e1, hq⟩ := h
    exact .inl ⟨c, _, e1, rfl, hq⟩
  · exact .inr h
abbrev dNin : RD := dInQ true
theorem od_nin : OD X (compareOp .NotIn) dNin := od_ninQ

/-! ### t[::-1] -/
theorem rev_adjust (n : Nat) : Builtin.Slice.sliceAdjust none none (-1) (n : Int) = ((n : Int) - 1, -1) := by
  unfold Builtin.Slice.sliceAdjust
  have h1 : ((-1 : Int) < 0) := by omega
  simp only [h1, if_true]
theorem rev_places (n : Nat) : Builtin.Slice.slicePlaces ((n : Int) - 1) (-1) (-1) = n := by
  unfold Builtin.Slice.slicePlaces
  have h1 : ¬ ((-1 : Int) > 0) := by omega
  rw [if_neg h1, show (- -1 : Int) = 1 by decide, Int.ediv_one]
  split <;> omega
theorem rev_pick (xs : Array Value) : ((List.range xs.size).filterMap fun (m : Nat) => xs[((xs.size : Int) - 1 + (m : Int) * (-1)).toNat]?).toArray = xs.toList.reverse.toArray := by
  congr 1
  have e : (List.range xs.size).filterMap (fun (m : Nat) => xs[((xs.size : Int) - 1 + (m : Int) * (-1)).toNat]?) = ((List.range xs.size).map fun m => xs.size - 1 - m).filterMap fun j => xs[j]? := by
    rw [List.filterMap_map]
    have gen : ∀ (l : List Nat), (∀ m ∈ l, m < xs.size) → l.filterMap (fun (m : Nat) => xs[((xs.size : Int) - 1 + (m : Int) * (-1)).toNat]?) = l.filterMap ((fun j => xs[j]?) ∘ fun m => xs.size - 1 - m) := by
      intro l
      induction l with
      | nil => intro _; rfl
      | cons m l ih =>
        intro hm
        have h1 := hm m (List.mem_cons_self ..)
        have h2 : ((xs.size : Int) - 1 + (m : Int) * (-1)).toNat = xs.size - 1 - m := by omega
        rw [List.filterMap_cons, List.filterMap_cons, ih fun z hz => hm z (List.mem_cons_of_mem _ hz), h2]
        rfl
    exact gen _ fun m hm => List.mem_range.mp hm
  rw [e, PySem.W.krv_range, List.filterMap_reverse, PySem.W.krv_all]
section
variable {prog : Program} {w : World} {A : Around} {E : Value → Shared → Prop} {s : Shared}
theorem rev_applied {sl : Addr} {vk : Value} {n : Nat} {Q : Int × Int × Nat → Shared → Prop} (hs : s.heap.IsSliceOf sl .none .none vk) (pk : IsPart vk (some (-1)))
    (h : Q ((n : Int) - 1, -1, n) s) : wpAny (model prog w) A (Builtin.Slice.sliceApplied (.ref sl) (pure (n : Int))) Q E s := by
  obtain ⟨os, hos, hcs, hds⟩ := id hs
  unfold Builtin.Slice.sliceApplied Builtin.Slice.sliceFields
  refine wpAny_bind (wpAny_bind (wpAny_field (x := Value.none) hos hds rfl (wpAny_bind (wpAny_field (x := Value.none) hos hds rfl (wpAny_bind (wpAny_field (x := vk) hos hds rfl (wpAny_pure ?_)))))))
  refine wpAny_bind (HT.slicePart_ pk ?_)
  show wpAny _ _ (if ((-1 : Int) == 0) = true then _ else _) _ _ s
  rw [if_neg (by decide)]
  refine wpAny_bind (slicePart_none (wpAny_bind (slicePart_none (wpAny_bind (wpAny_pure ?_)))))
  show wpAny _ _ (match Builtin.Slice.sliceAdjust none none (-1) (n : Int) with | (lo, hi) => pure (lo, (-1 : Int), Builtin.Slice.slicePlaces lo hi (-1))) _ _ s
  rw [rev_adjust n]
  show wpAny _ _ (pure ((n : Int) - 1, (-1 : Int), Builtin.Slice.slicePlaces ((n : Int) - 1) (-1) (-1))) _ _ s
  rw [rev_places]
  exact wpAny_pure h
theorem rev_getItem {t sl : Addr} {items : Array Value} {vk : Value} {Q : Value → Shared → Prop} (ht : IsTup s.heap t items) (hs : s.heap.IsSliceOf sl .none .none vk) (pk : IsPart vk (some (-1)))
    (h : Q (.ref s.heap.objs.size) { s with heap := s.heap.push { cls := .type "tuple", data := .seq items.toList.reverse.toArray } }) (hsz : items.size ≤ sizeLine) : wpAny (model prog w) A (getItem (.ref t) (.ref sl)) Q E s := by
  have hfit : sizeOk (.seq items.toList.reverse.toArray) := by
    show items.toList.reverse.toArray.size ≤ sizeLine
    rw [List.size_toArray, List.length_reverse, Array.length_toList]
    exact hsz
  obtain ⟨os, hos, hcs, hds⟩ := id hs
  have hT : s.TypeIs (.ref sl) "slice" := ⟨os, hos, hcs⟩
  have hL := slot_tuple_getitem
  unfold getItem
  try with_reducible refine wpAny_holding ?_
  first | refine wpAny_bind (wpAny_pure ?_) | skip
  refine wpAny_bind (wpAny_sequenceKey ht.typeIs (by decide) ?_)
  refine wpAny_bind (wpAny_callSpecial?_slot (name := Str.ofString "__getitem__") ht.typeIs hL (wpAny_call_entry hL ht.typeIs entry_tuple_getitem ?_ (args_tuple_getitem _ _)))
  show wpAny _ _ (Builtin.Tuple.tupleItemsOf (.ref t) >>= _) _ _ s
  refine wpAny_bind (tupleItemsOf_ ht (wpAny_bind (wpAny_typeOf hT ?_)))
  rw [if_pos (by decide)]
  refine wpAny_bind (rev_applied hs pk ?_)
  have hno : ¬ (((((items.size : Nat) : Int) - 1 == 0) && ((-1 : Int) == 1) && (items.size == items.size)) = true) := by
    rw [show ((-1 : Int) == 1) = false by decide, Bool.and_false, Bool.false_and]
    exact Bool.false_ne_true
  show wpAny _ _ (if ((((items.size : Nat) : Int) - 1 == 0) && ((-1 : Int) == 1) && (items.size == items.size)) = true then _ else _) _ _ s
  rw [if_neg hno, rev_pick]
  have fin : Q (.ref s.heap.objs.size) { s with heap := s.heap.push { cls := .type "tuple", data := .seq items.toList.reverse.toArray } } := h
  first
    | exact wpAny_bind (m := Builtin.Tuple.tupleExact _) (wpAny_newObj_type (wpAny_pure ⟨_, rfl, wpAny_pure fin⟩) hfit)
    | exact wpAny_bind (m := Builtin.Tuple.tupleExact _) (wpAny_newObj_type (wpAny_bind (wpAny_pure (wpAny_pure ⟨_, rfl, wpAny_pure fin⟩))) hfit)
    | exact wpAny_bind (wpAny_bind (m := Builtin.Tuple.tupleExact _) (wpAny_newObj_type (wpAny_pure (wpAny_pure ⟨_, rfl, wpAny_pure fin⟩)) hfit))
    | exact wpAny_bind (wpAny_bind (m := Builtin.Tuple.tupleExact _) (wpAny_newObj_type (wpAny_pure ⟨_, rfl, wpAny_pure fin⟩) hfit))
end
def tRevT (K : PySem.W.Frag) (te : TE) : TE := fun σ H Q => te σ H fun x H1 => ∃ a xs, x = .ref a ∧ SqT K H1 a xs ∧ ∀ p, H1 p = none → Q (.ref p) (upd H1 p (.tup xs.reverse))
theorem pe_revT {e : Expr} {te : TE} {k : Nat} {p1 p2 p3 pos : Pos} (he : PE X e te) : PE X (.Subscript e (.Slice none none (some (.UnaryOp .USub (.Constant (.int 1) k p1) p2)) p3) pos) (tRevT X.K te) := by
  refine ⟨fun pins s σ H Q I h => Subscript_ (thn (he.run pins s σ H _ I h) fun v s1 ⟨x, H1, I1, r1, q1⟩ => ?_)⟩
  obtain ⟨a, xs, ex, hx, q⟩ := q1
  subst ex
  obtain rfl : v = .ref a := r1
  have step : PO X (some (.UnaryOp .USub (.Constant (.int 1) k p1) p2)) (tPart (tUn (rU fun i => .int (-i)) (tC (.int 1)))) := po_some (pe_un un_neg pe_int)
  have no := fun (s0 : Shared) (G : Hp) (J : Inv X pins σ G s0) => po_none.run (X := X) pins s0 σ G (fun o G' => o = none ∧ G' = G) J ⟨rfl, rfl⟩
  refine wpAny_Slice (thn (no s1 H1 I1) fun vl s2 ⟨l, H2, I2, pl, el, e2⟩ => ?_)
  subst el e2
  refine thn (no s2 _ I2) fun vu s3 ⟨u, H3, I3, pu, eu, e3⟩ => ?_
  subst eu e3
  refine thn (step.run pins s3 σ _ (fun o G => o = some (-1) ∧ G = _) I3 ⟨1, rfl, -1, rfl, rfl, rfl⟩) fun vs s4 ⟨o, H4, I4, ps, eo, e4⟩ => ?_
  subst eo e4
  cases pl
  cases pu
  have I5 : Inv X pins σ _ { s4 with heap := s4.heap.push { cls := .type "slice", data := .fields #[.none, .none, vs] } } := I4.kept (t' := s4.toks) fun b ob q => Heap.get?_push_of_some _ q
  obtain ⟨its, r, ht, hz⟩ := I5.tuple hx
  have hl : its.toArray.size = xs.length := by rw [List.size_toArray]; exact r.length.symm
  show wpAny (model X.prog X.w) X.A (subscriptTail e (.Slice none none (some (.UnaryOp .USub (.Constant (.int 1) k p1) p2)) p3) (.ref a) (.ref s4.heap.objs.size)) (EP X pins σ Q) X.xe { s4 with heap := s4.heap.push { cls := .type "slice", data := .fields #[.none, .none, vs] } }
  refine tail_any (ops := [.ref a, .ref s4.heap.objs.size]) ht.typeIs (slot_tuple_getitem.lookup) ?_ (by with_unfolding_all rfl)
  refine rev_getItem ht (Heap.IsSliceOf.new _ .none .none vs) ps ?_ (by rw [hl]; exact hz)
  refine ⟨.ref _, _, I5.laid (t' := s4.toks) (o := .tup xs.reverse) (fun b ob q => Heap.get?_push_of_some _ q) (Nat.le_refl _) ?_, rfl, q _ (I5.hok.fresh (Nat.le_refl _))⟩
  exact ⟨by rw [List.length_reverse]; exact hz, _, r.reverse, IsTup.new _ _⟩
def dRev : D → Sto → QK → Prop := fun d S Q => ∃ ds, d = .tup ds ∧ Q (.tup ds.reverse) S
theorem se_rev {k : Nat} {p1 p2 p3 : Pos} (ha : SE X W a wa) : SE X W (.Subscript a (.Slice none none (some (.UnaryOp .USub (.Constant (.int 1) k p1) p2)) p3) pos) (wUn dRev wa) := ⟨pe_imp (pe_revT ha.pe) fun σ H Q h => by
  obtain ⟨M, Γ, S, Q', E', r, e, h, oq, ox⟩ := h
  refine ⟨M, Γ, S, _, E', r, e, h, ?_, ox⟩
  rintro M1 S1 H1 t1 r1 d v hd ⟨ds, rfl, hq⟩
  simp only [Den] at hd
  obtain ⟨p, vs, rfl, e1, e2⟩ := hd
  refine ⟨p, vs, rfl, e1.sq, fun n hn => ?_⟩
  refine oq M1 S1 _ (t1.trans (new_tr hn)) (new_st r1 hn) _ _ ?_ hq
  simp only [Den]
  exact ⟨n, vs.reverse, rfl, .inl ⟨upd_same, new_mu r1 hn⟩, denL_tr r1 (new_tr hn) _ _ (denL_rev e2)⟩⟩

/-! ### list(range(n)) -/
def wLstR1 (wa : WE) : WE := fun Γ S Q E => wa Γ S (fun d S1 => ∃ n : Int, d = .int n ∧ 0 ≤ n ∧ n ≤ 16777216 ∧ Q (.lst (ups 0 n.toNat)) S1) E
theorem ups_den {K : PySem.W.Frag} {M : Mu} {H : Hp} {lo : Int} {n : Nat} : DenL K M H (ups lo n) ((List.range n).map fun i => V.int (lo + (i : Nat))) := by
  have e1 : ups lo n = ((List.range n).map fun i : Nat => lo + (i : Int)).map D.int := by unfold ups; rw [List.map_map]; rfl
  have e2 : ((List.range n).map fun i : Nat => V.int (lo + (i : Int))) = ((List.range n).map fun i : Nat => lo + (i : Int)).map V.int := by rw [List.map_map]; rfl
  rw [e1, e2]
  exact denL_ints
theorem se_lstR1 {p q q2 : Pos} (hc : X.calm = true) (hg : Gl X "list") (hm : X.mg "list" = none) (hg2 : Gl X "range") (hm2 : X.mg "range" = none) (ha : SE X W a wa) (na : starEach [a] X.env = (false, eval a X.env) :: starEach [] X.env := by rfl) : SE X W (.Call (.Name "list" p) [.Call (.Name "range" q) [a] [] q2] [] pos) (wLstR1 wa) :=
  ⟨pe_imp (pe_listRg hc hg hm (prg_1 hg2 hm2 ha.pe na) (by rfl)) fun σ H Q h => by
    obtain ⟨M, Γ, S, Q', E', r, e, h, oq, ox⟩ := h
    refine ⟨M, Γ, S, _, E', r, e, h, ?_, ox⟩
    rintro M1 S1 H1 t1 r1 d v hd ⟨n, rfl, h0, h1, hq⟩
    simp only [Den] at hd
    refine ⟨n, hd, RgOk.of_le (Int.le_refl 0) h1 (by decide) h0, fun p hp => ?_⟩
    refine oq M1 S1 _ (t1.trans (new_tr hp)) (new_st r1 hp) _ _ ?_ hq
    simp only [Den]
    refine ⟨p, rgV 0 n, rfl, upd_same, new_mu r1 hp, ?_⟩
    unfold rgV
    rw [Int.sub_zero]
    exact ups_den⟩

/-! ### {} -/
theorem se_dct0 : SE X W (.Dict [] [] pos) (wC (.dct [])) := ⟨pe_imp pe_dnewK fun σ H Q h => by
  obtain ⟨M, Γ, S, Q', E', r, e, hq, oq, ox⟩ := h
  intro p hp
  refine oq M S _ (new_tr hp) (new_st r hp) _ _ ?_ hq
  simp only [Den]
  exact ⟨p, [], rfl, upd_same, new_mu r hp, by simp only [DenK]⟩⟩
abbrev wDct0 : WE := wC (.dct [])
end
end PL
end
/-! from PL9.lean -/
section
/-! PL9: len(set(t)) of a tuple of texts. -/
namespace PL
open PySem PySem.Spec PyProof.Rows L2
variable [TabCtx]

/-- how many different ones -/
def nDiff : List Str → Nat
  | [] => 0
  | x :: xs => if x ∈ xs then nDiff xs else nDiff xs + 1
/-- the same, counted from the front -/
def nUp (xs : List Str) : Nat → Nat
  | 0 => 0
  | i + 1 => if (xs.take i).contains (xs.getD i Str.empty) then nUp xs i else nUp xs i + 1
theorem nUp_le (xs : List Str) : ∀ i, nUp xs i ≤ i
  | 0 => Nat.le_refl _
  | i + 1 => by
    have := nUp_le xs i
    unfold nUp
    split <;> omega
section
variable {P : Program} {w : World} {A : Around}
/-- the walk of set.update over texts: ks are laid in one by one -/
theorem texts_laid {R : Result → Shared → Prop} {J : Addr} {fp wr : List Addr} {G : Array GenState → Array GenState → Prop} {m : Nat} {Pv : Nat → Value → Prop} {St : Nat → Shared → Prop} (wk : WalksS P w A.in1 J fp wr G m Pv St)
    (Z : Addr) (zf : Z ∉ fp) (ks : List Str) (few : m + 1 < scanBound) (is_ : ∀ j v, Pv j v → ∃ tk, v = .str (ks.getD j Str.empty) tk) (lm : ks.length = m) :
    ∀ (d j : Nat) (z : Shared), j + d = m → St j z → z.heap.SetOf (PySem.strKind P w) Z (fun y => (ks.take j).contains y) (nUp ks j) →
      (∀ z', Moved (Z :: wr) G z z' → z'.heap.SetOf (PySem.strKind P w) Z (fun y => ks.contains y) (nUp ks m) → R (.ok (.ret .none)) z') →
      codeAny (model P w) A (.builtin "set.update.loop" ⟨[.ref Z, .ref J], []⟩) R z := by
  have zw : Z ∉ wr := fun q => zf (wk.sub _ q)
  have up : ∀ b ∈ wr, b ∈ Z :: wr := fun b q => List.mem_cons_of_mem _ q
  intro d
  induction d with
  | zero =>
    intro j z e st so out
    obtain rfl : j = m := by omega
    refine codeAny_builtin F.entry_set_update_loop ?_
    rw [Around.under_plainId F.plain_set_update_loop _]
    show wpAny _ A.in1 (pyNext (.ref J) >>= _) _ _ z
    refine wpAny_bind (wk.done z _ _ st fun z' mv => ?_)
    show wpAny _ A.in1 (ret Value.none) _ _ z'
    have full : ks.take j = ks := List.take_of_length_le (by omega)
    rw [full] at so
    obtain ⟨o, es, ep, tb, ho, more⟩ := so
    exact wpAny_pure (out z' (mv.mono up) ⟨o, es, ep, tb, mv.heap Z _ zw ho, more⟩)
  | succ d ih =>
    intro j z e st so out
    have jm : j < m := by omega
    refine codeAny_builtin F.entry_set_update_loop ?_
    rw [Around.under_plainId F.plain_set_update_loop _]
    show wpAny _ A.in1 (pyNext (.ref J) >>= _) _ _ z
    refine wpAny_bind (wk.item j z _ _ jm st fun v z' pv st' mv => ?_)
    obtain ⟨tk, rfl⟩ := is_ j v pv
    have so' : z'.heap.SetOf (PySem.strKind P w) Z (fun y => (ks.take j).contains y) (nUp ks j) := by
      obtain ⟨o, es, ep, tb, ho, more⟩ := so
      exact ⟨o, es, ep, tb, mv.heap Z _ zw ho, more⟩
    generalize hx : ks.getD j Str.empty = x at *
    show wpAny _ A.in1 (holding [Value.str x tk] (setAdd Z (.str x tk)) >>= _) _ _ z'
    refine wpAny_bind (wpAny_holding ?_)
    unfold setAdd
    refine wpAny_holding (wpAny_bind ((PySem.strKind P w).pyHash (k := x) (strKind_is _ _ _ _) ?_))
    have room : nUp ks j + 1 < scanBound := by have := nUp_le ks j; omega
    refine wpAny_setAddHashed_of (s := { z' with toks := z'.toks + 1 }) (knd := PySem.strKind P w) (strKind_is _ _ _ _) rfl so' room fun g sb so2 => ?_
    have get : ks[j]? = some x := by
      rw [← hx, List.getD_eq_getElem?_getD, List.getElem?_eq_getElem (by omega)] <;> rfl
    have so3 : g.SetOf (PySem.strKind P w) Z (fun y => (ks.take (j + 1)).contains y) (nUp ks (j + 1)) := by
      refine SetOf_congr so2 (fun y => ?_) ?_
      · show ((ks.take j).contains y || decide (y = x)) = (ks.take (j + 1)).contains y
        rw [List.take_add_one, get, Option.toList_some]
        by_cases q : y = x
        · subst q; simp
        · simp [q]
      · show (if (ks.take j).contains x = true then nUp ks j else nUp ks j + 1) = nUp ks (j + 1)
        rw [← hx]
        rfl
    refine wpAny_pure ⟨plainId_quiet F.plain_set_update_loop _, ih (j + 1) _ (by omega) (wk.frame _ z' _ _ st' (Nat.le_succ _) fun b q o f => ?_) so3 fun z2 mv2 so4 => out z2 (Moved.trans wk.gtrans ((mv.mono up).then_heap (Nat.le_succ _) fun b o q f => ?_) mv2) so4⟩
    · rw [sb.2 b fun r => zf (r ▸ q)]
      exact f
    · rw [sb.2 b fun r => q (r ▸ List.mem_cons_self)]
      exact f

/-- set(t) -/
theorem set_texts {E : Value → Shared → Prop} {z : Shared} {l : Addr} {items : Array Value} {ks : List Str} {Q : Value → Shared → Prop} (calm : A.handled = none) (ht : z.heap.IsTuple l items) (its : StrsAre items.toList ks) (few : ks.length + 1 < scanBound)
    (fin : ∀ (g : Heap) (n : Nat), g.SetOf (PySem.strKind P w) z.heap.objs.size (fun y => ks.contains y) (nUp ks ks.length) → (∀ b o, b < z.heap.objs.size → z.heap.get? b = some o → g.get? b = some o) → Q (.ref z.heap.objs.size) { z with heap := g, toks := n }) :
    wpAny (model P w) A (call (.type "set") [.ref l]) Q E z := by
  have sz : items.size = ks.length := by rw [← StrsAre.len_eq its, Array.length_toList]
  obtain ⟨c, tl, hmro⟩ := PySem.F.called_set.mro
  have hmade := PySem.F.called_set.made
  have hsub := PySem.F.called_set.sub
  refine wpAny_call (codeAny_of_tree ?_)
  show wpAny _ _ (callAny (.type "set") _) _ _ _
  refine wpAny_pure ⟨Code.quiet_builtin _ (by decide +kernel), ?_⟩
  refine codeAny_builtin PySem.F.entry_type_call ?_
  rw [Around.under_plain (weight_type_call_type "set" [.ref l] []) rfl]
  have nt := PySem.F.called_set.notType
  have cc := PySem.F.called_set.canCreate
  have tc := PySem.F.typeCall_set_1 (.ref l)
  repeat (any_goals (first | assumption | wp_step))
  let new (b : Bool) : Obj := { cls := .type "set", dict := none, data := .set #[] 0 (.fresh 0 0 b) }
  refine codeAny_mono (code_set_new_1 (.ref l) (E := E) (Q₁ := fun x y => ∃ b : Bool, x = .ref z.heap.objs.size ∧ y = { z with heap := z.heap.push (new b) }) fun b => ⟨b, rfl, rfl⟩) fun r s1 hr => ?_
  cases r with
  | error e => exact hr
  | ok fl =>
    cases fl with
    | ret x =>
      obtain ⟨b, rfl, rfl⟩ := hr
      have at_ : (z.heap.push (new b)).get? z.heap.objs.size = some (new b) := Heap.get?_push_size _ rfl
      have ty : Shared.TypeIs { z with heap := z.heap.push (new b) } (.ref z.heap.objs.size) "set" := ⟨_, at_, rfl⟩
      have il := PySem.F.called_set.init.lookup
      have ib := PySem.F.called_set.init.bind (.ref z.heap.objs.size)
      repeat (any_goals (first | assumption | wp_step))
      refine codeAny_mono (codeAny_call_builtin (R := wants (fun r y => r = .none ∧ ∃ g n, y = { z with heap := g, toks := n } ∧ g.SetOf (PySem.strKind P w) z.heap.objs.size (fun y => ks.contains y) (nUp ks ks.length) ∧
          (∀ b o, b < z.heap.objs.size → z.heap.get? b = some o → g.get? b = some o)) E) PySem.F.called_set.init.plain PySem.F.entry_set_init (check_set_init_1 ty ?_)) fun r2 s2 hr2 => ?_
      · obtain ⟨⟨ocls, odict, odata, oslots⟩, hol, hcl, nl, hdl⟩ := ht
        simp only at hcl hdl
        subst hcl
        subst hdl
        have lat : (z.heap.push (new b)).get? l = some { cls := .type "tuple", dict := odict, data := .seq items nl, slots := oslots } := Heap.get?_push_of_some _ hol
        have s1 := PySem.F.sub_tuple_set
        have s2 := PySem.F.sub_tuple_frozenset
        have nd : (Value.type "tuple" == Value.type "dict") = false := by decide
        have lt1 : (z.heap.push (new b)).IsTuple l items := ⟨_, lat, rfl, nl, rfl⟩
        unfold Builtin.«set.__init__» noKeywords Builtin.Frozenset.updateFrom
        generalize hI : pyIter = PI
        wp_walk
        subst hI
        refine wpAny_pyIter_tuple lt1 (wpAny_bind (wpAny_runValue ?_))
        have ll : l < z.heap.objs.size := Heap.lt_size hol
        have calm3 : A.in1.in1.in1.handled = none := by simp [calm]
        have szp : (z.heap.push (new b)).objs.size = z.heap.objs.size + 1 := Heap.size_push ..
        have l1 : l ≠ (z.heap.push (new b)).objs.size := fun q => absurd (q ▸ ll) (by rw [szp]; exact Nat.not_lt.mpr (Nat.le_succ _))
        have zf : z.heap.objs.size ∉ [(z.heap.push (new b)).objs.size, l] := by
          simp only [List.mem_cons, List.not_mem_nil, or_false, not_or]
          exact ⟨szp ▸ Nat.ne_of_lt (Nat.lt_succ_self _), (Nat.ne_of_lt ll).symm⟩
        have val : ∀ (j : Nat) (v : Value), items[j]? = some v → ∃ tk, v = .str (ks.getD j Str.empty) tk := fun j v hv => SS.strs_at its j v (by rw [Array.getElem?_toList]; exact hv)
        refine texts_laid ((Walks.tuple calm3 _ l l1 items).toS) z.heap.objs.size zf ks (by omega) val sz.symm items.size 0 _ (by omega) ⟨⟨_, Heap.get?_push_size _ rfl, rfl, rfl⟩, (lt1.push _)⟩ ?_ ?_
        · have got : ((z.heap.push (new b)).push { cls := .type "tuple_iterator", data := .fields #[.ref l, .int 0 0] }).get? z.heap.objs.size = some (new b) := Heap.get?_push_of_some _ at_
          exact SetOf_congr ((setObjOf_fresh (knd := PySem.strKind P w) b).setOf got (by unfold scanBound; omega)) (fun _ => rfl) rfl
        · intro y mv so
          obtain ⟨g, gs, dr, tk, os⟩ := y
          obtain rfl : gs = z.gens := mv.gens
          obtain rfl : dr = z.drawn := mv.drawn
          obtain rfl : os = z.os := mv.os
          show wpAny _ _ _ _ _ _
          refine wpAny_pure ?_
          show wpAny _ _ (ret Value.none) _ _ _
          rw [sz] at so
          refine wpAny_pure ⟨rfl, g, tk, rfl, so, fun b2 o hb e => ?_⟩
          refine mv.heap b2 o ?_ (Heap.get?_push_of_some _ (Heap.get?_push_of_some _ e))
          simp only [List.mem_cons, List.not_mem_nil, or_false, not_or]
          exact ⟨Nat.ne_of_lt hb, szp ▸ Nat.ne_of_lt (Nat.lt_succ_of_lt hb)⟩
      · cases r2 with
        | error e => exact hr2
        | ok f2 =>
          cases f2 with
          | ret r =>
            obtain ⟨rfl, g, n, rfl, so, kp⟩ := hr2
            repeat (any_goals (first | assumption | wp_step))
            exact fin _ _ so kp
          | _ => exact hr2.elim
    | _ => exact hr.elim
end
section
variable {X : Cx} {W : WX} {a : Expr} {wa : WE}
/-- len(set(t)) of a tuple of texts -/
def tLenTx (K : PySem.W.Frag) (ta : TE) : TE := fun σ H Q => ta σ H fun x H1 => ∃ l, ∃ xs : List Str, x = .ref l ∧ SqT K H1 l (xs.map V.str) ∧ xs.length < 60 ∧ Q (.int (nUp xs xs.length : Nat)) H1
theorem pe_lenTx {ta : TE} {p p2 q pos : Pos} (hc : X.calm = true) (hg : Gl X "len") (hm : X.mg "len" = none) (hg2 : Gl X "set") (hm2 : X.mg "set" = none) (ha : PE X a ta) (na : starEach [a] X.env = (false, eval a X.env) :: starEach [] X.env := by rfl) :
    PE X (.Call (.Name "len" p) [.Call (.Name "set" p2) [a] [] q] [] pos) (tLenTx X.K ta) := by
  refine ⟨fun pins s σ H Q I h => Call_ (ld_blt I hg hm boot_len ?_)⟩
  refine callWith_builtin1 (args_cons ?_ rfl) rfl rfl
  refine Call_ (ld_blt I hg2 hm2 boot_set (callWith_type1 (args_cons (thn (ha.run pins s σ H _ I h) fun v s1 ⟨x, H1, I1, r1, q1⟩ => args_nil ?_) na) na rfl))
  obtain ⟨l, xs, rfl, hq, few, q1⟩ := q1
  cases r1
  obtain ⟨its, r, pl, hz⟩ := I1.tuple hq
  refine set_texts (ks := xs) (I1.ok.hd hc) pl (by simpa using strsAre_of r) (by unfold scanBound; omega) fun g n so kp => args_nil ?_
  have := nUp_le xs xs.length
  obtain ⟨o, es, ep, t, ho, hex, hd, _, _, _, hf, hn⟩ := so
  have I2 : Inv X pins σ H1 { s1 with heap := g, toks := n } := I1.kept fun b o e => kp b o (Heap.lt_size e) e
  exact call_len_set ho hex hd hf (by rw [hn] <;> omega) ⟨.int (nUp xs xs.length : Nat), H1, I2.tok _, ⟨_, by rw [hn]⟩, q1⟩
def dLenTx : D → Sto → QK → Prop := fun d S Q => ∃ xs : List Str, d = .tup (xs.map D.str) ∧ xs.length < 60 ∧ Q (.int (nUp xs xs.length : Nat)) S
abbrev wLenSet (wa : WE) : WE := wUn dLenTx wa
theorem se_lenSet {p p2 q pos : Pos} (hc : X.calm = true) (hg : Gl X "len") (hm : X.mg "len" = none) (hg2 : Gl X "set") (hm2 : X.mg "set" = none) (ha : SE X W a wa) (na : starEach [a] X.env = (false, eval a X.env) :: starEach [] X.env := by rfl) :
    SE X W (.Call (.Name "len" p) [.Call (.Name "set" p2) [a] [] q] [] pos) (wLenSet wa) := ⟨pe_imp (pe_lenTx hc hg hm hg2 hm2 ha.pe na) fun σ H Q h => by
  obtain ⟨M, Γ, S, Q', E', r, e, h, oq, ox⟩ := h
  refine ⟨M, Γ, S, _, E', r, e, h, ?_, ox⟩
  rintro M1 S1 H1 t1 r1 d v hd ⟨xs, rfl, hl, hq⟩
  simp only [Den] at hd
  obtain ⟨p, vs, rfl, e1, e2⟩ := hd
  have ev := denL_strs_eq e2
  subst ev
  exact ⟨p, xs, rfl, e1.sq, hl, oq M1 S1 H1 t1 r1 _ _ (by simp only [Den]) hq⟩⟩
end
end PL
end
/-! from PLE.lean -/
section
/-! PLE: the law's own def, run with no repr under way; the walk's end. -/
namespace PL
open PySem PySem.Spec PyProof.Rows L2
variable [TabCtx]

/-- a def's promise where no repr is under way -/
structure FnG (P : Program) (w : World) (K : PySem.W.Frag) (mg : Str → Option Value) (base : Heap) (k : Nat) (f : Addr) (fd : FuncData) (ps : List Str) (sp : Sp) : Prop where
  go : ∀ (A : Around) (outer : List PySem.Env) (s : Shared) (H : Hp) (args : Args) (us : List Value) (vs : List V) (Q : VK) (E : XK), A.guards = some [] → Room k A → Env0 P w K mg base A outer s H → BindsTo s fd args (ps.zip us) → Vals vs us → sp vs H Q E →
    codeAny (model P w) A (.call (.ref f) args) (CR (L2.CX P w) outer P w H s Q E) s
/-- a body's context where no repr is under way -/
structure BdG (X : Cx) (W : WX) (k : Nat) : Prop extends Bd X W k where
  gd : X.A.guards = some []
abbrev DvG (P : Program) (w : World) (K : PySem.W.Frag) (mg : Str → Option Value) (base : Heap) (N : List Str) (x : Str) (st : Stmt) (k : Nat) (wb : WS) : Prop :=
  ∀ (f : Addr) (cd : Value) (A : Around) (outer : List PySem.Env) (s : Shared) (H : Hp) (E : XK), BdG (BX P w K mg base N x (defScope st) f cd A outer s H E) (BW E) k → SSs (BX P w K mg base N x (defScope st) f cd A outer s H E) (BW E) (defBody st) wb
section
variable {P : Program} {w : World} {K : PySem.W.Frag} {mg : Str → Option Value} {base : Heap} {k : Nat} {x : Str} {st : Stmt} {f : Addr} {fd : FuncData} {N ps : List Str} {sp : PSp} {wb : WS}
theorem fn_g (F : FunD K x x (defArgs st) (defBody st) (defScope st) [] [] f fd) (S : FnScope N ps (defScope st)) (D : DvG P w K mg base N x st k wb) (len : ∀ ds S Q E, sp ds S Q E → ds.length = ps.length)
    (pure : ∀ ds S Q E, sp ds S Q E → wb { nx := fun _ S' => Q .non S', rt := Q } (fun c fs _ S' => E c fs S') (startG N ds) S) : FnG P w K mg base (k + 1) f fd ps (liftSp K sp) := by
  refine ⟨fun A outer s H args us vs Q E hg hr e0 hb rv hsp => ?_⟩
  obtain ⟨M0, S0, ds, Q0, E0', st0, hd, hp, oq, ox⟩ := hsp
  have nds := len _ _ _ _ hp
  have nvs := denL_len hd
  have hl : vs.length = ps.length := by omega
  obtain ⟨oc, od, dV, kV, doc, pm, an, cdv, ct, osl, rfl, lk, code, _, _⟩ := F.ex
  have Kin : K.In s.heap := e0.mod.kin.keeps fun b o e => (e0.bs b o e).1
  have free := e0.mod.nolimit.keeps (h' := s.heap) fun b o e => (e0.bs b o e).1
  have kinds : ∀ y ∈ ps.zip us, (defScope st).names.lookup y.1 = some .local ∨ ((defScope st).names.lookup y.1 = some .cell ∧ ((cellsFrom (s.heap.objs.size + 1) (defScope st).names []).lookup y.1).isSome = true) := by
    rintro ⟨y, v⟩ hy
    rcases S.par y (List.of_mem_zip hy).1 with q | q
    · exact Or.inl q
    · exact Or.inr ⟨q, PySem.W.cellsFrom_some _ _ _ (Or.inl q)⟩
  refine codeAny_call_function hr.depth (Kin _ _ lk) rfl S.co S.gen rfl (PySem.W.codeRec_of Kin code) (hb _ _ _ _ (wpAny_newFunctionEnv_cells S.kind kinds fun env he s1 y => ?_))
  subst he
  refine ⟨free.keeps y.toInCall.keep, codeAny_func ?_⟩
  have body := (D f cdv A outer s H E ⟨⟨takes_of rfl rfl rfl rfl, passes_of rfl, hr.deeper _⟩, hg⟩).ps
  have I := inv_start (CX := L2.CX P w) (E := E) S hr.hd e0 hl rv y
  have pre : liftS K (BW E) wb { nx := fun _ H' => Q .non H', rt := Q } (L2.start N vs) H := by
    refine ⟨M0, startG N ds, S0, _, _, st0, envD_start hd, pure ds S0 Q0 E0' hp, ⟨?_, oq, fun _ _ _ _ _ _ _ _ h => h, fun _ _ _ _ _ _ _ _ h => h⟩, ?_⟩
    · intro M1 S1 H1 t1 r1 Γ σ e hq
      exact oq M1 S1 H1 t1 r1 _ _ (by simp only [Den]) hq
    · intro M1 S1 H1 t1 r1 c fs dd Γ σ e hx hq
      exact ox M1 S1 H1 t1 r1 c fs dd hx hq
  refine wpAny_mono (body.run [] s1 (L2.start N vs) H _ I pre) (fun fl s2 h2 => ?_) fun e s2 h2 => h2
  cases fl with
  | next =>
    obtain ⟨σ', H', J, q⟩ := h2
    exact ⟨V.non, H', J.os, J.bare, J.base, J.hok, rfl, q⟩
  | ret u =>
    obtain ⟨v, σ', H', J, r, q⟩ := h2
    exact ⟨v, H', J.os, J.bare, J.base, J.hok, r, q⟩
  | brk =>
    obtain ⟨_, _, _, q⟩ := h2
    exact q.elim
  | cont =>
    obtain ⟨_, _, _, q⟩ := h2
    exact q.elim
end

/-- the empty store -/
def S0 : Sto := fun _ => none
/-- the script's data, in a heap where nothing else is tracked -/
theorem lift_script {K : PySem.W.Frag} {H : Hp} {a : Addr} {ns : List Int} {sp : PSp} (hT : ∀ p ∈ TabCtx.T, H p.1 = some (.tbl #[])) (hs : SqL K H a (ns.map V.int)) (h : sp [.scr ns] S0 (fun d _ => d = .bl true) fun _ _ _ => False) :
    liftSp K sp [.ref a] H (fun v _ => v = .bl true) fun _ _ _ => False := by
  have r : StD K (fun b => ∃ p ∈ TabCtx.T, p.1 = b) H S0 := by
    refine ⟨fun a o e => absurd e (by simp [S0]), fun a e => absurd rfl e, ?_, fun p hp => ⟨#[], hT p hp, ⟨p, hp, rfl⟩, rfl, True.intro, fun pos cv hc => ?_⟩⟩
    · rintro a ⟨p, hp, e⟩ z
      rw [← e, hT p hp] at z
      cases z
    · simp [codeAmong] at hc
  have d1 : Den K (fun b => ∃ p ∈ TabCtx.T, p.1 = b) H (.scr ns) (.ref a) := by
    simp only [Den]
    refine ⟨a, rfl, ?_⟩
    rcases hs with q | q
    · refine Or.inl ⟨q, ?_⟩
      rintro ⟨p, hp, e⟩
      have g := hT p hp
      rw [e] at g
      rcases q with q | ⟨o, q⟩
      · rw [q] at g
        cases g
      · rw [q] at g
        cases g
    · exact Or.inr (Or.inr q)
  refine ⟨_, S0, [.scr ns], _, _, r, denL_cons d1 denL_nil, h, ?_, ?_⟩
  · rintro M1 S1 H1 t1 r1 d v hd rfl
    simpa only [Den] using hd
  · intro M1 S1 H1 t1 r1 c fs dd hx hq
    exact hq

section
variable {P : Program} {w : World} {K : PySem.W.Frag} {mg mb : Str → Option Value} {k : Nat} {fa a : Addr} {fd : FuncData} {x : Str} {sp : PSp} {s : Shared} {vs : List Value} {ns : List Int}
/-- the law is called -/
theorem call_law (h0 : TabCtx.T = []) (Kin : K.In s.heap) (glob : s.heap.Ns mainGlobals mg) (blt : s.heap.Ns builtinsNs mb) (boot : ∀ x : Str, x ≠ "__name__" → mb x = bootBuiltins x) (lim : s.heap.NoLimit) (gens : s.gens = #[])
    (ha : s.heap.get? a = some { cls := .type "list", data := .seq vs.toArray }) (hi : IntsAre vs ns) (hl : ns.length ≤ sizeLine) (hr : Room k callerA)
    (F : ∀ base : Heap, K.In base → base.Ns mainGlobals mg → FnG P w K mg base k fa fd [x] (liftSp K sp)) (bind : ∀ (s : Shared) (u : Value), BindsTo s fd ⟨[u], []⟩ [(x, u)]) (hsp : sp [.scr ns] S0 (fun d _ => d = .bl true) fun _ _ _ => False) :
    codeAny (model P w) callerA (.call (.ref fa) ⟨[.ref a], []⟩) (fun r s' => r = .ok (.ret (.bool true)) ∧ OldK s.heap s'.heap ∧ s'.os = s.os ∧ AllBare s'.gens) s := by
  have rv := vals_ints hi
  have nv := hi.length
  -- H tracks the script, or nothing at all
  have main : ∀ H : Hp, SqL K H a (ns.map V.int) → HOk P w H s.heap → (∀ b u, H b = some u → b = a ∧ K.lookup b = none ∧ ∃ o xs, u = .frz o (.lst xs)) →
      codeAny (model P w) callerA (.call (.ref fa) ⟨[.ref a], []⟩) (fun r s' => r = .ok (.ret (.bool true)) ∧ OldK s.heap s'.heap ∧ s'.os = s.os ∧ AllBare s'.gens) s := by
    intro H hS ok only
    have nodict : ∀ {b : Addr} {o : Obj} {es : Array DictEntry} {ep : Nat}, s.heap.get? b = some o → o.data = .dict es ep → H b = none := by
      intro b o es ep e d
      cases q : H b with
      | none => rfl
      | some u =>
        obtain ⟨rfl, _⟩ := only b u q
        rw [ha] at e
        cases e
        exact absurd (show Data.seq vs.toArray _ = Data.dict es ep from d) (by simp)
    have ns_ : ∀ {b : Addr} {m : Str → Option Value}, s.heap.Ns b m → (hidT s.heap H).Ns b m := by
      rintro b m ⟨o, es, ep, e, d, more⟩
      exact ⟨o, es, ep, hidT_get e (nodict e d), d, more⟩
    have kb : K.In (hidT s.heap H) := by
      intro b o e
      refine hidT_get (Kin b o e) ?_
      cases q : H b with
      | none => rfl
      | some u =>
        obtain ⟨_, z, _⟩ := only b u q
        rw [z] at e
        cases e
    have md : Mod K mg (hidT s.heap H) := by
      obtain ⟨mc, m1, m2⟩ := lim
      exact ⟨kb, ns_ glob, ⟨mb, ns_ blt, boot⟩, ⟨mc, ns_ m1, m2⟩⟩
    have e0 : Env0 P w K mg (hidT s.heap H) callerA [] s H := by
      refine ⟨rfl, md, fun b o e => of_hidT e, Nat.le_of_eq (hidT_size _ _), trivial, fun b hb => ?_, ok, .of_eq gens⟩
      exact absurd (show b ∈ ([] : List Addr) from hb) (List.not_mem_nil)
    have run := (F _ kb (ns_ glob)).go callerA [] s H ⟨[.ref a], []⟩ [.ref a] [.ref a] _ _ rfl hr e0 (bind s (.ref a)) (.cons rfl .nil) (lift_script (fun p hp => by rw [h0] at hp; cases hp) hS hsp)
    refine codeAny_mono run fun r s' h => ?_
    match r, h with
    | .ok (.ret u), h =>
      obtain ⟨v, H', os, bare, un, ok', r', q⟩ := h
      obtain rfl : v = .bl true := q
      obtain rfl : u = Value.bool true := r'
      refine ⟨rfl, OldK.of_keep fun b o e => ?_, os, bare⟩
      cases q : H b with
      | none => exact un.keep b o e q (fun z => List.not_mem_nil (show b ∈ ([] : List Addr) from z)) List.not_mem_nil
      | some u =>
        obtain ⟨_, _, ob, xs, rfl⟩ := only b u q
        obtain ⟨e1, _⟩ := ok b _ q
        obtain ⟨e2, _⟩ := ok' b _ (un.frzs b ob _ q)
        rw [e] at e1
        cases e1
        exact e2
    | .ok .next, h => exact False.elim h
    | .ok .brk, h => exact False.elim h
    | .ok .cont, h => exact False.elim h
    | .error e, h =>
      obtain ⟨_, _, _, _, _, _, _, _, _, _, _, _, z⟩ := h
      exact z.elim
  cases hk : K.lookup a with
  | some o =>
    have e := Kin a o hk
    rw [ha] at e
    cases e
    refine main (fun _ => none) (Or.inr ⟨_, vs.toArray, _, hk, rfl, rfl, rfl, ?_, by simpa using rv⟩) (fun b u z => by cases z) (fun b u z => by cases z)
    rw [List.size_toArray, nv]
    exact hl
  | none =>
    let fz : HO := .frz { cls := .type "list", data := .seq vs.toArray } (.lst (ns.map V.int))
    have spot : ∀ {b : Addr} {u : HO}, (if b = a then some fz else none) = some u → b = a ∧ u = fz := by
      intro b u z
      by_cases q : b = a
      · rw [if_pos q] at z
        exact ⟨q, (Option.some.inj z).symm⟩
      · rw [if_neg q] at z
        cases z
    refine main (fun b => if b = a then some fz else none) (Or.inl (Or.inr ⟨_, if_pos rfl⟩)) (fun b u z => ?_) (fun b u z => ?_)
    · obtain ⟨rfl, rfl⟩ := spot z
      exact ⟨ha, by rw [List.length_map]; exact hl, vs, _, rv, ha⟩
    · obtain ⟨rfl, rfl⟩ := spot z
      exact ⟨rfl, hk, _, _, rfl⟩
end

/-- THE WALK'S END -/
theorem walk_pl (h0 : TabCtx.T = []) {l : PySem.W.OpenLaw} {n k : Nat} {q : Program} {loose : List Str} {XP : (Str → Option Value) → Heap → Prop} {YP : World → Heap → Prop} {d : DefRec} {x : Str}
    (hn : l.most = some n) (hn2 : n ≤ sizeLine) (hdf : d.params.defaults = []) (hr : Room k callerA)
    (F : ∀ (w : World) (mg : Str → Option Value) (fa : Addr) (h : Heap), YP w h → h.Ns mainGlobals mg → mg d.name = some (.ref fa) →
      ∃ (K : PySem.W.Frag) (fd : FuncData) (sp : PSp), K.In h ∧ (∀ (s : Shared) (u : Value), BindsTo s fd ⟨[u], []⟩ [(x, u)]) ∧
        (∀ ns : List Int, ns.length ≤ n → (∀ z ∈ ns, Builtin.Int.intBits z ≤ 1048576) → sp [.scr ns] S0 (fun d _ => d = .bl true) fun _ _ _ => False) ∧
        ∀ base : Heap, K.In base → base.Ns mainGlobals mg → FnG l.prog w K mg base k fa fd [x] (liftSp K sp)) :
    PySem.W.WalkO q loose XP YP l.row.toRowW d [] (fun f vs => PySem.call f vs) := by
  refine Att.attach_callB hn hdf fun w s₀ s₁ mg mb fa o pm cd doc a vs ns G Y ho hd hcd hmg hobj hints hlen hbits hg => ?_
  obtain ⟨K, fd, sp, Kin, bind, hsp, hF⟩ := F w mg fa _ Y G.T.g hmg
  exact call_law h0 Kin G.T.g G.T.b G.T.builtins G.T.nolimit hg hobj hints (Nat.le_trans hlen hn2) hr hF bind (hsp ns hlen hbits)
/-- a promise that asks nothing of guards -/
theorem FnG.of {P : Program} {w : World} {K : PySem.W.Frag} {mg : Str → Option Value} {base : Heap} {k : Nat} {f : Addr} {fd : FuncData} {ps : List Str} {sp : Sp} (F : FnOk P w K mg base (L2.CX P w) k f fd ps sp) : FnG P w K mg base k f fd ps sp :=
  ⟨fun A outer s H args us vs Q E _ => F.run A outer s H args us vs Q E⟩
end PL
end
/-! from PLR.lean -/
section
/-! PLR: repr of plain data, where no repr is under way. -/
namespace PL
open PySem PySem.Spec PyProof.Rows L2
variable [TabCtx]

mutual
/-- as plain data, empty dicts among it -/
def toPyR : D → Option PyData
  | .non => some .none
  | .bl b => some (.bool b)
  | .int i => some (.int i)
  | .str s => some (.str s)
  | .tup ds => (toPyRL ds).map .tuple
  | .lst ds => (toPyRL ds).map .list
  | .dct [] => some (.dict [])
  | _ => none
def toPyRL : List D → Option (List PyData)
  | [] => some []
  | d :: ds => match toPyR d, toPyRL ds with
    | some p, some ps => some (p :: ps)
    | _, _ => none
end
/-- sys.modules stands in the written part, and is a dict -/
def SysK (K : PySem.W.Frag) : Prop := ∃ o es ep, K.lookup sysModules = some o ∧ o.data = .dict es ep
section
variable {X : Cx} {pins : List (Addr × Obj)} {σ : L2.St} {H : Hp} {s : Shared} {M : Mu}
theorem ne_sys (I : Inv X pins σ H s) (hk : SysK X.K) {a : Addr} {o : Obj} {vs : Array Value} {n : Nat} (e : s.heap.get? a = some o) (d : o.data = .seq vs n) : sysModules ≠ a := by
  rintro rfl
  obtain ⟨o', es, ep, h1, h2⟩ := hk
  rw [I.kIn _ _ h1] at e
  cases e
  rw [d] at h2
  cases h2
mutual
theorem den_reads (I : Inv X pins σ H s) (hk : SysK X.K) : ∀ (d : D) (p : PyData) (v : V) (u : Value), Den X.K M H d v → toPyR d = some p → RelV v u → ∃ as, Reads s.heap u p as ∧ sysModules ∉ as
  | .non, p, v, u, h, e, r => by
    simp only [Den] at h
    simp only [toPyR, Option.some.injEq] at e
    subst h e
    cases r
    exact ⟨_, .none, List.not_mem_nil⟩
  | .bl b, p, v, u, h, e, r => by
    simp only [Den] at h
    simp only [toPyR, Option.some.injEq] at e
    subst h e
    cases r
    exact ⟨_, .bool b, List.not_mem_nil⟩
  | .int i, p, v, u, h, e, r => by
    simp only [Den] at h
    simp only [toPyR, Option.some.injEq] at e
    subst h e
    obtain ⟨t, rfl⟩ := r
    exact ⟨_, .int i t, List.not_mem_nil⟩
  | .str x, p, v, u, h, e, r => by
    simp only [Den] at h
    simp only [toPyR, Option.some.injEq] at e
    subst h e
    obtain ⟨t, rfl⟩ := r
    exact ⟨_, .str x t, List.not_mem_nil⟩
  | .tup ds, p, v, u, h, e, r => by
    simp only [Den] at h
    obtain ⟨a, vs, rfl, h1, h2⟩ := h
    simp only [toPyR, Option.map_eq_some_iff] at e
    obtain ⟨ps, e1, rfl⟩ := e
    obtain rfl : u = .ref a := r
    obtain ⟨its, rv, ⟨o, ho, hc, n, hd⟩, _⟩ := I.tuple h1.sq
    obtain ⟨as, g1, g2⟩ := denL_reads I hk ds ps vs its h2 e1 rv
    exact ⟨as, .tuple ho hc hd g1, g2⟩
  | .lst ds, p, v, u, h, e, r => by
    simp only [Den] at h
    obtain ⟨a, vs, rfl, h1, _, h2⟩ := h
    simp only [toPyR, Option.map_eq_some_iff] at e
    obtain ⟨ps, e1, rfl⟩ := e
    obtain rfl : u = .ref a := r
    obtain ⟨its, rv, ⟨o, n, ho, hc, _, hd⟩, _⟩ := I.list (.inl (.inl h1))
    obtain ⟨as, g1, g2⟩ := denL_reads I hk ds ps vs its h2 e1 rv
    refine ⟨_, .list ho hc hd g1, fun z => ?_⟩
    rcases List.mem_cons.mp z with z | z
    · exact ne_sys I hk ho hd z
    · exact g2 z
  | .dct [], p, v, u, h, e, r => by
    simp only [Den, DenK] at h
    obtain ⟨a, gs, rfl, h1, _, rfl⟩ := h
    simp only [toPyR, Option.some.injEq] at e
    subst e
    obtain rfl : u = .ref a := r
    obtain ⟨_, ns, vs, r0, ob, es, ep, e1, ex, e2, _, e4, _⟩ := I.hok a _ h1
    cases r0
    have el := Pairs.length e4
    have en : es.toList = [] := List.length_eq_zero_iff.mp el
    refine ⟨_, Reads.dict (kvs := []) e1 ex.1 e2 (by rw [en]; exact .nil) (by rw [en]; exact .nil), fun z => ?_⟩
    rcases List.mem_cons.mp z with z | z
    · subst z
      exact absurd rfl (beq_eq_false_iff_ne.mp ns)
    · exact List.not_mem_nil z
  | .dct (_ :: _), _, _, _, _, e, _ => by simp only [toPyR] at e; cases e
  | .obj _ _, _, _, _, _, e, _ => by simp only [toPyR] at e; cases e
  | .exc _ _, _, _, _, _, e, _ => by simp only [toPyR] at e; cases e
  | .exq _ _ _, _, _, _, _, e, _ => by simp only [toPyR] at e; cases e
  | .dcn _ _, _, _, _, _, e, _ => by simp only [toPyR] at e; cases e
  | .scr _, _, _, _, _, e, _ => by simp only [toPyR] at e; cases e
  | .ref _, _, _, _, _, e, _ => by simp only [toPyR] at e; cases e
  | .raw _, _, _, _, _, e, _ => by simp only [toPyR] at e; cases e
theorem denL_reads (I : Inv X pins σ H s) (hk : SysK X.K) : ∀ (ds : List D) (ps : List PyData) (vs : List V) (us : List Value), DenL X.K M H ds vs → toPyRL ds = some ps → Vals vs us → ∃ as, ReadsAll s.heap us ps as ∧ sysModules ∉ as
  | [], ps, vs, us, h, e, r => by
    simp only [DenL] at h
    simp only [toPyRL, Option.some.injEq] at e
    subst h e
    cases r
    exact ⟨_, .nil, List.not_mem_nil⟩
  | d :: ds, ps, vs, us, h, e, r => by
    simp only [DenL] at h
    obtain ⟨v, q, rfl, h1, h2⟩ := h
    simp only [toPyRL] at e
    split at e
    · rename_i p ps' e1 e2
      cases e
      cases r with
      | cons r1 r2 =>
        obtain ⟨as, g1, g2⟩ := den_reads I hk d p v _ h1 e1 r1
        obtain ⟨bs, g3, g4⟩ := denL_reads I hk ds ps' q _ h2 e2 r2
        exact ⟨_, .cons g1 g3, fun z => (List.mem_append.mp z).elim g2 g4⟩
    · cases e
end
/-- repr(x) -/
def rReprD : RC := fun ds S Q => ∃ d p, ds = [d] ∧ toPyR d = some p ∧ p.showable = true ∧ p.shown.length ≤ sizeLine ∧ p.depth < 100 ∧ Q (.str p.shown) S
theorem oc_repr {k : Nat} (hg : X.A.guards = some []) (hr : Room k X.A) (hk : SysK X.K) : OC X (.builtin "repr") rReprD := by
  intro pins s σ H vs us Q I rv h
  obtain ⟨M, S, ds, Q', r, h1, ⟨d, p, rfl, hp, hs, hz, hd, hq⟩, oq⟩ := h
  obtain ⟨v, rfl, h2⟩ := denL_one h1
  cases rv with
  | cons r1 r2 =>
    rename_i u us
    cases r2
    have out : ∀ (h' : Heap) (t : Tok) (n : Nat), (∀ b o, s.heap.get? b = some o → h'.get? b = some o) → EP X pins σ Q (.str p.shown t) { s with heap := h', toks := n } := fun h' t n kp =>
      ⟨.str p.shown, H, I.kept (t' := n) kp, ⟨t, rfl⟩, oq.now r _ _ (by simp only [Den]) hq⟩
    have un := hr.un
    obtain ⟨as, rd, sy⟩ := den_reads I hk d p v u h2 hp r1
    cases rd with
    | none => exact P.repr_of_none (out _ _ _ fun _ _ e => e)
    | bool b => exact P.repr_of_bool (by cases b <;> exact out _ _ _ fun _ _ e => e)
    | int i t => exact P.repr_of_int (by simpa [PyData.showable] using hs) (by simpa only [PyData.shown] using out _ _ _ fun _ _ e => e)
    | str x t => exact P.repr_of_str (by simpa only [PyData.shown] using out _ _ _ fun _ _ e => e) (by simpa only [PyData.shown] using hz)
    | list a1 a2 a3 a4 => exact repr_of_reads' (.list a1 a2 a3 a4) hs (fun _ => sy) hg (by omega) (fun _ _ e => e) (fun h' t n kp => out h' t n kp) hz
    | tuple a1 a2 a3 a4 => exact repr_of_reads' (.tuple a1 a2 a3 a4) hs (fun _ => sy) hg (by omega) (fun _ _ e => e) (fun h' t n kp => out h' t n kp) hz
    | dict a1 a2 a3 a4 a5 => exact repr_of_reads' (.dict a1 a2 a3 a4 a5) hs (fun _ => sy) hg (by omega) (fun _ _ e => e) (fun h' t n kp => out h' t n kp) hz
end
end PL
end
/-! from PLP.lean -/
section
/-! PLP: the readings' own calculus: what each says at data that is known. -/
namespace PL
open PySem L2
variable [TabCtx]

section
variable {S : Sto} {Q : QK} {i j : Int} {x y : Str} {b c : Bool} {ds es : List D} {d e : D} {C : Int → Int → Prop} {g : Int → Int → Int} {gb : Int → Int → Bool}
theorem dI_i : dI g (.int i) (.int j) S Q ↔ Q (.int (g i j)) S := by simp only [dI, D.int.injEq, exists_and_left, exists_eq_left']
theorem dIC_i : dIC C g (.int i) (.int j) S Q ↔ C i j ∧ Q (.int (g i j)) S := by simp only [dIC, D.int.injEq, exists_and_left, exists_eq_left']
theorem dB_i : dB gb (.int i) (.int j) S Q ↔ Q (.bl (gb i j)) S := by simp only [dB, D.int.injEq, exists_and_left, exists_eq_left']
theorem dNeg_i : dNeg (.int i) S Q ↔ Q (.int (-i)) S := by simp only [dNeg, D.int.injEq, exists_eq_left']
theorem dAdd_i : dAdd (.int i) (.int j) S Q ↔ Q (.int (i + j)) S := Iff.rfl
theorem dAdd_s : dAdd (.str x) (.str y) S Q ↔ x.length + y.length ≤ sizeLine ∧ Q (.str (x ++ y)) S := Iff.rfl
theorem dAdd_t : dAdd (.tup ds) (.tup es) S Q ↔ ds.length + es.length ≤ sizeLine ∧ Q (.tup (ds ++ es)) S := Iff.rfl
theorem dAdd_l : dAdd (.lst ds) (.lst es) S Q ↔ ds.length + es.length ≤ sizeLine ∧ Q (.lst (ds ++ es)) S := Iff.rfl
theorem dMul_i : dMul (.int i) (.int j) S Q ↔ IntMulOk i j ∧ Q (.int (i * j)) S := Iff.rfl
theorem dMul_l : dMul (.lst ds) (.int j) S Q ↔ -(2 ^ 63) ≤ j ∧ j < 2 ^ 63 ∧ ds.length * j.toNat ≤ sizeLine ∧ Q (.lst (List.replicate j.toNat ds).flatten) S := Iff.rfl
theorem dec_i : decide (V.int i = V.int j) = decide (i = j) := by simp only [V.int.injEq]
theorem dec_s : decide (V.str x = V.str y) = decide (x = y) := by simp only [V.str.injEq]
theorem dec_b : decide (V.bl b = V.bl c) = decide (b = c) := by simp only [V.bl.injEq]
theorem dEq_i : dEq (.int i) (.int j) S Q ↔ Q (.bl (decide (i = j))) S := by simp only [dEq, sv, scal, dec_i, true_and, Bool.true_eq_false, false_and, or_false]
theorem dEq_s : dEq (.str x) (.str y) S Q ↔ Q (.bl (decide (x = y))) S := by simp only [dEq, sv, scal, dec_s, true_and, Bool.true_eq_false, false_and, or_false]
theorem dEq_b : dEq (.bl b) (.bl c) S Q ↔ Q (.bl (decide (b = c))) S := by simp only [dEq, sv, scal, dec_b, true_and, Bool.true_eq_false, false_and, or_false]
theorem dNe_i : dNe (.int i) (.int j) S Q ↔ Q (.bl (!decide (i = j))) S := by simp only [dNe, sv, scal, dec_i, true_and, Bool.true_eq_false, false_and, or_false]
theorem dNe_s : dNe (.str x) (.str y) S Q ↔ Q (.bl (!decide (x = y))) S := by simp only [dNe, sv, scal, dec_s, true_and, Bool.true_eq_false, false_and, or_false]
theorem dNe_b : dNe (.bl b) (.bl c) S Q ↔ Q (.bl (!decide (b = c))) S := by simp only [dNe, sv, scal, dec_b, true_and, Bool.true_eq_false, false_and, or_false]
theorem dIsN_n : dIsN .non .non S Q ↔ Q (.bl true) S := by simp [dIsN]
theorem dIsN_i : dIsN (.int i) .non S Q ↔ Q (.bl false) S := by simp [dIsN]
theorem dIsN_l : dIsN (.lst ds) .non S Q ↔ Q (.bl false) S := by simp [dIsN]
theorem dIsN_t : dIsN (.tup ds) .non S Q ↔ Q (.bl false) S := by simp [dIsN]
theorem dNotN_n : dNotN .non .non S Q ↔ Q (.bl false) S := by simp [dNotN]
theorem dNotN_i : dNotN (.int i) .non S Q ↔ Q (.bl true) S := by simp [dNotN]
theorem dNotN_l : dNotN (.lst ds) .non S Q ↔ Q (.bl true) S := by simp [dNotN]
theorem dNotN_t : dNotN (.tup ds) .non S Q ↔ Q (.bl true) S := by simp [dNotN]
theorem dRev_t : dRev (.tup ds) S Q ↔ Q (.tup ds.reverse) S := by simp [dRev]
/-! items -/
theorem dIx_t : dIx (.tup ds) (.int i) S Q ↔ ∃ d, atI ds i = some d ∧ Q d S := by simp [dIx, Sq]
theorem dIx_l : dIx (.lst ds) (.int i) S Q ↔ ∃ d, atI ds i = some d ∧ Q d S := by simp [dIx, Sq]
theorem dIx_r {p : Addr} (h : S p = some (.lst ds)) : dIx (.ref p) (.int i) S Q ↔ ∃ d, atI ds i = some d ∧ Q d S := by simp [dIx, Sq, h]
theorem atI_nat {α : Type} {xs : List α} {n : Nat} : atI xs (n : Int) = xs[n]? := by
  unfold atI ixN
  rw [if_pos (by omega)]
  by_cases h : n < xs.length
  · rw [if_pos (by omega), Option.bind_some, Int.toNat_natCast]
  · rw [if_neg (by omega), Option.bind_none, List.getElem?_eq_none (by omega)]
theorem atI_lit {α : Type} {xs : List α} {i : Int} {n : Nat} (h : i = (n : Int)) : atI xs i = xs[n]? := by rw [h, atI_nat]
theorem atI_0 {α : Type} {xs : List α} : atI xs 0 = xs[0]? := atI_lit rfl
theorem atI_1 {α : Type} {xs : List α} : atI xs 1 = xs[1]? := atI_lit rfl
theorem atI_2 {α : Type} {xs : List α} : atI xs 2 = xs[2]? := atI_lit rfl
theorem atI_3 {α : Type} {xs : List α} : atI xs 3 = xs[3]? := atI_lit rfl
theorem atI_4 {α : Type} {xs : List α} : atI xs 4 = xs[4]? := atI_lit rfl
theorem atI_pos {α : Type} {xs : List α} {i : Int} (h : 0 ≤ i) : atI xs i = xs[i.toNat]? := atI_lit (by omega)
/-! built-ins -/
theorem rLen_s {z : Str} : rLenD [.str z] S Q ↔ z.length ≤ sizeLine ∧ Q (.int z.length) S := by simp [rLenD]
theorem rLen_t : rLenD [.tup ds] S Q ↔ Q (.int ds.length) S := by simp [rLenD, Sq]
theorem rLen_l : rLenD [.lst ds] S Q ↔ Q (.int ds.length) S := by simp [rLenD, Sq]
theorem rLen_c {ns : List Int} : rLenD [.scr ns] S Q ↔ Q (.int ns.length) S := by simp [rLenD, Sq]
theorem rLen_r {p : Addr} (h : S p = some (.lst ds)) : rLenD [.ref p] S Q ↔ Q (.int ds.length) S := by simp [rLenD, Sq, h]
theorem rInt_i : rIntD [.int i] S Q ↔ Q (.int i) S := by simp [rIntD]
theorem rInt_b : rIntD [.bl b] S Q ↔ Q (.int (if b = true then 1 else 0)) S := by simp [rIntD]
theorem rAbs_i : rAbsD [.int i] S Q ↔ Q (.int (if i < 0 then -i else i)) S := by simp [rAbsD]
theorem rList_t : rListD [.tup ds] S Q ↔ Q (.lst ds) S := by simp [rListD, Sq]
theorem rList_l : rListD [.lst ds] S Q ↔ Q (.lst ds) S := by simp [rListD, Sq]
theorem rAll_l {bs : List Bool} (h : Q (.bl (bs.all id)) S) : rAllD [.lst (bs.map D.bl)] S Q := ⟨_, bs, rfl, rfl, h⟩
theorem rAll_f {α : Type} {f : α → Bool} {xs : List α} (h : Q (.bl (xs.all f)) S) : rAllD [.lst (xs.map fun x => D.bl (f x))] S Q := by
  have e : (xs.map fun x => D.bl (f x)) = (xs.map f).map D.bl := by rw [List.map_map]; rfl
  rw [e]
  refine rAll_l ?_
  rw [List.all_map]
  exact h
theorem rSum_l {ns : List Int} (h : Q (.int ns.sum) S) : rSumD [.lst (ns.map D.int)] S Q := ⟨_, ns, rfl, rfl, h⟩
/-- of which type plain data is -/
def tyn : D → String
  | .non => "NoneType" | .bl _ => "bool" | .int _ => "int" | .str _ => "str" | .tup _ => "tuple" | .lst _ => "list" | .scr _ => "list" | .dct _ => "dict"
  | _ => ""
def isPl : D → Bool
  | .obj _ _ => false | .exc _ _ => false | .exq _ _ _ => false | .ref _ => false | .raw _ => false | .dcn _ _ => false
  | _ => true
theorem tyD_pl {t : String} (h : isPl d = true) : TyD S d t ↔ t = tyn d := by
  cases d <;> first | exact Iff.rfl | (simp [isPl] at h)
theorem rIsi_pl {T : String} (h : isPl d = true) (hT : T ∈ tyNames) : rIsiD [d, .raw (.ty T)] S Q ↔ Q (.bl (isa (tyn d) T)) S := by
  constructor
  · rintro ⟨d', T', t, e, ht, _, hq⟩
    rw [List.cons.injEq, List.cons.injEq, D.raw.injEq, V.ty.injEq] at e
    obtain ⟨rfl, rfl, _⟩ := e
    rw [(tyD_pl h).mp ht] at hq
    exact hq
  · intro hq
    exact ⟨d, T, tyn d, rfl, (tyD_pl h).mpr rfl, hT, hq⟩
theorem rIsi_int (h : isPl d = true) : rIsiD [d, .raw (.ty "int")] S Q ↔ Q (.bl (isa (tyn d) "int")) S := rIsi_pl h (by decide)
theorem rIsi_bool (h : isPl d = true) : rIsiD [d, .raw (.ty "bool")] S Q ↔ Q (.bl (isa (tyn d) "bool")) S := rIsi_pl h (by decide)
theorem rIsi_str (h : isPl d = true) : rIsiD [d, .raw (.ty "str")] S Q ↔ Q (.bl (isa (tyn d) "str")) S := rIsi_pl h (by decide)
theorem rIsi_tuple (h : isPl d = true) : rIsiD [d, .raw (.ty "tuple")] S Q ↔ Q (.bl (isa (tyn d) "tuple")) S := rIsi_pl h (by decide)
theorem rIsi_list (h : isPl d = true) : rIsiD [d, .raw (.ty "list")] S Q ↔ Q (.bl (isa (tyn d) "list")) S := rIsi_pl h (by decide)
/-! in -/
theorem dIn_s {n : Nat} {z : Str} : dIn (.str ⟨#[n]⟩) (.str z) S Q ↔ Q (.bl (decide (n ∈ z.cps.toList))) S := by simp [dIn]
theorem svL_strs : ∀ xs : List Str, svL (xs.map D.str) = some (xs.map V.str)
  | [] => rfl
  | x :: xs => by simp only [List.map_cons, svL, sv, svL_strs xs]
theorem svL_ints : ∀ xs : List Int, svL (xs.map D.int) = some (xs.map V.int)
  | [] => rfl
  | x :: xs => by simp only [List.map_cons, svL, sv, svL_ints xs]
theorem flat_s (xs : List Str) : (xs.map V.str).all flatV = true := by rw [List.all_map]; exact List.all_eq_true.mpr fun _ _ => rfl
theorem flat_i (xs : List Int) : (xs.map V.int).all flatV = true := by rw [List.all_map]; exact List.all_eq_true.mpr fun _ _ => rfl
theorem inV_s (x : Str) (xs : List Str) : inV (.str x) (xs.map V.str) = decide (x ∈ xs) := by
  unfold inV
  rw [List.any_map, Bool.eq_iff_iff, List.any_eq_true, decide_eq_true_eq]
  constructor
  · rintro ⟨y, hy, e⟩
    have : y = x := by simpa [eqV] using e
    exact this ▸ hy
  · intro h
    exact ⟨x, h, by simp [eqV]⟩
theorem inV_i (x : Int) (xs : List Int) : inV (.int x) (xs.map V.int) = decide (x ∈ xs) := by
  unfold inV
  rw [List.any_map, Bool.eq_iff_iff, List.any_eq_true, decide_eq_true_eq]
  constructor
  · rintro ⟨y, hy, e⟩
    have : y = x := by simpa [eqV] using e
    exact this ▸ hy
  · intro h
    exact ⟨x, h, by simp [eqV]⟩
theorem inV_si (x : Str) (xs : List Int) : inV (.str x) (xs.map V.int) = false := by
  unfold inV
  rw [List.any_map, Bool.eq_false_iff]
  intro h
  obtain ⟨y, _, e⟩ := List.any_eq_true.mp h
  simp [eqV] at e
theorem dIn_ss {xs : List Str} (hs : Sq S d (xs.map D.str)) (h1 : ∀ z, d ≠ .str z) (h : Q (.bl (decide (x ∈ xs))) S) : dIn (.str x) d S Q := by
  unfold dIn
  split
  · exact absurd rfl (h1 _)
  · exact ⟨_, _, _, hs, rfl, svL_strs xs, rfl, flat_s xs, by rw [inV_s]; exact h⟩
theorem dIn_st {xs : List Str} (h : Q (.bl (decide (x ∈ xs))) S) : dIn (.str x) (.tup (xs.map D.str)) S Q := dIn_ss rfl (fun _ e => by cases e) h
theorem dIn_sl {xs : List Str} (h : Q (.bl (decide (x ∈ xs))) S) : dIn (.str x) (.lst (xs.map D.str)) S Q := dIn_ss rfl (fun _ e => by cases e) h
theorem dIn_il {xs : List Int} (h : Q (.bl (decide (i ∈ xs))) S) : dIn (.int i) (.lst (xs.map D.int)) S Q :=
  ⟨_, _, _, rfl, rfl, svL_ints xs, rfl, flat_i xs, by rw [inV_i]; exact h⟩
theorem dIn_sil {xs : List Int} (h : Q (.bl false) S) : dIn (.str x) (.lst (xs.map D.int)) S Q :=
  ⟨_, _, _, rfl, rfl, svL_ints xs, rfl, flat_i xs, by rw [inV_si]; exact h⟩
end
/-! comprehensions over a store that stays -/
theorem lc_go {i : Nat} {we : WE} {stay : Sto → Prop} {Γ0 : Gm} {Qf : List D → Sto → Prop} {S : Sto} (f : D → D) (hs : stay S) : ∀ (xs : List D) (acc : List D),
    (∀ x ∈ xs, ∀ Q : QK, Q (f x) S → we (Γ0.set i (some x)) S Q (fun _ _ _ => False)) → Qf (acc ++ xs.map f) S → wLcGo (wName i) wYes we stay Γ0 Qf xs acc S
  | [], acc, _, h => by simpa [wLcGo] using h
  | x :: xs, acc, he, h => by
    unfold wLcGo
    refine ⟨hs, ?_⟩
    show (if true = true then we (Γ0.set i (some x)) S (fun y S3 => wLcGo (wName i) wYes we stay Γ0 Qf xs (acc ++ [y]) S3) (fun _ _ _ => False) else wLcGo (wName i) wYes we stay Γ0 Qf xs acc S)
    rw [if_pos rfl]
    refine he x (List.mem_cons_self ..) _ ?_
    refine lc_go f hs xs _ (fun y hy => he y (List.mem_cons_of_mem _ hy)) ?_
    rw [List.append_assoc]
    exact h
theorem lc_tup {wa : WE} {we : WE} {i : Nat} {vs : List Nat} {Γ : Gm} {S : Sto} {Q : QK} {E : EK} {xs : List D} (f : D → D) (ha : wa Γ S (fun d S1 => d = .tup xs ∧ S1 = S) E) (hz : xs.length ≤ sizeLine)
    (mono : ∀ (Q1 Q2 : QK), (∀ d S1, Q1 d S1 → Q2 d S1) → wa Γ S Q1 E → wa Γ S Q2 E)
    (he : ∀ x ∈ xs, ∀ Q : QK, Q (f x) S → we ((wipeG Γ vs).set i (some x)) S Q (fun _ _ _ => False)) (h : Q (.lst (xs.map f)) S) : wLc (wiT wa) (wName i) wYes we vs Γ S Q E := by
  refine mono _ _ ?_ ha
  rintro d S1 ⟨rfl, rfl⟩
  exact ⟨xs, rfl, hz, lc_go f trivial xs [] he ⟨trivial, by simpa using h⟩⟩
/-! the store's own list -/
section
variable {S : Sto} {Q : QK} {p : Addr} {ds xs ys : List D} {y : D} {i : Int} {o : Ob}
theorem rLen_put : rLenD [.ref p] (S.put p (.lst ds)) Q ↔ Q (.int ds.length) (S.put p (.lst ds)) := rLen_r Sto.put_same
theorem dIx_put : dIx (.ref p) (.int i) (S.put p (.lst ds)) Q ↔ ∃ d, atI ds i = some d ∧ Q d (S.put p (.lst ds)) := dIx_r Sto.put_same
theorem tyM_put : TyM (S.put p (.lst ds)) (.ref p) "list" ↔ True := iff_true_intro (Or.inl ⟨_, Sto.put_same, rfl⟩)
theorem pop_put (h : Q y (S.put p (.lst xs))) : rPopD (.ref p) [] (S.put p (.lst (xs ++ [y]))) Q := by
  refine ⟨p, _, y, rfl, rfl, Sto.put_same, ?_, ?_⟩
  · rw [List.length_append, List.length_singleton, Nat.add_sub_cancel, List.getElem?_append_right (Nat.le_refl _), Nat.sub_self]
    rfl
  · rw [List.dropLast_concat, Sto.put_put]
    exact h
theorem app_put (hl : xs.length < sizeLine) (h : Q .non (S.put p (.lst (xs ++ [y])))) : rAppD (.ref p) [y] (S.put p (.lst xs)) Q := by
  refine ⟨p, xs, y, rfl, rfl, Sto.put_same, hl, ?_⟩
  rw [Sto.put_put]
  exact h
theorem ext_put (hl : xs.length + ys.length ≤ sizeLine) (h : Q .non (S.put p (.lst (xs ++ ys)))) : rExtD (.ref p) [.lst ys] (S.put p (.lst xs)) Q := by
  refine ⟨p, xs, ys, rfl, rfl, Sto.put_same, hl, ?_⟩
  rw [Sto.put_put]
  exact h
theorem set_put {q : Sto → Prop} {n : Nat} {v : D} (hi : i = (n : Int)) (hn : n < xs.length) (h : q (S.put p (.lst (xs.set n v)))) : rSetLD (.ref p) (.int i) v (S.put p (.lst xs)) q := by
  refine ⟨p, xs, i, n, rfl, rfl, Sto.put_same, ?_, ?_⟩
  · unfold ixN
    rw [if_pos (by omega), if_pos (by omega), hi, Int.toNat_natCast]
  · rw [Sto.put_put]
    exact h
end
/-- a def that is never called -/
theorem Fn1.bot {P : Program} {w : World} {K : PySem.W.Frag} {mg : Str → Option Value} {base : Heap} {k : Nat} {x : Str} {ps : List Str} {st : Stmt} (T : Tx1 K mg x st) (hb : ∀ (fd : FuncData) (f : Addr), FunD K x x (defArgs st) (defBody st) (defScope st) [] [] f fd → Binds K fd ps []) :
    Fn1 P w K mg base k x ps (fun _ _ _ _ => False) := by
  obtain ⟨f, fd, hm, F⟩ := T
  refine ⟨f, fd, hm, F.kp, hb fd f F, ⟨fun vs H Q E h => ?_, fun A outer s H args us vs Q E _ _ _ _ h => ?_⟩⟩
  · obtain ⟨_, _, _, _, _, _, _, z, _⟩ := h
    exact z.elim
  · obtain ⟨_, _, _, _, _, _, _, z, _⟩ := h
    exact z.elim
end PL
end
/-! from PLN.lean -/
section
/-! PLN: dicts with nested keys: reading, writing, walking. -/
namespace PL
open PySem PySem.Spec PyProof.Rows L2
variable [TabCtx]

section
variable {K : PySem.W.Frag} {M : Mu} {S : Sto} {H : Hp} {w : World}
mutual
theorem den_key : ∀ (k : NestedKey) (v : V), Den K M H (keyD k) v → KeyD K M H k v
  | .none, v, h => by simpa only [keyD, Den, KeyD] using h
  | .num i, v, h => by simpa only [keyD, Den, KeyD] using h
  | .text x, v, h => by simpa only [keyD, Den, KeyD] using h
  | .tup ks, v, h => by
    simp only [keyD, Den] at h
    simp only [KeyD]
    obtain ⟨a, vs, e, h1, h2⟩ := h
    exact ⟨a, vs, e, h1, denL_key ks vs h2⟩
theorem denL_key : ∀ (ks : List NestedKey) (vs : List V), DenL K M H (keyDL ks) vs → KeyDs K M H ks vs
  | [], vs, h => by simpa only [keyDL, DenL, KeyDs] using h
  | k :: ks, vs, h => by
    simp only [keyDL, DenL] at h
    simp only [KeyDs]
    obtain ⟨v, r, e, h1, h2⟩ := h
    exact ⟨v, r, e, den_key k v h1, denL_key ks r h2⟩
end
mutual
theorem key_den : ∀ (k : NestedKey) (v : V), KeyD K M H k v → Den K M H (keyD k) v
  | .none, v, h => by simpa only [keyD, Den, KeyD] using h
  | .num i, v, h => by simpa only [keyD, Den, KeyD] using h
  | .text x, v, h => by simpa only [keyD, Den, KeyD] using h
  | .tup ks, v, h => by
    simp only [KeyD] at h
    simp only [keyD, Den]
    obtain ⟨a, vs, e, h1, h2⟩ := h
    exact ⟨a, vs, e, h1, keyL_den ks vs h2⟩
theorem keyL_den : ∀ (ks : List NestedKey) (vs : List V), KeyDs K M H ks vs → DenL K M H (keyDL ks) vs
  | [], vs, h => by simpa only [keyDL, DenL, KeyDs] using h
  | k :: ks, vs, h => by
    simp only [KeyDs] at h
    simp only [keyDL, DenL]
    obtain ⟨v, r, e, h1, h2⟩ := h
    exact ⟨v, r, e, key_den k v h1, keyL_den ks r h2⟩
end
/-- d is such a dict -/
def DctN (w : World) (S : Sto) (d : D) (kvs : List (NestedKey × D)) : Prop := d = .dcn w kvs ∨ ∃ a ep, d = .ref a ∧ S a = some (.dcn w kvs ep)
theorem dctN_den {d : D} {kvs : List (NestedKey × D)} {v : V} (r : StD K M H S) (h : Den K M H d v) (q : DctN w S d kvs) : ∃ a es ep, v = .ref a ∧ H a = some (ndH w a es ep) ∧ DenN K M H kvs es ∧ ((d = .dcn w kvs ∧ ¬ M a) ∨ (d = .ref a ∧ S a = some (.dcn w kvs ep))) := by
  rcases q with rfl | ⟨a, ep, rfl, e⟩
  · simp only [Den] at h
    obtain ⟨a, es, ep, rfl, h1, m, h2⟩ := h
    exact ⟨a, es, ep, rfl, h1, h2, .inl ⟨rfl, m⟩⟩
  · simp only [Den] at h
    subst h
    obtain ⟨es, h1, h2⟩ := r.ob a _ e
    exact ⟨a, es, ep, rfl, h1, h2, .inr ⟨rfl, e⟩⟩
theorem denN_keys : ∀ {kvs : List (NestedKey × D)} {es : List NE}, DenN K M H kvs es → KeysAt K H es
  | [], es, h => by
    simp only [DenN] at h
    subst h
    intro p hp
    cases hp
  | (k, d) :: kvs, es, h => by
    simp only [DenN] at h
    obtain ⟨b, v, r, rfl, ⟨h1, h2⟩, _, h4⟩ := h
    intro p hp
    rcases List.mem_cons.mp hp with rfl | hp
    · exact ⟨keyD_v k _ h1, h2⟩
    · exact denN_keys h4 p hp
/-- what is at a key -/
def lookN (kvs : List (NestedKey × D)) (k : NestedKey) : Option D := (kvs.find? fun p => decide (p.1 = k)).map (·.2)
def setN (kvs : List (NestedKey × D)) (k : NestedKey) (d : D) : List (NestedKey × D) := if (lookN kvs k).isSome then kvs.map (fun p => if p.1 = k then (p.1, d) else p) else kvs ++ [(k, d)]
theorem denN_get {k : NestedKey} : ∀ {kvs : List (NestedKey × D)} {es : List NE}, DenN K M H kvs es → (lookN kvs k = none ∧ getN es k = none) ∨ ∃ d v, lookN kvs k = some d ∧ getN es k = some v ∧ Den K M H d v
  | [], es, h => by
    simp only [DenN] at h
    subst h
    exact .inl ⟨rfl, rfl⟩
  | (k', d) :: kvs, es, h => by
    simp only [DenN] at h
    obtain ⟨b, v, r, rfl, _, h3, h4⟩ := h
    unfold lookN getN
    rw [List.find?_cons, List.find?_cons]
    by_cases z : k' = k
    · simp only [z, decide_true]
      exact .inr ⟨d, v, rfl, rfl, h3⟩
    · simp only [z, decide_false]
      exact denN_get h4
theorem denN_len : ∀ {kvs : List (NestedKey × D)} {es : List NE}, DenN K M H kvs es → es.length = kvs.length
  | [], es, h => by
    simp only [DenN] at h
    subst h
    rfl
  | (k', d) :: kvs, es, h => by
    simp only [DenN] at h
    obtain ⟨b, v, r, rfl, _, h3, h4⟩ := h
    rw [List.length_cons, List.length_cons, denN_len h4]
theorem denN_map {k : NestedKey} {x : D} {y : V} (hx : Den K M H x y) : ∀ {kvs : List (NestedKey × D)} {es : List NE}, DenN K M H kvs es → DenN K M H (kvs.map fun p => if p.1 = k then (p.1, x) else p) (es.map fun p => if p.1 = k then (p.1, p.2.1, y) else p)
  | [], es, h => by
    simp only [DenN] at h
    subst h
    simp only [List.map_nil, DenN]
  | (k', d) :: kvs, es, h => by
    simp only [DenN] at h
    obtain ⟨b, v, r, rfl, h2, h3, h4⟩ := h
    rw [List.map_cons, List.map_cons]
    by_cases z : k' = k
    · rw [if_pos z, if_pos z]
      simp only [DenN]
      exact ⟨b, y, _, rfl, h2, hx, denN_map hx h4⟩
    · rw [if_neg z, if_neg z]
      simp only [DenN]
      exact ⟨b, v, _, rfl, h2, h3, denN_map hx h4⟩
theorem denN_snoc {k : NestedKey} {b : Addr} {x : D} {y : V} (hk : KeyD K M H k (.ref b) ∧ k.depth ≤ 8) (hx : Den K M H x y) : ∀ {kvs : List (NestedKey × D)} {es : List NE}, DenN K M H kvs es → DenN K M H (kvs ++ [(k, x)]) (es ++ [(k, b, y)])
  | [], es, h => by
    simp only [DenN] at h
    subst h
    simp only [List.nil_append, DenN]
    exact ⟨b, y, [], rfl, hk, hx, rfl⟩
  | (k', d) :: kvs, es, h => by
    simp only [DenN] at h
    obtain ⟨b', v, r, rfl, h2, h3, h4⟩ := h
    simp only [List.cons_append, DenN]
    exact ⟨b', v, _, rfl, h2, h3, denN_snoc hk hx h4⟩
theorem denN_put {k : NestedKey} {b : Addr} {x : D} {y : V} {kvs : List (NestedKey × D)} {es : List NE} (h : DenN K M H kvs es) (hk : KeyD K M H k (.ref b) ∧ k.depth ≤ 8) (hx : Den K M H x y) : DenN K M H (setN kvs k x) (putN es k b y) := by
  unfold setN putN
  rcases denN_get (k := k) h with ⟨e1, e2⟩ | ⟨d, v, e1, e2, _⟩
  · rw [e1, e2]
    exact denN_snoc hk hx h
  · rw [e1, e2]
    exact denN_map hx h
theorem denN_nth : ∀ {kvs : List (NestedKey × D)} {es : List NE} {i : Nat} {p : NE}, DenN K M H kvs es → es[i]? = some p → ∃ d, kvs[i]? = some (p.1, d) ∧ KeyD K M H p.1 (.ref p.2.1) ∧ Den K M H d p.2.2
  | [], es, i, p, h, e => by
    simp only [DenN] at h
    subst h
    cases e
  | (k', d) :: kvs, es, i, p, h, e => by
    simp only [DenN] at h
    obtain ⟨b', v, r, rfl, h2, h3, h4⟩ := h
    cases i with
    | zero =>
      cases e
      exact ⟨d, rfl, h2.1, h3⟩
    | succ i => exact denN_nth (kvs := kvs) (es := r) (i := i) (p := p) h4 e
end

/-! ### the hand layer's rules -/
section
variable {X : Cx} {k : Nat} {o i e f value : Expr} {pos pos' apos cpos : Pos} {td ty tv tx : TE}
/-- what is asked of a key at y -/
def KeyOk (K : PySem.W.Frag) (H : Hp) (n : NestedKey) (y : V) (b : Addr) : Prop := y = .ref b ∧ KeyV K H n (.ref b) ∧ n.depth ≤ 8
/-- d[k] -/
def tNGet (w : World) (K : PySem.W.Frag) (td ty : TE) : TE := fun σ H Q => td σ H fun x H1 => ty σ H1 fun y H2 => ∃ a es ep n b v, x = .ref a ∧ H2 a = some (ndH w a es ep) ∧ KeysAt K H2 es ∧ KeyOk K H2 n y b ∧ getN es n = some v ∧ Q v H2
theorem nd_typeIs {pins : List (Addr × Obj)} {σ : L2.St} {H : Hp} {s : Shared} {a : Addr} {es : List NE} {ep : Nat} (I : Inv X pins σ H s) (e : H a = some (ndH X.w a es ep)) : s.TypeIs (.ref a) "dict" ∧ ∀ b, Value.ref a = .ref b → ∃ ob, s.heap.get? b = some ob ∧ ob.dict = none := by
  obtain ⟨_, _, _, xs, o, ds, _, h1, h2, _⟩ := nd_at I e
  refine ⟨⟨o, h1, h2.1⟩, fun b q => ?_⟩
  cases q
  exact ⟨o, h1, h2.2.1⟩
theorem pe_nget (hr : Room k X.A) (ho : PE X o td) (hi : PE X i ty) (hs : NoSl i) : PE X (.Subscript o i pos) (tNGet X.w X.K td ty) := by
  refine ⟨fun pins s σ H Q I h => ?_⟩
  refine subD_of PySem.F.slot_dict_getitem.lookup hs (thn (ho.run pins s σ H _ I h) fun u s1 ⟨x, H1, I1, rx, q1⟩ => thn (hi.run pins s1 σ H1 _ I1 q1) fun iv s2 ⟨y, H2, I2, ry, a, es, ep, n, b, v, ex, g1, g2, ⟨ey, g3, g4⟩, g5, q2⟩ => ?_)
  subst ex ey
  obtain rfl : u = Value.ref a := rx
  obtain rfl : iv = Value.ref b := ry
  exact ⟨(nd_typeIs I2 g1).1, nd_getItem (by have := hr.un; omega) I2 g1 g2 g3 g4 g5 fun w' s3 I3 rw' => ⟨v, H2, I3, rw', q2⟩⟩
/-- d[k] = v -/
def sNPut (w : World) (K : PySem.W.Frag) (td ty tv : TE) : TS := fun D σ H => tv σ H fun v H1 => td σ H1 fun x H2 => ty σ H2 fun y H3 => ∃ a es ep n b, x = .ref a ∧ H3 a = some (ndH w a es ep) ∧ KeysAt K H3 es ∧ KeyOk K H3 n y b ∧ es.length < sizeLine ∧
  ∀ ep', D.nx σ (upd H3 a (ndH w a (putN es n b v) ep'))
theorem ps_nput (hr : Room k X.A) (ho : PE X o td) (hi : PE X i ty) (hv : PE X value tv) (hs : swapsWith value (some (.Subscript o i pos')) pos.line X.env = pure false) : PS X (.Assign [.Subscript o i pos'] value pos) (sNPut X.w X.K td ty tv) := by
  refine ⟨fun pins s σ H D I h => ?_⟩
  refine wpAny_Assign_Subscript (thn (hv.run pins s σ H _ I h) fun r s1 ⟨v, H1, I1, rv, q1⟩ => thn (ho.run pins s1 σ H1 _ I1 q1) fun u s2 ⟨x, H2, I2, rx, q2⟩ => thn (hi.run pins s2 σ H2 _ I2 q2) fun iv s3 ⟨y, H3, I3, ry, a, es, ep, n, b, ex, g1, g2, ⟨ey, g3, g4⟩, g5, q3⟩ => ?_) hs
  subst ex ey
  obtain rfl : u = Value.ref a := rx
  obtain rfl : iv = Value.ref b := ry
  exact nd_setItem (by have := hr.un; omega) I3 g1 g2 g3 g4 rv g5 fun ep' s4 I4 => ⟨σ, _, I4, q3 ep'⟩
/-- d.get(k, x) -/
def tNGet2 (w : World) (K : PySem.W.Frag) (td ty tx : TE) : TE := fun σ H Q => td σ H fun x H1 => ∃ a, x = .ref a ∧ (∃ es ep, H1 a = some (ndH w a es ep)) ∧ ty σ H1 fun y H2 => tx σ H2 fun z H3 => ∃ es ep n b, H3 a = some (ndH w a es ep) ∧ KeysAt K H3 es ∧ KeyOk K H3 n y b ∧ Q ((getN es n).getD z) H3
theorem pe_nget2 (hr : Room k X.A) (ho : PE X o td) (he : PE X e ty) (hf : PE X f tx) (m : M2 X o "get" apos e f cpos) : PE X (.Call (.Attribute o "get" apos) [e, f] [] cpos) (tNGet2 X.w X.K td ty tx) := by
  refine ⟨fun pins s σ H Q I h => ?_⟩
  refine wpAny_Call_method m.base m.few m.line PySem.F.plainAttrs_dict PySem.F.slot_dict_get PySem.F.type_dict_get (thn (ho.run pins s σ H _ I h) fun u s1 ⟨x, H1, I1, rx, a, ex, ⟨es0, ep0, g0⟩, q1⟩ => ?_)
  subst ex
  obtain rfl : u = Value.ref a := rx
  obtain ⟨t1, t2⟩ := nd_typeIs I1 g0
  refine ⟨t1, t2, ?_⟩
  rw [m.trees]
  refine Calls.callWith_builtin rfl (Calls.evalArgs_plain (Calls.spliced_cons (thn (he.run pins s1 σ H1 _ I1 q1) fun iv s2 ⟨y, H2, I2, ry, q2⟩ => Calls.spliced_cons (thn (hf.run pins s2 σ H2 _ I2 q2) fun fv s3 ⟨z, H3, I3, rz, es, ep, n, b, g1, g2, ⟨ey, g3, g4⟩, q3⟩ => Calls.spliced_nil ?_))))
  subst ey
  obtain rfl : iv = Value.ref b := ry
  exact nd_getOr (by have := hr.un; omega) I3 g1 g2 g3 g4 rz fun w' s4 I4 rw' => ⟨_, H3, I4, rw', q3⟩
/-- the keys, walked: n of them -/
def Itn (w : World) (d : Addr) (n ep : Nat) : It :=
  ⟨fun i H => (∃ es, H d = some (ndH w d es ep) ∧ es.length = n) ∧ i < n, fun i H x H' => H' = H ∧ ∀ es, H d = some (ndH w d es ep) → ∃ p, es[i]? = some p ∧ x = .ref p.2.1, fun i H => (∃ es, H d = some (ndH w d es ep) ∧ es.length = n) ∧ n ≤ i⟩
theorem nd_raw {w : World} {a : Addr} {es : List NE} {ep : Nat} {h : Heap} (R : NdAt w a es ep h) : ∃ o ds, h.get? a = some o ∧ o.ExactDict ∧ o.data = .dict ds ep ∧ ds.size = es.length ∧ ∀ (i : Nat) (p : NE), es[i]? = some p → ∃ en, ds[i]? = some en ∧ en.key = .ref p.2.1 := by
  obtain ⟨_, _, _, xs, o, ds, r, h1, h2, h3, h4⟩ := R
  have hl := Paired.length r
  refine ⟨o, ds, h1, h2, h3, by rw [← Array.length_toList, h4, List.length_map, hl], fun i p hp => ?_⟩
  have gen : ∀ {es : List NE} {xs : List NX}, Paired RelE es xs → ∀ i : Nat, es[i]? = some p → ∃ x, xs[i]? = some x ∧ p.2.1 = x.2.1 := by
    intro es xs r
    induction r with
    | nil => intro i e; cases e
    | @cons u v ps qs h t ih =>
      intro i e
      cases i with
      | zero =>
        cases e
        exact ⟨v, rfl, h.2.1⟩
      | succ i => exact ih i e
  obtain ⟨x, hx, ex⟩ := gen r i hp
  refine ⟨entry w x, ?_, ?_⟩
  · rw [← Array.getElem?_toList, h4, List.getElem?_map, hx]
    rfl
  · rw [ex]
    rfl
theorem turn_keysN {P : Program} {w : World} {K : PySem.W.Frag} {tg : Expr} {d : Addr} {n ep : Nat} (it : Addr) : Turn P w K tg (Itn w d n ep) [it] it (fun i h => h.IsKeyIter it d i n ep) where
  mem := by simp
  obj := fun i h st b hb => by
    obtain rfl : b = it := by simpa using hb
    obtain ⟨oi, e, c, dd⟩ := st
    exact ⟨oi, e, fun v z => by rw [dd] at z; cases z⟩
  keep := fun i h h' st k => st.at fun oi e => k it (by simp) oi e
  item := by
    rintro X rfl rfl rfl hc i pins s σ H E I hf st ⟨⟨es, hd, rfl⟩, hi⟩
    obtain ⟨f0, f1, f2, f3, f4, f5⟩ := hf it (by simp)
    obtain ⟨o, ds, g1, g2, g3, g4, g5⟩ := nd_raw (nd_at I hd)
    have hp : es[i]? = some es[i] := List.getElem?_eq_getElem hi
    obtain ⟨en, hen, hkey⟩ := g5 i _ hp
    refine next_key_item st g1 g3 g4 hen fun h' st' sb => ?_
    have I1 : Inv X pins σ H { s with heap := h' } := I.turned (t' := s.toks) (fun b ob hb e => (sb.2 b hb).trans e) f0 f1 f3 f4 f5
    obtain ⟨oi, e, c, dd⟩ := id st'
    refine ⟨en.key, rfl, go_of (s := { s with heap := h' }) e c dd (by decide) ⟨.ref es[i].2.1, H, I1, hkey, ⟨rfl, fun es' hd' => ?_⟩, st', fun b hb => (hf b hb).1⟩⟩
    obtain ⟨o', ds', k1, k2, k3, k4, k5⟩ := nd_raw (nd_at I hd')
    rw [g1] at k1
    cases k1
    rw [g3] at k3
    cases k3
    have hi' : i < es'.length := by rw [← k4, g4]; exact hi
    obtain ⟨en', hen', hkey'⟩ := k5 i es'[i] (List.getElem?_eq_getElem hi')
    rw [hen] at hen'
    cases hen'
    rw [hkey] at hkey'
    exact ⟨es'[i], List.getElem?_eq_getElem hi', by injection hkey' with z; rw [z]⟩
  done := by
    rintro X rfl rfl rfl hc i pins s σ H E I hf st ⟨⟨es, hd, rfl⟩, hi⟩
    obtain ⟨f0, f1, f2, f3, f4, f5⟩ := hf it (by simp)
    obtain ⟨o, ds, g1, g2, g3, g4, g5⟩ := nd_raw (nd_at I hd)
    exact next_key_end (I.ok.hd hc) st g1 g3 g4 hi fun h' eb => ⟨rfl, I.turned (t' := s.toks) (fun b ob hb e => eb b ob hb e) f0 f1 f3 f4 f5⟩
  self := fun A i s Q E st h => wpAny_pyIter_keyiter st h
def iNKeys (w : World) (td : TE) : TI := fun σ H R => td σ H fun x H1 => ∃ d es ep, x = .ref d ∧ H1 d = some (ndH w d es ep) ∧ R (Itn w d es.length ep) H1
theorem pi_nkeys {tg : Expr} (he : PE X e td) : PI X tg e (iNKeys X.w td) := by
  refine ⟨fun pins s σ H R I h => thn (he.run pins s σ H _ I h) fun u s1 ⟨x, H1, I1, rx, d, es, ep, ex, hd, q⟩ => ?_⟩
  subst ex
  obtain rfl : u = Value.ref d := rx
  obtain ⟨o, ds, g1, g2, g3, g4, g5⟩ := nd_raw (nd_at I1 hd)
  refine iter_keys (nd_at I1 hd).1 g1 g2 g3 (pi_one (tk := s1.toks) I1 _ (turn_keysN _) ⟨_, Heap.get?_push_size _ rfl, rfl, ?_⟩ q)
  rw [g4] <;> rfl
/-- {} -/
def tNNew (w : World) : TE := fun _ H Q => ∀ p ep, H p = none → Q (.ref p) (upd H p (ndH w p [] ep))
theorem nd_empty {w : World} (h : Heap) (hb : sysModules < h.objs.size) : NdAt w h.objs.size [] 0 (h.push { cls := .type "dict", data := .dict #[] }) :=
  ⟨beq_eq_false_iff_ne.mpr (Ne.symm (Nat.ne_of_lt hb)), Nat.zero_le _, List.nodup_nil, [], _, #[], .nil, Heap.get?_push_size _ rfl, ⟨rfl, rfl, rfl⟩, rfl, rfl⟩
theorem pe_nnew : PE X (.Dict [] [] pos) (tNNew X.w) := ⟨fun pins s σ H Q I h =>
  wpAny_Dict_empty ⟨.ref s.heap.objs.size, _, I.laid (a := s.heap.objs.size) (o := ndH X.w s.heap.objs.size [] 0) (t' := s.toks) (fun _ _ q => Heap.get?_push_of_some _ q) (Nat.le_refl _) (ndH_ok (nd_empty s.heap I.big)), rfl, h _ _ (I.hok.fresh (Nat.le_refl _))⟩⟩
end
end PL
end
/-! from PLO.lean -/
section
/-! PLO: rules over data for dicts with nested keys. -/
namespace PL
open PySem PySem.Spec PyProof.Rows L2
variable [TabCtx]

section
variable {K : PySem.W.Frag} {M : Mu} {S : Sto} {H : Hp} {w : World}
/-- a tuple as a key -/
structure IsKey (y : D) (n : NestedKey) : Prop where
  eq : y = keyD n
  tup : ∃ ks, n = .tup ks
  dep : n.depth ≤ 8
theorem IsKey.den {y : D} {n : NestedKey} {v : V} (k : IsKey y n) (h : Den K M H y v) : ∃ b, v = .ref b ∧ KeyD K M H n (.ref b) ∧ KeyV K H n (.ref b) := by
  obtain ⟨rfl, ⟨ks, rfl⟩, _⟩ := k
  have h1 := den_key _ _ h
  have h2 := h1
  simp only [KeyD] at h1
  obtain ⟨a, vs, rfl, _, _⟩ := h1
  exact ⟨a, rfl, h2, keyD_v _ _ h2⟩
/-- d[k] -/
def dNGet (w : World) : RD := fun x y S Q => ∃ kvs n d, DctN w S x kvs ∧ IsKey y n ∧ lookN kvs n = some d ∧ Q d S
theorem oix_n {X : Cx} {k : Nat} (hr : Room k X.A) : OIx X (dNGet X.w) := by
  intro value slice pins s σ H x y v u Q I rx ry q hsub
  obtain ⟨M, S, d, e, Q', r, h1, h2, ⟨kvs, n, d', hd, hk, hl, hq⟩, oq⟩ := q
  obtain ⟨a, es, ep, rfl, g1, g2, _⟩ := dctN_den r h1 hd
  obtain ⟨b, rfl, g3, g4⟩ := hk.den h2
  obtain rfl : v = Value.ref a := rx
  obtain rfl : u = Value.ref b := ry
  rcases denN_get (k := n) g2 with ⟨e1, _⟩ | ⟨d2, v2, e1, e2, e3⟩
  · rw [e1] at hl
    cases hl
  · rw [e1] at hl
    cases hl
    exact tail_any (nd_typeIs I g1).1 PySem.F.slot_dict_getitem.lookup (nd_getItem (by have := hr.un; omega) I g1 (denN_keys g2) g4 hk.dep e2 fun w' s3 I3 rw' => ⟨v2, H, I3, rw', oq.now r _ _ e3 hq⟩) hsub
/-- any subscript -/
def dIxN (w : World) : RD := fun x y S Q => dIx x y S Q ∨ dNGet w x y S Q
theorem oixN {X : Cx} {k : Nat} (hr : Room k X.A) : OIx X (dIxN X.w) := by
  intro value slice pins s σ H x y v u Q I rx ry q hsub
  obtain ⟨M, S, d, e, Q', r, h1, h2, h | h, oq⟩ := q
  · exact oix value slice pins s σ H x y v u Q I rx ry ⟨M, S, d, e, Q', r, h1, h2, h, oq⟩ hsub
  · exact oix_n hr value slice pins s σ H x y v u Q I rx ry ⟨M, S, d, e, Q', r, h1, h2, h, oq⟩ hsub
/-- k in d -/
def dNIn (w : World) : RD := fun y x S Q => ∃ kvs n, DctN w S x kvs ∧ IsKey y n ∧ Q (.bl (lookN kvs n).isSome) S
theorem od_nIn {X : Cx} {k : Nat} (hr : Room k X.A) : OD X (compareOp .In) (dNIn X.w) := by
  intro pins s σ H y x v u Q I ry rx q
  obtain ⟨M, S, e, d, Q', r, h2, h1, ⟨kvs, n, hd, hk, hq⟩, oq⟩ := q
  obtain ⟨a, es, ep, rfl, g1, g2, _⟩ := dctN_den r h1 hd
  obtain ⟨b, rfl, g3, g4⟩ := hk.den h2
  obtain rfl : u = Value.ref a := rx
  obtain rfl : v = Value.ref b := ry
  refine nd_in (by have := hr.un; omega) I g1 (denN_keys g2) g4 hk.dep fun s3 I3 => ?_
  have hs : (lookN kvs n).isSome = (getN es n).isSome := by
    rcases denN_get (k := n) g2 with ⟨e1, e2⟩ | ⟨d2, v2, e1, e2, _⟩ <;> rw [e1, e2] <;> rfl
  exact ⟨.bl (getN es n).isSome, H, I3, rfl, oq.now r (.bl (getN es n).isSome) _ (by simp only [Den]) (by rw [← hs]; exact hq)⟩
/-- d[k] = v -/
def rSetN (w : World) : RSet := fun o i v S Q => ∃ p kvs ep n, o = .ref p ∧ S p = some (.dcn w kvs ep) ∧ IsKey i n ∧ kvs.length < sizeLine ∧ ∀ ep', Q (S.put p (.dcn w (setN kvs n v) ep'))
theorem oset_n {X : Cx} {k : Nat} (hr : Room k X.A) : PSet X (liftSet X.K (rSetN X.w)) := by
  intro pins s σ H o i v ov iv u Q I r1 r2 r3 h
  obtain ⟨M, S, d, e, f, Q', r, h1, h2, h3, ⟨p, kvs, ep, n, rfl, hs, hk, hl, hq⟩, oq⟩ := h
  simp only [Den] at h1
  subst h1
  obtain ⟨b, rfl, g3, g4⟩ := hk.den h2
  obtain ⟨es, g1, g2⟩ := r.ob p _ hs
  obtain rfl : ov = Value.ref p := r1
  obtain rfl : iv = Value.ref b := r2
  refine nd_setItem (by have := hr.un; omega) I g1 (denN_keys g2) g4 hk.dep r3 (by rw [denN_len g2]; exact hl) fun ep' s4 I4 => ⟨_, I4, ?_⟩
  have t2 : Tr X.K M S H M (S.put p (.dcn X.w (setN kvs n f) ep')) (upd H p (ndH X.w p (putN es n b v) ep')) := set_tr r hs
  refine oq _ _ _ t2 (set_st r hs ⟨_, upd_same, ?_⟩) (hq ep')
  exact denN_kp t2.keep _ _ (denN_put g2 ⟨g3, hk.dep⟩ h3)
end
end PL
end
/-! from PLQ.lean -/
section
/-! PLQ: classes of the text: instances, their fields, isinstance. -/
namespace PL
open PySem PySem.Spec PyProof.Rows L2
variable [TabCtx]

/-! ### what is made is handed over: nobody writes it any more -/
def Sto.del (S : Sto) (a : Addr) : Sto := fun b => if b = a then none else S b
def Mu.del (M : Mu) (a : Addr) : Mu := fun b => M b ∧ b ≠ a
theorem Sto.put_del {S : Sto} {a : Addr} {o : Ob} (h : S a = none) : (S.put a o).del a = S := by
  funext b
  unfold Sto.del Sto.put
  by_cases e : b = a
  · rw [if_pos e, e, h]
  · rw [if_neg e, if_neg e]
section
variable {K : PySem.W.Frag} {M M' : Mu} {S S' : Sto} {H H' : Hp} {a : Addr}
theorem frz_kp : Kp M H (M.del a) H := fun b o e n => ⟨e, fun z => n z.1⟩
theorem notab (r : StD K M H S) (h : H a = none) : ∀ q ∈ TabCtx.T, q.1 ≠ a := fun q hq z => by
  obtain ⟨ps, e, _⟩ := r.tab q hq
  rw [z, h] at e
  cases e
theorem notabS (r : StD K M H S) {o : Ob} (h : S a = some o) : ∀ q ∈ TabCtx.T, q.1 ≠ a := fun q hq z => by
  obtain ⟨ps, _, _, e, _⟩ := r.tab q hq
  rw [z, h] at e
  cases e
theorem frz_st (r : StD K M H S) (ha : ∀ q ∈ TabCtx.T, q.1 ≠ a) : StD K (M.del a) H (S.del a) := by
  refine ⟨fun b o e => ?_, fun b e => ?_, fun b m => r.tr b m.1, r.tab.gen2 (fun a o _ e n => frz_kp _ _ e n) (fun P o _ e m n => ⟨e, ?_⟩) fun p hp m => ⟨m, fun z => ha p hp z⟩⟩
  · unfold Sto.del at e
    split at e
    · cases e
    · exact obD_kp frz_kp (r.ob b o e) rfl
  · unfold Sto.del at e
    split at e
    · exact absurd rfl e
    · rename_i n
      exact ⟨r.mu b e, n⟩
  · unfold Sto.del
    split
    · rfl
    · exact n
theorem frz_tr (t : Tr K M S H M' S' H') (hp : H a = none) : Tr K M S H (M'.del a) (S'.del a) H' := ⟨fun b o e n => by
  obtain ⟨h1, m1⟩ := t.keep b o e n
  exact ⟨h1, fun z => m1 z.1⟩, fun b o e m n y => by
  obtain ⟨h1, m1, s1⟩ := t.forn b o e m n y
  have ne : b ≠ a := ne_of_none e hp
  exact ⟨h1, ⟨m1, ne⟩, by unfold Sto.del; rw [if_neg ne]; exact s1⟩⟩
theorem frz_exD {fs : List (Str × D)} {dd : Option Addr} (h : ExD K M H fs dd) : ExD K (M.del a) H fs dd := by
  rcases h with h | ⟨d, gs, h1, h2, h3, h4⟩
  · exact .inl h
  · exact .inr ⟨d, gs, h1, h2, fun z => h3 z.1, denF_kp frz_kp _ _ h4⟩
end

/-! ### C(..) -/
/-- what a class's __init__ does with its arguments: the fields, or what it raises -/
abbrev CSp := List D → (List (Str × D) → Prop) → (Value → List (Str × D) → Prop) → Prop
/-- as a promise of C(..) -/
def cSp (C : Addr) (cs : CSp) : PSp := fun ds S Q E => cs ds (fun fs => Q (.obj C fs) S) (fun c fs => E c fs S)
/-- as a promise of __init__ -/
def initSp (C : Addr) (cs : CSp) : PSp := fun ds S Q E => ∃ (p : Addr) (rest : List D) (S0 : Sto), ds = .ref p :: rest ∧ S0 p = none ∧ S = S0.put p (.ins C []) ∧ cs rest (fun fs => Q .non (S0.put p (.ins C fs))) (fun c fs => ∀ o, E c fs (S0.put p (.ins C o)))
/-- a class of the text by its name, and how it is made -/
def Kl1 (P : Program) (w : World) (K : PySem.W.Frag) (mg : Str → Option Value) (base : Heap) (k : Nat) (x : Str) (C : Addr) (ps : List Str) (cs : CSp) : Prop :=
  ∃ f fd, mg x = some (.ref C) ∧ Mk K C f ∧ Binds K fd ("self" :: ps) [] ∧ FnOk P w K mg base (L2.CX P w) k f fd ("self" :: ps) (liftSp K (initSp C cs))
theorem Kl1.up {P : Program} {w : World} {K : PySem.W.Frag} {mg : Str → Option Value} {base : Heap} {j k : Nat} {x : Str} {C : Addr} {ps : List Str} {cs : CSp} (F : Kl1 P w K mg base j x C ps cs) (h : j ≤ k := by decide) : Kl1 P w K mg base k x C ps cs := by
  obtain ⟨f, fd, h1, h2, h3, h4⟩ := F
  exact ⟨f, fd, h1, h2, h3, h4.mono h⟩
section
variable {X : Cx} {W : WX} {k : Nat} {C : Addr} {pos p : Pos} {e : Expr} {es : List Expr} {ws : WA} {ps : List Str} {cs : CSp} {x : Str}
def tMkS (C : Addr) (sp : Sp) (E : L2.St → XK) (t : TA) : TE := fun σ H Q => t σ H fun vs H1 => ∀ x dx, H1 x = none → H1 dx = none → dx ≠ x → sp (.ref x :: vs) (upd (upd H1 dx (.own x)) x (.ins C dx [])) (fun v H2 => v = .non ∧ Q (.ref x) H2) (E σ)
theorem pe_mkS {f : Addr} {fd : FuncData} {qs : List Str} {sp : Sp} {E : L2.St → XK} {t : TA} (m : Mk X.K C f) (F : FnOk X.prog X.w X.K X.mg X.base (L2.CX X.prog X.w) k f fd qs sp) (hr : Room (k + 1) X.A) (hg : Gl X x) (hm : X.mg x = some (.ref C)) (hb : Binds X.K fd qs []) (hx : ∀ σ, PassesAt (L2.CX X.prog X.w) X σ (E σ))
    (ha : PA X (e :: es) t) (hdb : (x == ("__debug__" : Str)) = false := by decide) (he : starEach (e :: es) X.env = (false, eval e X.env) :: starEach es X.env := by rfl) (hpl : (backTo pos (starEach es X.env)).any (·.1) = false := by rfl) :
    PE X (.Call (.Name x p) (e :: es) [] pos) (tMkS C sp E t) := by
  refine ⟨fun pins s σ H Q I h => ?_⟩
  refine wpAny_Call_Name_kw (ld_glob I hg hm ?_ hdb)
  refine PySem.W.callWith_K (h₀ := X.base) I.ok.mod.kin m.kp (thn (ha.run pos pins s σ H _ I h) fun us s1 ⟨vs, H1, J, r, q⟩ => ⟨J.kIn, ?_⟩) he hpl
  have q1 := q (s1.heap.objs.size + 1) s1.heap.objs.size (J.hok.fresh (Nat.le_succ _)) (J.hok.fresh (Nat.le_refl _)) (Nat.ne_of_lt (Nat.lt_succ_self _))
  have J2 := Inv.made (C := C) J
  have rr : Vals (V.ref (s1.heap.objs.size + 1) :: vs) (Value.ref (s1.heap.objs.size + 1) :: us) := .cons rfl r
  have hl : (Value.ref (s1.heap.objs.size + 1) :: us).length = qs.length := by rw [← rr.length]; exact F.len _ _ _ _ q1
  have hb2 := fun s' hk => hb s' (Value.ref (s1.heap.objs.size + 1) :: us) hk (by simpa using hl)
  have run := F.run _ X.stack _ _ ⟨Value.ref (s1.heap.objs.size + 1) :: us, []⟩ (Value.ref (s1.heap.objs.size + 1) :: us) _ _ (E σ) (hr.make C us []) (J2.env0.make C us []) (by simpa using hb2 _ J2.kIn) rr q1
  refine wpAny_call (make_map (f := f) J.kIn m.makes m.init (beq_iff_eq.mp m.fn) (codeAny_mono run fun res s' hq => ?_))
  match res, hq with
  | .error er, hq => exact hx σ pins _ _ er s' J2 hq
  | .ok (.ret u), hq =>
    obtain ⟨v, H', J3, rv, ev, q3⟩ := J2.after hq
    subst ev
    exact ⟨rv, ⟨V.ref (s1.heap.objs.size + 1), H', J3, rfl, q3⟩⟩
  | .ok .next, hq => exact False.elim hq
  | .ok .brk, hq => exact False.elim hq
  | .ok .cont, hq => exact False.elim hq
/-- C(e, ..) -/
theorem xk (F : Kl1 X.prog X.w X.K X.mg X.base k x C ps cs) (hr : Room (k + 1) X.A) (tk : Takes X W) (ha : SA X W (e :: es) ws) (hg : Gl X x := by rfl) (hdb : (x == ("__debug__" : Str)) = false := by decide)
    (he : starEach (e :: es) X.env = (false, eval e X.env) :: starEach es X.env := by rfl) (hpl : (backTo pos (starEach es X.env)).any (·.1) = false := by rfl) : SE X W (.Call (.Name x p) (e :: es) [] pos) (wCall (cSp C cs) ws) := by
  obtain ⟨f, fd, h1, h2, h3, h4⟩ := F
  refine ⟨pe_imp (pe_mkS h2 h4 hr hg h1 h3 (fun σ => passAt tk σ) ha.pa hdb he hpl) fun σ H Q h => ?_⟩
  obtain ⟨M, Γ, S, Q', E', r, en, h, oq, ox⟩ := h
  refine ⟨M, Γ, S, _, E', r, en, h, ?_, ox⟩
  intro M1 S1 H1 t1 r1 ds vs hd hq p dx hp hdx hne
  -- the two new objects
  have n1 := new_tr (K := X.K) (M := M1) (S := S1) (o := .own p) hdx
  have r2 := new_st (o := .own p) r1 hdx
  have hp2 : (upd H1 dx (.own p)) p = none := by rw [upd_ne (Ne.symm hne)]; exact hp
  have n2 := add_tr (K := X.K) (M := M1) (S := S1) (o := .ins C dx []) hp2 (.ins C [])
  have r3 : StD X.K (M1.add p) (upd (upd H1 dx (.own p)) p (.ins C dx [])) (S1.put p (.ins C [])) := add_st r2 hp2 ⟨dx, [], upd_same, by simp only [DenF]⟩
  have t3 := n1.trans n2
  have s0 : S1 p = none := new_no r1 hp
  refine ⟨M1.add p, S1.put p (.ins C []), .ref p :: ds, fun u S2 => u = .non ∧ ∃ fs, S2 p = some (.ins C fs) ∧ Q' (.obj C fs) (S2.del p), fun c fs S2 => E' c fs (S2.del p), r3, ?_, ?_, ?_, ?_⟩
  · exact denL_cons (by simp only [Den]) (denL_tr r1 t3 _ _ hd)
  · refine ⟨p, ds, S1, rfl, s0, rfl, ?_⟩
    have e1 : (fun fs => (D.non = .non ∧ ∃ fs', (S1.put p (.ins C fs)) p = some (.ins C fs') ∧ Q' (.obj C fs') ((S1.put p (.ins C fs)).del p))) = fun fs => Q' (.obj C fs) S1 := by
      funext fs
      rw [Sto.put_del s0, Sto.put_same]
      refine propext ⟨fun h => ?_, fun h => ⟨rfl, fs, rfl, h⟩⟩
      obtain ⟨_, fs', e, h⟩ := h
      cases e
      exact h
    have e2 : (fun (c : Value) fs => ∀ o, E' c fs ((S1.put p (.ins C o)).del p)) = fun c fs => E' c fs S1 := by
      funext c fs
      refine propext ⟨fun h => ?_, fun h o => ?_⟩
      · have := h []
        rwa [Sto.put_del s0] at this
      · rw [Sto.put_del s0]
        exact h
    rw [e1, e2]
    exact hq
  · rintro M2 S2 H2 t r4 d v hv ⟨rfl, fs, hs, hq⟩
    simp only [Den] at hv
    refine ⟨hv, ?_⟩
    obtain ⟨dx', gs, g1, g2⟩ := r4.ob p _ hs
    have t4 := frz_tr (a := p) (t3.trans t) hp
    refine oq _ _ _ (t1.trans t4) (frz_st r4 (notab r1 hp)) _ _ ?_ hq
    simp only [Den]
    exact ⟨p, dx', gs, rfl, g1, fun z => z.2 rfl, denF_kp frz_kp _ _ g2⟩
  · intro M2 S2 H2 t r4 c fs dd hx hq
    exact ox _ _ _ (t1.trans (frz_tr (a := p) (t3.trans t) hp)) (frz_st r4 (notab r1 hp)) c fs dd (frz_exD hx) hq
end

/-! ### fields -/
/-- what classes of the text have -/
structure KcOk (K : PySem.W.Frag) (C : Addr) : Prop where
  cls : Cls K C
  ha : PySem.W.findIn K (.ref C) "__class__" = some (some (.builtin "object.__class__"))
  hn : PySem.W.specialIn K (.builtin "object.__class__") "__get__" = some (some (.builtin "getset_descriptor.__get__"))
  htk : PySem.W.takesIn K (.builtin "object.__class__") = some true
  hm : PySem.W.mroIn K C (.type "object") = some true
/-- the fields f of the classes cs -/
def FldOk (K : PySem.W.Frag) (cs : List Addr) (f : Str) : Prop := ∀ C ∈ cs, Cls K C ∧ NoAttr K C f
section
variable {K : PySem.W.Frag} {M : Mu} {S : Sto} {H : Hp}
theorem denF_get {f : Str} : ∀ {fs : List (Str × D)} {gs : List (Str × V)} {d : D}, DenF K M H fs gs → fs.lookup f = some d → ∃ v, gs.lookup f = some v ∧ Den K M H d v
  | [], gs, d, h, e => by cases e
  | (g, d') :: fs, gs, d, h, e => by
    simp only [DenF] at h
    obtain ⟨v, r, rfl, h1, h2⟩ := h
    by_cases z : f = g
    · subst z
      rw [List.lookup_cons_self] at e ⊢
      cases e
      exact ⟨v, rfl, h1⟩
    · have zb : (f == g) = false := beq_eq_false_iff_ne.mpr z
      rw [List.lookup_cons, zb] at e ⊢
      exact denF_get h2 e
theorem denF_len : ∀ {fs : List (Str × D)} {gs : List (Str × V)}, DenF K M H fs gs → gs.length = fs.length
  | [], gs, h => by
    simp only [DenF] at h
    subst h
    rfl
  | (g, d') :: fs, gs, h => by
    simp only [DenF] at h
    obtain ⟨v, r, rfl, h1, h2⟩ := h
    rw [List.length_cons, List.length_cons, denF_len h2]
/-- a field at a new name -/
theorem denF_put {f : Str} {d : D} {v : V} (hd : Den K M H d v) : ∀ {fs : List (Str × D)} {gs : List (Str × V)}, DenF K M H fs gs → fs.lookup f = none → DenF K M H (fs ++ [(f, d)]) (putF f v gs)
  | [], gs, h, e => by
    simp only [DenF] at h
    subst h
    simp only [List.nil_append, putF, DenF]
    exact ⟨v, [], rfl, hd, rfl⟩
  | (g, d') :: fs, gs, h, e => by
    simp only [DenF] at h
    obtain ⟨u, r, rfl, h1, h2⟩ := h
    by_cases z : f = g
    · subst z
      rw [List.lookup_cons_self] at e
      cases e
    · have zb : (f == g) = false := beq_eq_false_iff_ne.mpr z
      rw [List.lookup_cons, zb] at e
      have h3 := denF_put hd h2 e
      simp only [List.cons_append, DenF]
      refine ⟨u, _, ?_, h1, h3⟩
      simp only [putF, if_neg (fun q : g = f => z q.symm)]
/-- an instance: handed over, or under way -/
def InsD (S : Sto) (d : D) (C : Addr) (fs : List (Str × D)) : Prop := d = .obj C fs ∨ ∃ a, d = .ref a ∧ S a = some (.ins C fs)
theorem insD_den {d : D} {C : Addr} {fs : List (Str × D)} {v : V} (r : StD K M H S) (h : Den K M H d v) (q : InsD S d C fs) : ∃ a dx gs, v = .ref a ∧ H a = some (.ins C dx gs) ∧ DenF K M H fs gs := by
  rcases q with rfl | ⟨a, rfl, e⟩
  · simp only [Den] at h
    obtain ⟨a, dx, gs, rfl, h1, _, h2⟩ := h
    exact ⟨a, dx, gs, rfl, h1, h2⟩
  · simp only [Den] at h
    subst h
    obtain ⟨dx, gs, h1, h2⟩ := r.ob a _ e
    exact ⟨a, dx, gs, rfl, h1, h2⟩
end
/-- e.f -/
def dFld (cs : List Addr) (f : Str) : D → Sto → QK → Prop := fun d S Q => ∃ C fs x, InsD S d C fs ∧ C ∈ cs ∧ fs.lookup f = some x ∧ Q x S
/-- o.f = v, f new -/
def wSetFld (cs : List Addr) (f : Str) (wv wo : WE) : WS := fun N E Γ S => wv Γ S (fun v S1 => wo Γ S1 (fun o S2 => ∃ p C fs, o = .ref p ∧ S2 p = some (.ins C fs) ∧ C ∈ cs ∧ fs.lookup f = none ∧ fs.length < 1000 ∧ N.nx Γ (S2.put p (.ins C (fs ++ [(f, v)])))) (EK.of E Γ)) (EK.of E Γ)
section
variable {X : Cx} {W : WX} {k : Nat} {pos pos' : Pos} {a o v : Expr} {wa wo wv : WE} {cs : List Addr} {f : Str}
theorem xa (hf : FldOk X.K cs f) (ha : SE X W a wa) (hb : attributeBase a f X.env (eval a X.env) = eval a X.env := by rfl) : SE X W (.Attribute a f pos) (wUn (dFld cs f) wa) := ⟨pe_imp (pe_fld ha.pe hb) fun σ H Q h => by
  obtain ⟨M, Γ, S, Q', E', r, e, h, oq, ox⟩ := h
  refine ⟨M, Γ, S, _, E', r, e, h, ?_, ox⟩
  rintro M1 S1 H1 t1 r1 d u hd ⟨C, fs, x, hi, hc, hl, hq⟩
  obtain ⟨ad, dx, gs, rfl, h1, h2⟩ := insD_den r1 hd hi
  obtain ⟨y, h3, h4⟩ := denF_get h2 hl
  exact ⟨ad, C, dx, gs, y, rfl, h1, (hf C hc).1, (hf C hc).2, h3, oq.at t1 |>.now r1 _ _ h4 hq⟩⟩
theorem ss_fld (hf : FldOk X.K cs f) (hv : SE X W v wv) (ho : SE X W o wo) (hs : swapsWith v (some (.Attribute o f pos')) pos.line X.env = pure false := by rfl) : SS X W (.Assign [.Attribute o f pos'] v pos) (wSetFld cs f wv wo) := ⟨ps_imp (ps_fld ho.pe hv.pe hs) fun D σ H h => by
  obtain ⟨M, Γ, S, D', E', r, e, h, od, ox⟩ := h
  refine ⟨M, Γ, S, _, _, r, e, h, ?_, okx_of r e ox⟩
  intro M1 S1 H1 t1 r1 d1 x1 hd1 hq1
  have e1 := envD_tr r t1 e
  refine ⟨M1, Γ, S1, _, _, r1, e1, hq1, ?_, okx_of r1 e1 (ox.at t1)⟩
  rintro M2 S2 H2 t2 r2 d2 x2 hd2 ⟨p, C, fs, rfl, hs2, hc, hn, hl, hq⟩
  have e2 := envD_tr r1 t2 e1
  simp only [Den] at hd2
  obtain ⟨dx, gs, g1, g2⟩ := r2.ob p _ hs2
  refine ⟨p, C, dx, gs, hd2, g1, (hf C hc).1, (hf C hc).2, by rw [denF_len g2]; exact hl, ?_⟩
  have t3 : Tr X.K M2 S2 H2 M2 (S2.put p (.ins C (fs ++ [(f, d1)]))) (upd H2 p (.ins C dx (putF f x1 gs))) := set_tr r2 hs2
  refine od.nx _ _ _ ((t1.trans t2).trans t3) (set_st r2 hs2 ⟨dx, _, upd_same, ?_⟩) Γ σ (envD_tr r2 t3 e2) hq
  exact denF_kp t3.keep _ _ (denF_put (den_tr r1 t2 _ _ hd1) g2 hn)⟩
end
end PL
end
/-! from PLI.lean -/
section
/-! PLI: isinstance where classes of the text stand. -/
namespace PL
open PySem PySem.Spec PyProof.Rows L2
variable [TabCtx]

/-- what isinstance tells of the text's classes: sub C C', whether C is C' or below it -/
structure IsiOk (K : PySem.W.Frag) (cs : List Addr) (sub : Addr → Addr → Bool) : Prop where
  kc : ∀ C ∈ cs, KcOk K C
  ct : ∀ C ∈ cs, ∀ T ∈ tyNames, PySem.W.kitOne K (.ref C) (.type T) = some false
  tc : ∀ C ∈ cs, ∀ t ∈ tyNames, PySem.W.kitOne K (.type t) (.ref C) = some false
  cc : ∀ C ∈ cs, ∀ C' ∈ cs, PySem.W.kitOne K (.ref C) (.ref C') = some (sub C C')
/-- isinstance(d, c) is b -/
def IsiD (cs : List Addr) (sub : Addr → Addr → Bool) (S : Sto) (d : D) (c : V) (b : Bool) : Prop := match c with
  | .ty T => T ∈ tyNames ∧ ((∃ t, TyD S d t ∧ b = isa t T) ∨ (∃ C fs, InsD S d C fs ∧ C ∈ cs ∧ b = false))
  | .ref C' => C' ∈ cs ∧ ((∃ t, TyD S d t ∧ b = false) ∨ (∃ C fs, InsD S d C fs ∧ C ∈ cs ∧ b = sub C C'))
  | _ => False
def rIsiC (cs : List Addr) (sub : Addr → Addr → Bool) : RC := fun ds S Q => ∃ d c b, ds = [d, .raw c] ∧ IsiD cs sub S d c b ∧ Q (.bl b) S
theorem tyX_ins {K : PySem.W.Frag} {M : Mu} {S : Sto} {H : Hp} {d : D} {v : V} {C : Addr} {fs : List (Str × D)} (r : StD K M H S) (h : Den K M H d v) (q : InsD S d C fs) (kc : KcOk K C) : TyX K H v (.ref C) := by
  obtain ⟨a, dx, gs, rfl, h1, _⟩ := insD_den r h q
  exact .base (.ins h1 kc.cls kc.ha kc.hn kc.htk kc.hm)
theorem oc_isiC {X : Cx} {cs : List Addr} {sub : Addr → Addr → Bool} (ok : IsiOk X.K cs sub) : OC X (.builtin "isinstance") (rIsiC cs sub) := oc_of call_isi fun M S H ds vs Q' Q r h1 hq oq => by
  obtain ⟨d, c, b, rfl, hi, hq⟩ := hq
  obtain ⟨v, u, rfl, hv, hu⟩ := denL_two h1
  simp only [Den] at hu
  subst hu
  have fin : Q (.bl b) H := oq.now r (.bl b) _ (by simp only [Den]) hq
  cases u with
  | ty T =>
    obtain ⟨hT, ⟨t, ht, rfl⟩ | ⟨C, fs, hi, hc, rfl⟩⟩ := hi
    · exact ⟨v, .ty T, .type t, .type T, isa t T, rfl, .ty T, tyX_den r hv ht, kit_ty (isa_kit t (tyD_mem ht) T hT), fin⟩
    · exact ⟨v, .ty T, .ref C, .type T, false, rfl, .ty T, tyX_ins r hv hi (ok.kc C hc), ok.ct C hc T hT, fin⟩
  | ref C' =>
    obtain ⟨hC, ⟨t, ht, rfl⟩ | ⟨C, fs, hi, hc, rfl⟩⟩ := hi
    · exact ⟨v, .ref C', .type t, .ref C', false, rfl, .own C', tyX_den r hv ht, ok.tc C' hC t (tyD_mem ht), fin⟩
    · exact ⟨v, .ref C', .ref C, .ref C', _, rfl, .own C', tyX_ins r hv hi (ok.kc C hc), ok.cc C hc C' hC, fin⟩
  | _ => exact hi.elim
/-- the same for a tuple of classes -/
def IsiL (cs : List Addr) (sub : Addr → Addr → Bool) (S : Sto) (d : D) : List V → Bool → Prop
  | [], b => b = false
  | c :: r, b => ∃ b1 b2, IsiD cs sub S d c b1 ∧ IsiL cs sub S d r b2 ∧ b = (b1 || b2)
end PL
end
/-! from PLU.lean -/
section
/-! PLU: dict comprehensions whose keys are tuples. -/
namespace PL
open PySem PySem.Spec PyProof.Rows L2
variable [TabCtx]

section
variable {X : Cx} {k : Nat}
/-- the new dict gets an entry -/
theorem nd_dictSet {pins : List (Addr × Obj)} {σ : L2.St} {H : Hp} {s : Shared} {E : Value → Shared → Prop} {Q : Unit → Shared → Prop} {a b : Addr} {es : List NE} {ep : Nat} {n : NestedKey} {v : V} {r : Value} (hu : X.A.units + 20 < cLine) (I : Inv X pins σ H s) (e : H a = some (ndH X.w a es ep)) (hk : KeysAt X.K H es) (kv : KeyV X.K H n (.ref b)) (kd : n.depth ≤ 8) (rv : RelV v r)
    (hl : es.length < sizeLine) (h : ∀ ep' s', Inv X pins σ (upd H a (ndH X.w a (putN es n b v) ep')) s' → Q () s') : wpAny (model X.prog X.w) X.A (dictSet a (.ref b) r) Q E s := by
  obtain ⟨hd, hz, xs, rel, dd⟩ := nd_of I e hk
  have nd := (nd_at I e).2.2.1
  refine wpAny_dictSet_heap (hsz := by rw [← Paired.length rel]; exact hz) (show X.A.units + 8 < cLine by omega) (key_is I kv kd) dd fun h' dd' hs => ?_
  obtain ⟨o, ds, ep', g1, g2, g3, g4, g5, g6⟩ := dd'
  refine h ep' _ (d_write I (by rw [e]; trivial) hs ⟨o, g1⟩ (ndH_ok ⟨hd, ?_, putN_nodup nd n b v, _, o, ds, put_rel rel rv, g1, g2, g3, g4⟩))
  have := putN_len es n b v
  omega
/-- the turns over the heap -/
def TurnsN (X : Cx) (J : It) (g : TG) (tt : TT) (tk tv : TE) (vs : List Nat) (σ : L2.St) (D : Addr) (Wp : Nat → Nat → Hp → Prop) (Q : VK) : Prop := ∀ i m H, Wp i m H →
  (J.stop i H ∧ Q (.ref D) H) ∨ (J.go i H ∧ ∃ Nx : Hp → Prop, (∀ H', Nx H' → ∃ m', m' < m ∧ Wp (i + 1) m' H') ∧ ∀ x H', J.yld i H x H' → g x (wipe σ vs) H' fun σ2 H2 => wipe σ2 vs = wipe σ vs ∧ tt σ2 H2 fun b H3 =>
    if b = true then tk σ2 H3 fun y H4 => tv σ2 H4 fun z H5 => ∃ es ep n b, H5 D = some (ndH X.w D es ep) ∧ KeysAt X.K H5 es ∧ KeyOk X.K H5 n y b ∧ es.length < sizeLine ∧ ∀ ep', Nx (upd H5 D (ndH X.w D (putN es n b z) ep')) else Nx H3)
def tDcN (X : Cx) (wi : TI) (g : TG) (tt : TT) (tk tv : TE) (vs : List Nat) : TE := fun σ H Q => wi σ H fun J H1 => ∀ D, H1 D = none → ∃ Wp : Nat → Nat → Hp → Prop, (∃ m, Wp 0 m (upd H1 D (ndH X.w D [] 0))) ∧ TurnsN X J g tt tk tv vs σ D Wp Q
theorem pe_dcN {kx vx tg iter : Expr} {ifs : List Expr} {scope : Scope} {own : List (Str × Nat)} {pos : Pos} {wi : TI} {g : TG} {tt : TT} {tk tv : TE} (hr : Room k X.A) (hc : X.calm = true) (hN : X.N.Nodup) (hi : PI X tg iter wi) (ok : BlkOk X.N X.env.scope scope own)
    (hg : ∀ (s : Shared) (H : Hp) (C : Addr) (cl : List (Str × Addr)) (fp : List Addr), PG (X.blk s H scope (compEnvC scope cl C X.env) fp) tg g) (ht : ∀ (s : Shared) (H : Hp) (C : Addr) (cl : List (Str × Addr)) (fp : List Addr), PTs (X.blk s H scope (compEnvC scope cl C X.env) fp) ifs tt)
    (hk : ∀ (s : Shared) (H : Hp) (C : Addr) (cl : List (Str × Addr)) (fp : List Addr), PE (X.blk s H scope (compEnvC scope cl C X.env) fp) kx tk)
    (he : ∀ (s : Shared) (H : Hp) (C : Addr) (cl : List (Str × Addr)) (fp : List Addr), PE (X.blk s H scope (compEnvC scope cl C X.env) fp) vx tv) (hs : ∀ x, foldedSetIterable iter X.env x = pure x := by intro _; rfl) :
    PE X (.DictComp kx vx [⟨tg, iter, ifs, 0⟩] scope pos) (tDcN X wi g tt tk tv (own.map (·.2))) := by
  refine ⟨fun pins s σ H Q I h => ?_⟩
  rw [arm_eval_DictComp]
  have cells : ∀ y ∈ scope.names, y.2 = .free → ∃ c, X.env.cells.lookup y.1 = some c := fun y hy e => (ok.free y hy e).elim (fun z => I.ok.has _ (.inl z)) fun z => I.ok.has _ (.inr z)
  refine wpAny_comprehension_free (use := none) rfl hs (closure_ok cells) ok.kind (fun y hy e => by rw [ok.uniq y hy, e]) (thn (hi.run pins s σ H _ I h) fun xv s1 hx => thn hx fun itv s2 h2 => ?_)
  obtain ⟨it, fp, tn, J, H2, rfl, I2, T, at2, free2, q⟩ := h2
  refine wpAny_newObj_type (newEnv_comp ?_)
  -- the new dict D
  obtain ⟨D, hD⟩ : ∃ D, D = s2.heap.objs.size := ⟨_, rfl⟩
  rw [← hD]
  have noD : H2 D = none := I2.hok.fresh (Nat.le_of_eq hD.symm)
  obtain ⟨Wp, ⟨m0, w0⟩, turn⟩ := q D noD
  obtain ⟨s3, hs3⟩ : ∃ z : Shared, z = { s2 with heap := s2.heap.push { cls := .type "dict", data := .dict #[] } } := ⟨_, rfl⟩
  have h3 : s3.heap = s2.heap.push { cls := .type "dict", data := .dict #[] } := by rw [hs3]
  obtain ⟨H3, hH3⟩ : ∃ z : Hp, z = upd H2 D (ndH X.w D [] 0) := ⟨_, rfl⟩
  have I3 : Inv X pins σ H3 s3 := by
    rw [hs3, hH3]
    refine I2.laid (t' := s2.toks) (fun b o e => Heap.get?_push_of_some _ e) (Nat.le_of_eq hD.symm) (ndH_ok ?_)
    rw [hD]
    exact nd_empty s2.heap I2.big
  have old : ∀ b ∈ fp, b < s2.heap.objs.size := fun b hb => let ⟨o, e, _⟩ := T.obj _ _ at2 b hb; Heap.lt_size e
  have free3 : ∀ b ∈ fp, FpOk X pins H3 b ∧ b < s3.heap.objs.size := fun b hb => by
    have lt := old b hb
    refine ⟨⟨?_, (free2 b hb).2⟩, by rw [h3, Heap.size_push]; exact Nat.lt_succ_of_lt lt⟩
    rw [hH3, upd_ne (by rw [hD]; exact Nat.ne_of_lt lt)]
    exact (free2 b hb).1
  have at3 : tn 0 s3.heap := T.keep _ _ _ at2 fun b _ o e => by rw [h3]; exact Heap.get?_push_of_some _ e
  have I4 := block_start I3 ok hN free3
  obtain ⟨ce, hce⟩ : ∃ z, z = compEnvC scope (cellsFrom (s3.heap.objs.size + 1) scope.names (cloFrom X.env.cells scope.names [])) s3.heap.objs.size X.env := ⟨_, rfl⟩
  have pg := hg s3 H3 s3.heap.objs.size (cellsFrom (s3.heap.objs.size + 1) scope.names (cloFrom X.env.cells scope.names [])) fp
  have pt := ht s3 H3 s3.heap.objs.size (cellsFrom (s3.heap.objs.size + 1) scope.names (cloFrom X.env.cells scope.names [])) fp
  have pk := hk s3 H3 s3.heap.objs.size (cellsFrom (s3.heap.objs.size + 1) scope.names (cloFrom X.env.cells scope.names [])) fp
  have pv := he s3 H3 s3.heap.objs.size (cellsFrom (s3.heap.objs.size + 1) scope.names (cloFrom X.env.cells scope.names [])) fp
  rw [← hce] at I4 pg pt pk pv
  have hloc : ce.locals = s3.heap.objs.size := by rw [hce]; rfl
  rw [← hs3]
  show codeAny _ _ (.compStart (.DictComp kx vx [⟨tg, iter, ifs, 0⟩] scope pos) 0 (.ref it) (.ref D) (compEnvC scope (cellsFrom (s3.heap.objs.size + 1) scope.names (cloFrom X.env.cells scope.names [])) s3.heap.objs.size X.env)) _ { s3 with heap := pushCells (s3.heap.push { cls := .type "dict", data := .dict #[] }) scope.names }
  rw [← hce]
  rw [← hH3] at w0
  obtain ⟨s4, hs4⟩ : ∃ z : Shared, z = { s3 with heap := pushCells (s3.heap.push { cls := .type "dict", data := .dict #[] }) scope.names } := ⟨_, rfl⟩
  rw [← hs4] at I4 ⊢
  have at4 : tn 0 s4.heap := T.keep _ _ _ at3 fun b _ o e => by rw [hs4]; exact pushCells_keeps _ _ _ _ (Heap.get?_push_of_some _ e)
  have stays : ∀ {σ' : L2.St} {H' : Hp} {s' : Shared}, Inv (X.blk s3 H3 scope ce fp) [] σ' H' s' → (∀ b ∈ fp, H' b = none) → ∀ b ∈ fp, FpOk (X.blk s3 H3 scope ce fp) [] H' b := fun {σ' H' s'} J' hn b hb =>
    ⟨hn b hb, (J'.ok.exf b hb).1, J'.ok.exfs b hb, .inl hb, fun x c e => (J'.ok.exf b hb).2 x c e, fun p hp => absurd (show p ∈ ([] : List (Addr × Obj)) ++ [] from hp) (by simp)⟩
  have loop : codeAny (model X.prog X.w) X.A (.compLoop (.DictComp kx vx [⟨tg, iter, ifs, 0⟩] scope pos) 0 (.ref it) (.ref D) ce) (compPost (model X.prog X.w) X.A X.xe none (EP X pins σ Q) (.ref D) s3.heap.objs.size) s4 := by
    refine compLoop_anyD (fun n s' => ∃ i H', Inv (X.blk s3 H3 scope ce fp) [] (wipe σ (own.map (·.2))) H' s' ∧ tn i s'.heap ∧ (∀ b ∈ fp, H' b = none) ∧ Wp i n H') ?_ m0 ⟨0, H3, I4, at4, fun b hb => (free3 b hb).1.1, w0⟩
    rintro n s5 ⟨i, H5, I5, at5, n5, w5⟩
    rcases turn i n H5 w5 with ⟨stop, qq⟩ | ⟨go, Nx, hNx, step⟩
    · refine thnF (T.done (X.blk s3 H3 scope ce fp) rfl rfl rfl hc i [] s5 _ H5 (fun _ _ => False) I5 (stays I5 n5) at5 stop) fun r s6 ⟨hr6, I6⟩ => ?_
      subst hr6
      have I7 : Inv X pins σ H5 s6 := I3.call' (ch := fp) I6.os I6.base I6.hok I6.bare fun b hb => ⟨(free3 b hb).1.2.2.2.1, (free3 b hb).1.2.1, (free3 b hb).1.2.2.2.2.1, (free3 b hb).1.2.2.2.2.2⟩
      have nC : H5 s3.heap.objs.size = none := by rw [← hloc]; exact I6.free
      obtain ⟨m, hn, _⟩ := I6.loc
      have hn2 : s6.heap.Ns s3.heap.objs.size m := by rw [← hloc]; exact hn
      obtain ⟨f0, f1, f2, f3, f4, f5⟩ := I3.fpOk (Nat.le_refl _) nC
      refine ⟨m, hn2, fun h'' sb => ⟨.ref D, H5, I7.turned (t' := s6.toks) (fun b o hb e => (sb.2 b hb).trans e) f0 f1 f3 f4 f5, rfl, qq⟩⟩
    · refine thnF (T.item (X.blk s3 H3 scope ce fp) rfl rfl rfl hc i [] s5 _ H5 (fun _ _ => False) I5 (stays I5 n5) at5 go) fun r s6 ⟨u, hr6, h6⟩ => ?_
      subst hr6
      refine thnF h6 fun _ s7 ⟨x, H7, I7, r7, y7, at7, n7⟩ => ?_
      refine thnF (pg.run _ s7 _ H7 x u _ (I7.pinned (stays I7 n7) (T.obj _ _ at7)) r7 (step x H7 y7)) fun _ s8 ⟨σ8, H8, I8, w8, q8⟩ => ?_
      refine thnF (pt.run _ s8 σ8 H8 _ I8 q8) fun b s9 ⟨H9, I9, q9⟩ => ?_
      have next : ∀ {s' : Shared} {H' : Hp}, Inv (X.blk s3 H3 scope ce fp) ([] ++ pinsAt fp s7.heap) σ8 H' s' → Nx H' → ∃ m, m < n ∧ ∃ i H', Inv (X.blk s3 H3 scope ce fp) [] (wipe σ (own.map (·.2))) H' s' ∧ tn i s'.heap ∧ (∀ b ∈ fp, H' b = none) ∧ Wp i m H' := fun {s' H'} J' nx => by
        obtain ⟨m', lt, w'⟩ := hNx H' nx
        have pinned : ∀ b ∈ fp, ∀ o, s7.heap.get? b = some o → s'.heap.get? b = some o ∧ H' b = none := fun b hb o e =>
          let z := J'.pin (b, o) (List.mem_append_right _ (List.mem_append_right _ (mem_pinsAt hb e)))
          ⟨z.1, z.2.1⟩
        refine ⟨m', lt, i + 1, H', (J'.unpinned (pins := [])).weak (by rw [← w8, wipe_length]) (fun j v e => ?_), T.keep _ _ _ at7 fun b hb o e => (pinned b hb o e).1, fun b hb => ?_, w'⟩
        · rw [← w8] at e
          exact (wipe_some e).1
        · obtain ⟨o, e, _⟩ := T.obj _ _ at7 b hb
          exact (pinned b hb o e).2
      cases b with
      | false =>
        simp only [Bool.false_eq_true, if_false] at q9 ⊢
        exact next I9 q9
      | true =>
        simp only [if_true] at q9 ⊢
        refine thnF (pk.run _ s9 σ8 H9 _ I9 q9) fun yv s10 ⟨yk, H10, I10, r10, q10⟩ => thnF (pv.run _ s10 σ8 H10 _ I10 q10) fun zv s11 ⟨z, H11, I11, r11, es, ep, nk, b, e1, e2, ⟨e3, e4, e5⟩, e6, nx⟩ => ?_
        subst e3
        obtain rfl : yv = Value.ref b := r10
        exact nd_dictSet (X := X.blk s3 H3 scope ce fp) (by have := hr.un; exact (by omega : X.A.units + 20 < cLine)) I11 e1 e2 e4 e5 r11 e6 fun ep' s12 I12 => next I12 (nx ep')
  exact codeAny_compStart_dict loop (T.self X.A 0 _ _ _ at4 loop)
end
end PL
end
/-! from PLV.lean -/
section
/-! PLV: dict comprehensions over data; dicts walked, asked, made. -/
namespace PL
open PySem PySem.Spec PyProof.Rows L2
variable [TabCtx]

theorem setN_len (kvs : List (NestedKey × D)) (k : NestedKey) (d : D) : (setN kvs k d).length ≤ kvs.length + 1 := by
  unfold setN
  split
  · rw [List.length_map]; omega
  · rw [List.length_append, List.length_singleton]; omega
/-- the turns of a dict comprehension -/
def wDcGo (g : WG) (wt : WT) (wk we : WE) (stay : Sto → Prop) (Γ0 : Gm) (Q : List (NestedKey × D) → Sto → Prop) : List D → List (NestedKey × D) → Sto → Prop
  | [], acc, S => Q acc S
  | x :: r, acc, S => stay S ∧ g x Γ0 S fun Γ1 S1 => wt Γ1 S1 (fun b S2 => if b = true then wk Γ1 S2 (fun y S3 => we Γ1 S3 (fun z S4 => ∃ n, IsKey y n ∧ wDcGo g wt wk we stay Γ0 Q r (setN acc n z) S4) (fun _ _ _ => False)) (fun _ _ _ => False) else wDcGo g wt wk we stay Γ0 Q r acc S2) (fun _ _ _ => False)
def wDcM (w : World) (wi : WI) (g : WG) (wt : WT) (wk we : WE) (vs : List Nat) : WE := fun Γ S Q E => wi Γ S (fun xs stay S1 => xs.length ≤ sizeLine ∧ wDcGo g wt wk we stay (wipeG Γ vs) (fun acc S2 => stay S2 ∧ ∀ p ep, S2 p = none → Q (.ref p) (S2.put p (.dcn w acc ep))) xs [] S1) E
section
variable {X : Cx} {W : WX} {k : Nat} {wi : WI} {g : WG} {wt : WT} {wk we : WE} {vs us : List Nat} {σ : L2.St} {H : Hp} {Q : VK}
theorem dc_mut (hu : ∀ j ∈ us, j ∈ vs) (h : liftE X.K W (wDcM X.w wi g wt wk we vs) σ H Q) : tDcN X (liftI X.K W wi) (liftG X.K us g) (liftT X.K W0 wt) (liftE X.K W0 wk) (liftE X.K W0 we) vs σ H Q := by
  obtain ⟨M, Γ, S, Q', E', r, e, h, oq, ox⟩ := h
  refine ⟨M, Γ, S, _, E', r, e, h, ?_, ox⟩
  rintro M1 S1 H1 t1 r1 xs stay ⟨hl, hgo⟩ J hJ p hp
  let At : Nat → Hp → Prop := fun i H' => ∃ M' S' acc es ep, Tr X.K M1 S1 H1 M' S' H' ∧ StD X.K M' H' S' ∧ M' p ∧ S' p = none ∧ H' p = some (ndH X.w p es ep) ∧ DenN X.K M' H' acc es ∧ acc.length ≤ i ∧
    wDcGo g wt wk we stay (wipeG Γ vs) (fun acc S2 => stay S2 ∧ ∀ p ep, S2 p = none → Q' (.ref p) (S2.put p (.dcn X.w acc ep))) (xs.drop i) acc S'
  have ne1 : ∀ a o, H1 a = some o → a ≠ p := fun a o q => ne_of_none q hp
  refine ⟨fun i m H' => m = xs.length - i ∧ i ≤ xs.length ∧ At i H', ⟨xs.length, by omega, Nat.zero_le _, M1.add p, S1, [], [], 0, ?_, ?_, .inr rfl, new_no r1 hp, upd_same, by simp only [DenN], Nat.le_refl _, by rw [List.drop_zero]; exact hgo⟩, ?_⟩
  · exact ⟨fun a o q n => ⟨by rw [upd_ne (ne1 a o q)]; exact q, fun z => z.elim n (ne1 a o q)⟩, fun a o q m n _ => ⟨by rw [upd_ne (ne1 a o q)]; exact q, .inl m, n⟩⟩
  · have kp : Kp M1 H1 (M1.add p) (upd H1 p (ndH X.w p [] 0)) := fun a o q n => ⟨by rw [upd_ne (ne1 a o q)]; exact q, fun z => z.elim n (ne1 a o q)⟩
    refine ⟨fun a x hx => obD_kp kp (r1.ob a x hx) (upd_ne fun z => ?_), fun a hx => .inl (r1.mu a hx), fun a ha => ?_, r1.tab.gen (fun a o _ e n => kp _ _ e n) (fun P o ht e m n => ⟨by rw [upd_ne (ne1 _ _ e)]; exact e, n, fun _ => .inl m⟩)⟩
    · subst z
      exact r1.tr a (r1.mu a (by rw [hx]; simp)) hp
    · by_cases z : a = p
      · rw [z, upd_same]
        simp
      · rw [upd_ne z]
        exact r1.tr a (ha.resolve_right z)
  rintro i m H2 ⟨rfl, hi, M2, S2, acc, es2, ep2, t2, r2, mp, sp, hp2, hd2, hacc, hgo2⟩
  by_cases hlt : i < xs.length
  · rw [List.drop_eq_getElem_cons hlt] at hgo2
    obtain ⟨hst, hg⟩ := hgo2
    obtain ⟨j1, j2, j3⟩ := hJ M2 S2 H2 t2 r2 hst
    refine .inr ⟨j1 i hlt, At (i + 1), fun H' h' => ⟨xs.length - (i + 1), by omega, rfl, hlt, h'⟩, fun x H3 hy => ?_⟩
    obtain ⟨t3, r3, d3⟩ := j3 i xs[i] x H3 (List.getElem?_eq_getElem hlt) hy
    refine ⟨M2, wipeG Γ vs, S2, xs[i], _, r3, envD_wipe (envD_tr r2 t3 (envD_tr r1 t2 (envD_tr r t1 e))) vs, d3, hg, ?_⟩
    intro M4 S4 H4 t4 r4 Γ4 σ4 e4 b4 h4
    refine ⟨wipe_but b4 hu, M4, Γ4, S4, _, _, r4, e4, h4, ?_, okx0⟩
    intro M5 S5 H5 t5 r5 b hb
    have t25 := (t3.trans t4).trans t5
    cases b with
    | false =>
      obtain ⟨q1, q2, q3⟩ := t25.forn p _ hp2 mp sp (fun ps => ndH_ne)
      exact ⟨M5, S5, acc, es2, ep2, t2.trans t25, r5, q2, q3, q1, denN_kp t25.keep _ _ hd2, Nat.le_succ_of_le hacc, hb⟩
    | true =>
      refine ⟨M5, Γ4, S5, _, _, r5, envD_tr r4 t5 e4, hb, ?_, okx0⟩
      intro M6 S6 H6 t6 r6 y vy hy hq
      refine ⟨M6, Γ4, S6, _, _, r6, envD_tr r5 t6 (envD_tr r4 t5 e4), hq, ?_, okx0⟩
      rintro M7 S7 H7 t7 r7 z vz hz ⟨n, hn, hq⟩
      have t27 := (t25.trans t6).trans t7
      obtain ⟨q1, q2, q3⟩ := t27.forn p _ hp2 mp sp (fun ps => ndH_ne)
      have d7 := denN_kp t27.keep _ _ hd2
      have el := denN_len d7
      obtain ⟨b, eb, k1, k2⟩ := hn.den (den_tr r6 t7 _ _ hy)
      refine ⟨es2, ep2, n, b, q1, denN_keys d7, ⟨eb, k2, hn.dep⟩, by omega, fun ep' => ?_⟩
      have kp : Kp M7 H7 M7 (upd H7 p (ndH X.w p (putN es2 n b vz) ep')) := fun a o q n => ⟨by rw [upd_ne (fun z => n (by rw [z]; exact q2))]; exact q, n⟩
      have t := t2.trans t27
      refine ⟨M7, S7, setN acc n z, putN es2 n b vz, ep', ?_, ?_, q2, q3, upd_same, denN_kp kp _ _ (denN_put d7 ⟨k1, hn.dep⟩ hz), ?_, hq⟩
      · exact ⟨fun a o q n => ⟨by rw [upd_ne (ne1 a o q)]; exact (t.keep a o q n).1, (t.keep a o q n).2⟩, fun a o q m n y => ⟨by rw [upd_ne (ne1 a o q)]; exact (t.forn a o q m n y).1, (t.forn a o q m n y).2⟩⟩
      · refine ⟨fun a x hx => obD_kp kp (r7.ob a x hx) (upd_ne fun z => ?_), r7.mu, fun a ha => ?_, r7.tab.gen (fun a o _ e n => kp _ _ e n) (fun P o ht e m n => ⟨by rw [upd_ne (neT nd_nT q1 ht e)]; exact e, n, fun _ => m⟩)⟩
        · rw [z, q3] at hx
          cases hx
        · by_cases z : a = p
          · rw [z, upd_same]
            simp
          · rw [upd_ne z]
            exact r7.tr a ha
      · have := setN_len acc n z
        omega
  · have ei : i = xs.length := by omega
    subst ei
    rw [List.drop_length] at hgo2
    obtain ⟨hst, hq⟩ := hgo2
    obtain ⟨j1, j2, j3⟩ := hJ M2 S2 H2 t2 r2 hst
    refine .inl ⟨j2 _ (Nat.le_refl _), ?_⟩
    have t := t1.trans t2
    refine oq M2 (S2.put p (.dcn X.w acc ep2)) H2 ⟨t.keep, fun a o q m n y => ?_⟩ ⟨fun a x hx => ?_, fun a hx => ?_, r2.tr, r2.tab.gen (fun a o _ e n => ⟨e, n⟩) (fun P o ht e m n => ⟨e, by rw [Sto.put_ne (neT nd_nT hp2 ht e)]; exact n, fun _ => m⟩)⟩ (.ref p) (.ref p) (by simp only [Den]) (hq p ep2 sp)
    · obtain ⟨f1, f2, f3⟩ := t1.forn a o q m n y
      exact ⟨(t.forn a o q m n y).1, (t.forn a o q m n y).2.1, by rw [Sto.put_ne (ne1 a o f1)]; exact (t.forn a o q m n y).2.2⟩
    · by_cases z : a = p
      · subst z
        rw [Sto.put_same] at hx
        cases hx
        exact ⟨es2, hp2, hd2⟩
      · rw [Sto.put_ne z] at hx
        exact r2.ob a x hx
    · by_cases z : a = p
      · rw [z]
        exact mp
      · rw [Sto.put_ne z] at hx
        exact r2.mu a hx
theorem se_dcM {kx vx tg iter : Expr} {pos : Pos} {scope : Scope} {own : List (Str × Nat)} {ifs : List Expr} (hr : Room k X.A) (hc : X.calm = true) (hN : X.N.Nodup) (hi : SI X W tg iter wi) (ok : BlkOk X.N X.env.scope scope own) (hu : ∀ j ∈ us, j ∈ own.map (·.2))
    (hg : ∀ (s : Shared) (H : Hp) (C : Addr) (cl : List (Str × Addr)) (fp : List Addr), SG (X.blk s H scope (compEnvC scope cl C X.env) fp) tg us g) (ht : ∀ (s : Shared) (H : Hp) (C : Addr) (cl : List (Str × Addr)) (fp : List Addr), STs (X.blk s H scope (compEnvC scope cl C X.env) fp) W0 ifs wt)
    (hk : ∀ (s : Shared) (H : Hp) (C : Addr) (cl : List (Str × Addr)) (fp : List Addr), SE (X.blk s H scope (compEnvC scope cl C X.env) fp) W0 kx wk)
    (he : ∀ (s : Shared) (H : Hp) (C : Addr) (cl : List (Str × Addr)) (fp : List Addr), SE (X.blk s H scope (compEnvC scope cl C X.env) fp) W0 vx we) (hs : ∀ x, foldedSetIterable iter X.env x = pure x := by intro _; rfl) :
    SE X W (.DictComp kx vx [⟨tg, iter, ifs, 0⟩] scope pos) (wDcM X.w wi g wt wk we (own.map (·.2))) :=
  ⟨pe_imp (pe_dcN hr hc hN hi.pi ok (fun s H C cl fp => (hg s H C cl fp).pg) (fun s H C cl fp => (ht s H C cl fp).pt) (fun s H C cl fp => (hk s H C cl fp).pe) (fun s H C cl fp => (he s H C cl fp).pe) hs) fun _ _ _ h => dc_mut hu h⟩
end
end PL
end
/-! from PLX.lean -/
section
/-! PLX: dicts with nested keys: {}, {k: v}, d.get(k, x), the walk over the keys. -/
namespace PL
open PySem PySem.Spec PyProof.Rows L2
variable [TabCtx]

section
variable {X : Cx} {W : WX} {k : Nat} {pos apos cpos : Pos} {o i v e f tg : Expr} {wo wi wv we wf : WE}
/-- {} -/
def wNNew (w : World) : WE := fun _ S Q _ => ∀ p ep, S p = none → Q (.ref p) (S.put p (.dcn w [] ep))
theorem se_nnew : SE X W (.Dict [] [] pos) (wNNew X.w) := ⟨pe_imp pe_nnew fun σ H Q h => by
  obtain ⟨M, Γ, S, Q', E', r, en, hq, oq, ox⟩ := h
  intro p ep hp
  refine oq _ _ _ (add_tr hp (.dcn X.w [] ep)) (add_st r hp ⟨[], upd_same, by simp only [DenN]⟩) _ _ ?_ (hq p ep (new_no r hp))
  simp only [Den]⟩
/-- d.get(k, x) -/
def wNGet2 (w : World) (wo wi wv : WE) : WE := fun Γ S Q E => wo Γ S (fun d S1 => (∃ kvs, DctN w S1 d kvs) ∧ wi Γ S1 (fun y S2 => wv Γ S2 (fun z S3 => ∃ kvs n, DctN w S3 d kvs ∧ IsKey y n ∧ Q ((lookN kvs n).getD z) S3) E) E) E
theorem se_nget2 (hr : Room k X.A) (ho : SE X W o wo) (hi : SE X W i wi) (hv : SE X W v wv) (hbase : attributeBase o "get" X.env (eval o X.env) = eval o X.env := by rfl)
    (hfew : ((backTo cpos (starEach [i, v] X.env)).all (fun x => !x.1) && (backToKw cpos (keywordEach [] X.env)).all (fun x => x.1.isSome)
      && decide (([i, v] : List Expr).length + ([] : List Keyword).length + (if ([] : List Keyword).isEmpty then 0 else 1) < 30)) = true := by rfl)
    (hline : (apos.endLine == cpos.line) = true := by rfl) (htr : backTo cpos (starEach [i, v] X.env) = [(false, eval i X.env), (false, eval v X.env)] := by rfl) :
    SE X W (.Call (.Attribute o "get" apos) [i, v] [] cpos) (wNGet2 X.w wo wi wv) := ⟨pe_imp (pe_nget2 hr ho.pe hi.pe hv.pe ⟨hbase, hfew, hline, htr⟩) fun σ H Q h => by
  obtain ⟨M, Γ, S, Q', E', r, en, h, oq, ox⟩ := h
  refine ⟨M, Γ, S, _, E', r, en, h, ?_, ox⟩
  rintro M1 S1 H1 t1 r1 d x hd ⟨⟨kvs0, hd0⟩, hq⟩
  obtain ⟨a, es, ep, rfl, g1, _, _⟩ := dctN_den r1 hd hd0
  refine ⟨a, rfl, ⟨es, ep, g1⟩, M1, Γ, S1, _, E', r1, envD_tr r t1 en, hq, ?_, ox.at t1⟩
  intro M2 S2 H2 t2 r2 y yv hy hq2
  refine ⟨M2, Γ, S2, _, E', r2, envD_tr r1 t2 (envD_tr r t1 en), hq2, ?_, ox.at (t1.trans t2)⟩
  rintro M3 S3 H3 t3 r3 z zv hz ⟨kvs, n, hd3, hk, hq3⟩
  obtain ⟨a', es', ep', ea, g2, g3, _⟩ := dctN_den r3 (den_tr r1 (t2.trans t3) _ _ hd) hd3
  cases ea
  obtain ⟨b, eb, k1, k2⟩ := hk.den (den_tr r2 t3 _ _ hy)
  refine ⟨es', ep', n, b, g2, denN_keys g3, ⟨eb, k2, hk.dep⟩, ?_⟩
  have fin := (oq.at ((t1.trans t2).trans t3)).now r3
  rcases denN_get (k := n) g3 with ⟨q1, q2⟩ | ⟨d2, v2, q1, q2, q3⟩
  · rw [q1] at hq3
    rw [q2]
    exact fin _ _ hz hq3
  · rw [q1] at hq3
    rw [q2]
    exact fin _ _ q3 hq3⟩
/-- for k in d -/
def wiN (w : World) (wo : WE) : WI := fun Γ S Q E => wo Γ S (fun d S1 => ∃ kvs, DctN w S1 d kvs ∧ Q (kvs.map fun p => keyD p.1) (fun S' => match d with
  | .ref a => ∃ ep, S1 a = some (.dcn w kvs ep) ∧ S' a = some (.dcn w kvs ep)
  | _ => True) S1) E
theorem si_nkeys (ho : SE X W o wo) : SI X W tg o (wiN X.w wo) := ⟨pi_imp (pi_nkeys ho.pe) fun σ H R h => by
  obtain ⟨M, Γ, S, Q', E', r, e, h, oq, ox⟩ := h
  refine ⟨M, Γ, S, _, E', r, e, h, ?_, ox⟩
  rintro M1 S1 H1 t1 r1 d v hd ⟨kvs, hk, hq⟩
  obtain ⟨a, es, ep, rfl, g1, g2, g3⟩ := dctN_den r1 hd hk
  have el := denN_len g2
  refine ⟨a, es, ep, rfl, g1, oq M1 S1 H1 t1 r1 _ _ hq _ ?_⟩
  intro M2 S2 H2 t2 r2 h2
  obtain ⟨es', f1, f2⟩ : ∃ es', H2 a = some (ndH X.w a es' ep) ∧ DenN X.K M2 H2 kvs es' := by
    rcases g3 with ⟨rfl, nm⟩ | ⟨rfl, hs⟩
    · exact ⟨es, (t2.keep a _ g1 nm).1, denN_kp t2.keep _ _ g2⟩
    · obtain ⟨ep', s1, s2⟩ := h2
      rw [hs] at s1
      cases s1
      exact r2.ob a _ s2
  have el' := denN_len f2
  rw [List.length_map]
  refine ⟨fun i hi => ⟨⟨es', f1, by omega⟩, by omega⟩, fun i hi => ⟨⟨es', f1, by omega⟩, by omega⟩, fun i x y H3 hx hy => ?_⟩
  obtain ⟨rfl, hy⟩ := hy
  obtain ⟨p, hp, rfl⟩ := hy es' f1
  obtain ⟨d', k1, k2, _⟩ := denN_nth f2 hp
  rw [List.getElem?_map, k1] at hx
  cases hx
  exact ⟨Tr.refl, r2, key_den _ _ k2⟩⟩
end
end PL
end
/-! from PLY.lean -/
section
/-! PLY: {k: v}; dict(pairs). -/
namespace PL
open PySem PySem.Spec PyProof.Rows L2
variable [TabCtx]

section
variable {X : Cx} {W : WX} {k : Nat} {pos : Pos} {i v : Expr} {ti tv : TE} {wi wv : WE}
/-- {k: v} -/
def tND1 (X : Cx) (ti tv : TE) : TE := fun σ H Q => ∀ D, H D = none → ti σ (upd H D (ndH X.w D [] 0)) fun y H1 => tv σ H1 fun z H2 => ∃ n b, H2 D = some (ndH X.w D [] 0) ∧ KeyOk X.K H2 n y b ∧ ∀ ep', Q (.ref D) (upd H2 D (ndH X.w D [(n, b, z)] ep'))
theorem pe_nd1 (hr : Room k X.A) (hi : PE X i ti) (hv : PE X v tv) : PE X (.Dict [some i] [v] pos) (tND1 X ti tv) := by
  refine ⟨fun pins s σ H Q I h => ?_⟩
  refine wpAny_Dict_any rfl rfl (by simp) (by simp) ?_
  have I3 : Inv X pins σ (upd H s.heap.objs.size (ndH X.w s.heap.objs.size [] 0)) { s with heap := s.heap.push { cls := .type "dict", data := .dict #[] } } :=
    I.laid (t' := s.toks) (fun b o e => Heap.get?_push_of_some _ e) (Nat.le_refl _) (ndH_ok (nd_empty s.heap I.big))
  refine evalPairs_cons (thn (hi.run pins _ σ _ _ I3 (h _ (I.hok.fresh (Nat.le_refl _)))) fun yv s1 ⟨y, H1, I1, ry, q1⟩ => wpAny_bind (thn (hv.run pins s1 σ H1 _ I1 q1) fun zv s2 ⟨z, H2, I2, rz, n, b, e1, ⟨e2, e3, e4⟩, q2⟩ => wpAny_bind (wpAny_standAt (wpAny_pure ?_))))
  subst e2
  obtain rfl : yv = Value.ref b := ry
  refine evalPairs_nil ?_
  show wpAny (model X.prog X.w) X.A (forIn [(Value.ref b, zv)] PUnit.unit _) _ _ _
  rw [List.forIn_cons]
  refine wpAny_bind (wpAny_bind ?_)
  refine nd_dictSet (by have := hr.un; omega) I2 e1 (fun p hp => by cases hp) e3 e4 rz (by decide) fun ep' s4 I4 => wpAny_pure ?_
  show wpAny _ _ (forIn [] PUnit.unit _) _ _ _
  rw [List.forIn_nil]
  exact wpAny_pure ⟨.ref s.heap.objs.size, _, I4, rfl, q2 ep'⟩
def wND1 (w : World) (wi wv : WE) : WE := fun Γ S Q E => wi Γ S (fun y S1 => wv Γ S1 (fun z S2 => ∃ n, IsKey y n ∧ ∀ p ep, S2 p = none → Q (.ref p) (S2.put p (.dcn w [(n, z)] ep))) E) E
theorem se_nd1 (hr : Room k X.A) (hi : SE X W i wi) (hv : SE X W v wv) : SE X W (.Dict [some i] [v] pos) (wND1 X.w wi wv) := ⟨pe_imp (pe_nd1 hr hi.pe hv.pe) fun σ H Q h => by
  obtain ⟨M, Γ, S, Q', E', r, en, h, oq, ox⟩ := h
  intro p hp
  have ne1 : ∀ a o, H a = some o → a ≠ p := fun a o q => ne_of_none q hp
  -- the new dict stands, and is nobody's
  have t00 : Tr0 X.K M S H (M.add p) S (upd H p (ndH X.w p [] 0)) := ⟨fun a o q n => ⟨by rw [upd_ne (ne1 a o q)]; exact q, fun z => z.elim n (ne1 a o q)⟩, fun a o q m n => ⟨by rw [upd_ne (ne1 a o q)]; exact q, .inl m, n⟩⟩
  have t0 := t00.weak
  have r0 : StD X.K (M.add p) (upd H p (ndH X.w p [] 0)) S := by
    refine ⟨fun a x hx => obD_kp t0.keep (r.ob a x hx) (upd_ne fun z => ?_), fun a hx => .inl (r.mu a hx), fun a ha => ?_, r.tab.step t00⟩
    · subst z
      exact r.tr a (r.mu a (by rw [hx]; simp)) hp
    · by_cases z : a = p
      · rw [z, upd_same]
        simp
      · rw [upd_ne z]
        exact r.tr a (ha.resolve_right z)
  refine ⟨M.add p, Γ, S, _, E', r0, envD_tr r t0 en, h, ?_, ox.at t0⟩
  intro M1 S1 H1 t1 r1 y yv hy hq
  refine ⟨M1, Γ, S1, _, E', r1, envD_tr r0 t1 (envD_tr r t0 en), hq, ?_, ox.at (t0.trans t1)⟩
  rintro M2 S2 H2 t2 r2 z zv hz ⟨n, hn, hq⟩
  have t12 := t1.trans t2
  obtain ⟨q1, q2, q3⟩ := t12.forn p _ upd_same (.inr rfl) (new_no r hp) (fun ps => ndH_ne)
  obtain ⟨b, eb, k1, k2⟩ := hn.den (den_tr r1 t2 _ _ hy)
  refine ⟨n, b, q1, ⟨eb, k2, hn.dep⟩, fun ep' => ?_⟩
  have kp : Kp M2 H2 M2 (upd H2 p (ndH X.w p [(n, b, zv)] ep')) := fun a o q m => ⟨by rw [upd_ne (fun z => m (by rw [z]; exact q2))]; exact q, m⟩
  have t := t0.trans t12
  refine oq M2 (S2.put p (.dcn X.w [(n, z)] ep')) (upd H2 p (ndH X.w p [(n, b, zv)] ep')) ⟨fun a o q m => ⟨by rw [upd_ne (ne1 a o q)]; exact (t.keep a o q m).1, (t.keep a o q m).2⟩, fun a o q m n y => ⟨by rw [upd_ne (ne1 a o q)]; exact (t.forn a o q m n y).1, (t.forn a o q m n y).2.1, by rw [Sto.put_ne (ne1 a o q)]; exact (t.forn a o q m n y).2.2⟩⟩ ⟨fun a x hx => ?_, fun a hx => ?_, fun a ha => ?_, r2.tab.gen (fun a o _ e n => kp _ _ e n) (fun P o ht e m n => ⟨by rw [upd_ne (neT nd_nT q1 ht e)]; exact e, by rw [Sto.put_ne (neT nd_nT q1 ht e)]; exact n, fun _ => m⟩)⟩ (.ref p) (.ref p) (by simp only [Den]) (hq p ep' q3)
  · by_cases z' : a = p
    · subst z'
      rw [Sto.put_same] at hx
      cases hx
      refine ⟨_, upd_same, ?_⟩
      simp only [DenN]
      exact ⟨b, zv, [], rfl, ⟨keyD_kp kp _ _ k1, hn.dep⟩, den_kp kp _ _ hz, rfl⟩
    · rw [Sto.put_ne z'] at hx
      exact obD_kp kp (r2.ob a x hx) (upd_ne z')
  · by_cases z' : a = p
    · rw [z']
      exact q2
    · rw [Sto.put_ne z'] at hx
      exact r2.mu a hx
  · by_cases z' : a = p
    · rw [z', upd_same]
      simp
    · rw [upd_ne z']
      exact r2.tr a ha⟩
end
end PL
end
/-! from PLZ.lean -/
section
/-! PLZ: dict(pairs) whose keys are tuples. -/
namespace PL
open PySem PySem.Spec PyProof.Rows L2
variable [TabCtx]

def mergeN (acc : List NE) (es : List NE) : List NE := es.foldl (fun acc e => putN acc e.1 e.2.1 e.2.2) acc
def mergeD (acc kvs : List (NestedKey × D)) : List (NestedKey × D) := kvs.foldl (fun acc p => setN acc p.1 p.2) acc
theorem mergeN_rel : ∀ {es : List NE} {xs : List NX} {acc : List NE} {ac : List NX}, Paired RelE es xs → Paired RelE acc ac → Paired RelE (mergeN acc es) (storedAllH ac xs)
  | [], _, _, _, .nil, h => h
  | e :: es, x :: xs, acc, ac, .cons r t, h => by
    obtain ⟨r1, r2, r3⟩ := r
    have := put_rel (k := e.1) (b := e.2.1) h r3
    rw [r1, r2] at this
    show Paired RelE (mergeN (putN acc e.1 e.2.1 e.2.2) es) (storedAllH (storedH ac x.1 x.2.1 x.2.2) xs)
    rw [r1, r2]
    exact mergeN_rel t this
theorem mergeN_len : ∀ (es acc : List NE), (mergeN acc es).length ≤ acc.length + es.length
  | [], acc => by simp [mergeN]
  | e :: es, acc => by
    have h1 := mergeN_len es (putN acc e.1 e.2.1 e.2.2)
    have h2 := putN_len acc e.1 e.2.1 e.2.2
    rw [List.length_cons]
    show (mergeN (putN acc e.1 e.2.1 e.2.2) es).length ≤ _
    omega
theorem mergeN_nodup : ∀ (es acc : List NE), (acc.map (·.1)).Nodup → ((mergeN acc es).map (·.1)).Nodup
  | [], acc, h => h
  | e :: es, acc, h => mergeN_nodup es _ (putN_nodup h e.1 e.2.1 e.2.2)
section
variable {X : Cx} {k : Nat}
/-- pairs as they stand -/
theorem nd_pairs {pins : List (Addr × Obj)} {σ : L2.St} {H : Hp} {s : Shared} (I : Inv X pins σ H s) : ∀ {ps : List Addr} {es : List NE}, Paired (fun p e => SqT X.K H p [.ref e.2.1, e.2.2] ∧ KeyV X.K H e.1 (.ref e.2.1) ∧ e.1.depth ≤ 8) ps es →
    ∃ xs : List NX, Paired RelE es xs ∧ ps.length = xs.length ∧ (∀ x ∈ xs, (nestedKind X.prog X.w).is s.heap x.1 x.2.1) ∧ ∀ (j : Nat) (x : NX), xs[j]? = some x → ∃ p, ps[j]? = some p ∧ s.heap.IsTuple p #[.ref x.2.1, x.2.2]
  | _, _, .nil => ⟨[], .nil, rfl, (fun x h => by cases h), fun j x e => by cases e⟩
  | p :: ps, e :: es, .cons ⟨h1, h2, h3⟩ t => by
    obtain ⟨xs, r, hl, hk, hp⟩ := nd_pairs I t
    obtain ⟨its, rv, ht, _⟩ := I.tuple h1
    obtain ⟨u, y, rfl, ru, ry⟩ := vals2 rv
    obtain rfl : u = Value.ref e.2.1 := ru
    refine ⟨(e.1, e.2.1, y) :: xs, .cons ⟨rfl, rfl, ry⟩ r, by rw [List.length_cons, List.length_cons, hl], fun x hx => ?_, fun j x hj => ?_⟩
    · rcases List.mem_cons.mp hx with rfl | hx
      · exact key_is I h2 h3
      · exact hk x hx
    · cases j with
      | zero =>
        cases hj
        exact ⟨p, rfl, ht⟩
      | succ j => exact hp j x hj
theorem call_dictN (hr : Room k X.A) (hc : X.calm = true) : CallR X (.type "dict") (fun xs H Q => ∃ (a : Addr) (ps : List Addr) (es : List NE), xs = [.ref a] ∧ SqL X.K H a (ps.map V.ref) ∧ Paired (fun p e => SqT X.K H p [.ref e.2.1, e.2.2] ∧ KeyV X.K H e.1 (.ref e.2.1) ∧ e.1.depth ≤ 8) ps es ∧
    ∀ p ep, H p = none → Q (.ref p) (upd H p (ndH X.w p (mergeN [] es) ep))) := by
  intro pins s σ H xs us Q I r q
  obtain ⟨a, ps, es, rfl, hq, hp, q⟩ := q
  obtain ⟨u, rfl, rx⟩ := vals1 r
  obtain rfl : u = Value.ref a := rx
  obtain ⟨its, rv, ⟨o, n, ho, hcl, hd, hdat⟩, hz⟩ := I.list hq
  have ei := refs_at rv
  subst ei
  rw [List.length_map] at hz
  obtain ⟨xs, rel, hl, hk, hpr⟩ := nd_pairs I hp
  have P := PairArg.list (prog := X.prog) (w := X.w) a (ps.map Value.ref).toArray (fun j => ps.getD j 0) (xs.map fun x => (Value.ref x.2.1, x.2.2))
  refine call_dict_pairsH (knd := nestedKind X.prog X.w) (ps := xs) P (I.ok.hd hc) (show X.A.in1.in1.units + 8 < cLine by show X.A.units + 1 + 1 + 8 < _; have := hr.un; omega) ⟨⟨o, n, ho, hcl, hd, hdat⟩, by simp [hl], fun j key v e => ?_⟩ ⟨by simp, fun j key v e => ?_⟩ (fun h' hk' x hx => nestedKind_stays.stays (fun b o vs n e _ => hk' b o (Nat.ne_of_lt (Heap.lt_size e)) (by simp) e) (hk x hx)) (by simpa [← hl] using hz) fun h' tk hd' hk' => ?_
  · rw [List.getElem?_map] at e
    cases hx : xs[j]? with
    | none => rw [hx] at e; cases e
    | some x =>
      rw [hx] at e
      cases e
      obtain ⟨p, e1, e2⟩ := hpr j x hx
      refine ⟨by simp [e1], .inl ?_⟩
      simpa [List.getD, e1] using e2
  · have e' : (xs.map fun x => (Value.ref x.2.1, x.2.2))[j]? = some (key, v) := e
    rw [List.getElem?_map] at e'
    cases hx : xs[j]? with
    | none => rw [hx] at e'; cases e'
    | some x =>
      rw [hx] at e'
      cases e'
      exact ⟨x.1, x.2.1, rfl, rfl⟩
  · have hm : (s.heap.objs.size == sysModules) = false := beq_eq_false_iff_ne.mpr (Nat.ne_of_gt I.big)
    obtain ⟨o', ds, ep, g1, g2, g3, g4, g5, g6⟩ := hd'
    have hlen := mergeN_len es []
    have hle := Paired.length rel
    refine ⟨.ref s.heap.objs.size, _, I.laid (t' := tk) (fun b o e => hk' b o (by simp) e) (Nat.le_refl _) (ndH_ok ⟨hm, ?_, mergeN_nodup es [] List.nodup_nil, _, o', ds, mergeN_rel rel .nil, g1, g2, g3, g4⟩), rfl, q _ ep (I.hok.fresh (Nat.le_refl _))⟩
    rw [List.length_nil, Nat.zero_add] at hlen
    omega
/-- dict(pairs) -/
def rDictN (w : World) : RC := fun ds S Q => ∃ d xs kvs, ds = [d] ∧ isT d = false ∧ Sq S d xs ∧ xs = kvs.map (fun p : NestedKey × D => D.tup [keyD p.1, p.2]) ∧ (∀ p ∈ kvs, IsKey (keyD p.1) p.1) ∧ ∀ p ep, S p = none → Q (.ref p) (S.put p (.dcn w (mergeD [] kvs) ep))
theorem denN_merge {K : PySem.W.Frag} {M : Mu} {H : Hp} : ∀ {kvs acc : List (NestedKey × D)} {es ac : List NE}, DenN K M H kvs es → DenN K M H acc ac → DenN K M H (mergeD acc kvs) (mergeN ac es)
  | [], acc, es, ac, h, h' => by
    simp only [DenN] at h
    subst h
    exact h'
  | (n, d) :: kvs, acc, es, ac, h, h' => by
    simp only [DenN] at h
    obtain ⟨b, v, r, rfl, h1, h2, h3⟩ := h
    show DenN K M H (mergeD (setN acc n d) kvs) (mergeN (putN ac n b v) r)
    exact denN_merge h3 (denN_put h' h1 h2)
theorem pairs_den {K : PySem.W.Frag} {M : Mu} {H : Hp} : ∀ {kvs : List (NestedKey × D)} {vs : List V}, DenL K M H (kvs.map fun p : NestedKey × D => D.tup [keyD p.1, p.2]) vs → (∀ p ∈ kvs, IsKey (keyD p.1) p.1) →
    ∃ (ps : List Addr) (es : List NE), vs = ps.map V.ref ∧ DenN K M H kvs es ∧ Paired (fun p e => SqT K H p [.ref e.2.1, e.2.2] ∧ KeyV K H e.1 (.ref e.2.1) ∧ e.1.depth ≤ 8) ps es
  | [], vs, h, _ => by
    simp only [List.map_nil, DenL] at h
    subst h
    exact ⟨[], [], rfl, by simp only [DenN], .nil⟩
  | (n, d) :: kvs, vs, h, hk => by
    rw [List.map_cons] at h
    simp only [DenL, Den] at h
    obtain ⟨v, r, rfl, ⟨a, us, rfl, h1, y, r1, rfl, h2, z, r2, rfl, h3, rfl⟩, h4⟩ := h
    have hk1 := hk (n, d) List.mem_cons_self
    obtain ⟨ps, es, rfl, e2, e3⟩ := pairs_den h4 fun p hp => hk p (List.mem_cons_of_mem _ hp)
    obtain ⟨b, rfl, k1, k2⟩ := hk1.den h2
    refine ⟨a :: ps, (n, b, z) :: es, rfl, ?_, .cons ⟨h1.sq, k2, hk1.dep⟩ e3⟩
    simp only [DenN]
    exact ⟨b, z, es, rfl, ⟨k1, hk1.dep⟩, h3, e2⟩
theorem oc_dictN (hr : Room k X.A) (hc : X.calm = true) : OC X (.type "dict") (rDictN X.w) := oc_of (call_dictN hr hc) fun M S H ds vs Q' Q r h1 hq oq => by
  obtain ⟨d, xs, kvs, rfl, nt, hs, rfl, hk, hq⟩ := hq
  obtain ⟨v, rfl, hv⟩ := denL_one h1
  obtain ⟨p, us, rfl, e2, e3⟩ := sq_den r hv hs
  rcases e3 with ⟨_, e3⟩ | ⟨e3, _⟩
  · obtain ⟨ps, es, rfl, g1, g2⟩ := pairs_den e2 hk
    refine ⟨p, ps, es, rfl, e3, g2, fun a ep ha => ?_⟩
    refine oq _ _ _ (add_tr ha (.dcn X.w (mergeD [] kvs) ep)) (add_st r ha ⟨_, upd_same, ?_⟩) _ _ ?_ (hq a ep (new_no r ha))
    · exact denN_kp (add_tr (K := X.K) (M := M) (S := S) ha (.dcn X.w (mergeD [] kvs) ep)).keep _ _ (denN_merge g1 (by simp only [DenN]))
    · simp only [Den]
  · rw [e3] at nt
    cases nt
end
end PL
end
/-! from PLT.lean -/
section
/-! PLT: sorted(xs), xs a list of tuples whose first two parts are ints, no two pairs of which are alike. -/
namespace PL
open PySem PySem.Spec PyProof.Rows L2
variable [TabCtx]

abbrev T3 := Int × Int × D
def tri (t : T3) : D := .tup [.int t.1, .int t.2.1, t.2.2]
def key3 (t : T3) : Int × Int := (t.1, t.2.1)
/-- a tuple of two ints and a third thing -/
def IsTri (h : Heap) (v : Value) (x y : Int) : Prop := ∃ a o t u z n, v = .ref a ∧ h.get? a = some o ∧ o.cls = .type "tuple" ∧ o.data = .seq #[.int x t, .int y u, z] n
theorem IsTri.keeps {h h' : Heap} {v : Value} {x y : Int} (p : IsTri h v x y) (k : ∀ b o, h.get? b = some o → o.cls = .type "tuple" → h'.get? b = some o) : IsTri h' v x y := by
  obtain ⟨a, o, t, u, z, n, e, ho, hc, hd⟩ := p
  exact ⟨a, o, t, u, z, n, e, k a o ho hc, hc, hd⟩
theorem tri_firsts {h : Heap} : ∀ {vs : List Value}, (∀ v ∈ vs, ∃ x y, IsTri h v x y) → ∃ fs : List Value, PySem.W.KatTups h vs fs ∧ fs.length = vs.length ∧ ∀ f ∈ fs, ∃ x t, f = Value.int x t
  | [], _ => ⟨[], PySem.W.KatTups.nil, rfl, fun _ m => by cases m⟩
  | v :: vs, hp => by
    obtain ⟨fs, h1, h2, h3⟩ := tri_firsts (vs := vs) fun v' m => hp v' (List.mem_cons_of_mem _ m)
    obtain ⟨x, y, a, o, t, u, z, n, rfl, ho, hc, hd⟩ := hp v List.mem_cons_self
    refine ⟨.int x t :: fs, PySem.W.KatTups.cons ho hc hd rfl h1, by rw [List.length_cons, List.length_cons, h2], fun f m => ?_⟩
    rcases List.mem_cons.mp m with rfl | m
    · exact ⟨x, t, rfl⟩
    · exact h3 f m
section
variable {prog : Program} {w : World} {A : Around} {s : Shared} {E : Value → Shared → Prop}
theorem tri_cmp {vs : List Value} {k : Value → Int × Int} (hp : ∀ v ∈ vs, IsTri s.heap v (k v).1 (k v).2) (inj : ∀ v ∈ vs, ∀ u ∈ vs, k v = k u → v = u) : SrtO.Cmp prog w A s (tuples' true) (fun p => p.1 ∈ vs) (SrtO.lt2 fun v u => SrtO.lexB (k v) (k u)) := by
  intro p q hm hm'
  have h1 := hp _ hm
  have h2 := hp _ hm'
  have hi := inj _ hm _ hm'
  show wpAny (model prog w) A (keyLt' (tuples' true) p.1 q.1) (fun r s' => s' = s ∧ r = SrtO.lexB (k p.1) (k q.1)) (fun _ _ => False) s
  obtain ⟨x, hx⟩ : ∃ x, x = (k p.1).1 := ⟨_, rfl⟩
  obtain ⟨y, hy⟩ : ∃ x, x = (k p.1).2 := ⟨_, rfl⟩
  obtain ⟨x', hx'⟩ : ∃ x, x = (k q.1).1 := ⟨_, rfl⟩
  obtain ⟨y', hy'⟩ : ∃ x, x = (k q.1).2 := ⟨_, rfl⟩
  have ep : k p.1 = (x, y) := by rw [hx, hy]
  have eq : k q.1 = (x', y') := by rw [hx', hy']
  rw [ep, eq] at hi
  rw [ep] at h1
  rw [eq] at h2
  rw [ep, eq]
  obtain ⟨a, o, t, u, z, n, e, ho, hc, hd⟩ := h1
  obtain ⟨a', o', t', u', z', n', e', ho', hc', hd'⟩ := h2
  rw [e, e'] at hi ⊢
  refine PySem.W.kat_lt ho hd ho' hd' ?_
  show PySem.W.KatLex prog w A true (decide (3 < 3)) _ [(.int x t, .int x' t'), (.int y u, .int y' u'), (z, z')] 0 s
  unfold SrtO.lexB
  refine PySem.W.kat_cons (SeqAt.EqAt.int_int x t x' t' prog w _ _ ?_)
  refine PySem.W.kat_go (fun e1 => ?_) (fun e1 => ?_)
  · have ex : x = x' := by simpa using e1
    refine PySem.W.kat_yes (PySem.W.kat_cons (SeqAt.EqAt.int_int y u y' u' prog w _ _ ?_))
    refine PySem.W.kat_go (fun e2 => ?_) (fun e2 => ?_)
    · have ey : y = y' := by simpa using e2
      have ea := hi (by rw [ex, ey])
      cases ea
      rw [ho] at ho'
      cases ho'
      rw [hd] at hd'
      cases hd'
      refine PySem.W.kat_yes (PySem.W.kat_cons (SeqAt.EqAt.same (A := A) (s := s) z prog w _ _ ?_))
      refine PySem.W.kat_yes (PySem.W.kat_nil ⟨rfl, ?_⟩)
      simp [ey]
    · refine PySem.W.kat_no (PySem.W.kat_one _ _ (PyProof.Rows.lt_int ?_))
      refine (show s = s ∧ _ from ⟨rfl, ?_⟩)
      simp [ex]
  · have ex : ¬ x = x' := by simpa using e1
    refine PySem.W.kat_no (oneLt_int ⟨rfl, ?_⟩)
    simp [ex]
theorem tri_sortable {a : Addr} {vs : List Value} {k : Value → Int × Int} (h0 : 0 < vs.length) (hp : ∀ v ∈ vs, IsTri s.heap v (k v).1 (k v).2) (inj : ∀ v ∈ vs, ∀ u ∈ vs, k v = k u → v = u) (ha : ∀ o, s.heap.get? a = some o → o.cls ≠ .type "tuple") : SrtO.SortableO prog w A s a vs fun v u => SrtO.lexB (k v) (k u) := by
  intro h' keep
  have hp' : ∀ v ∈ vs, IsTri h' v (k v).1 (k v).2 := fun v m => (hp v m).keeps fun b o e c => keep b o (fun z => by subst z; exact ha o e c) e
  obtain ⟨fs, h1, h2, h3⟩ := tri_firsts fun v m => ⟨_, _, hp' v m⟩
  refine ⟨tuples' true, fun Q E hq => PySem.W.kat_kind (T := .type "int") h1 (by omega) (fun f m => ?_) (by rfl) ?_, tri_cmp (s := { s with heap := h' }) hp' inj⟩
  · obtain ⟨x, t, rfl⟩ := h3 f m
    exact PySem.W.Looks.now
  · have e : (Value.type "int" != Value.type "tuple") = true := by first | decide +kernel | rfl | decide
    rw [e]
    exact hq
theorem sorted_tri {l : Addr} {vs : List Value} {k : Value → Int × Int} {Q : Value → Shared → Prop} (hl : s.heap.IsList l vs.toArray) (hz : vs.length ≤ sizeLine) (hp : ∀ v ∈ vs, IsTri s.heap v (k v).1 (k v).2) (inj : ∀ v ∈ vs, ∀ u ∈ vs, k v = k u → v = u)
    (h : ∀ (h' : Heap) (d : Addr) (out : List Value), SrtO.Srtd (fun v u => SrtO.lexB (k v) (k u)) out → out.Perm vs → (∀ b o, s.heap.get? b = some o → h'.get? b = some o) → s.heap.objs.size ≤ d → (∃ n, h'.get? d = some (seqObj "list" out.toArray n)) → Q (.ref d) { s with heap := h' }) :
    wpAny (model prog w) A (call (.builtin "sorted") [.ref l]) Q E s := by
  refine SrtO.sorted_ord (SrtO.swo_lex k) hl hz (fun h2 h₁ a ha kk => ?_) fun out hs hb => ?_
  · refine tri_sortable (s := { s with heap := h₁ }) (by omega) (fun v m => (hp v m).keeps fun b o e _ => (kk b o e).2) inj fun o e => ?_
    have e' : some o = some (seqObj "list" vs.toArray 0) := e.symm.trans ha
    cases e'
    intro c
    exact absurd (Value.type.inj c) (by decide)
  · exact h _ _ out hs hb.perm (fun b o e => PyProof.Rows.sortedAll_old e) (Nat.le_succ _) (PyProof.Rows.sortedAll_at s.heap vs out.toArray)
end
/-! ### over data -/
def ltK3 (a b : T3) : Bool := SrtO.lexB (key3 a) (key3 b)
def rSorted3 : RC := fun ds S Q => ∃ d xs, ∃ ts : List T3, ds = [d] ∧ isT d = false ∧ Sq S d xs ∧ xs = ts.map tri ∧ (ts.map key3).Nodup ∧ ∀ ys : List T3, ys.Perm ts → ys.Pairwise (fun a b => ltK3 b a = false) → Q (.lst (ys.map tri)) S
def fwd : V → Value
  | .ref a => .ref a
  | _ => .none
theorem fwd_vals : ∀ {vs : List V} {us : List Value}, (∀ v ∈ vs, ∃ a, v = V.ref a) → Vals vs us → us = vs.map fwd
  | [], _, _, .nil => rfl
  | v :: vs, u :: us, h, .cons r t => by
    obtain ⟨a, rfl⟩ := h v List.mem_cons_self
    obtain rfl : u = Value.ref a := r
    rw [List.map_cons, ← fwd_vals (fun v m => h v (List.mem_cons_of_mem _ m)) t]
    rfl
section
variable {X : Cx}
theorem tris_den {K : PySem.W.Frag} {M : Mu} {H : Hp} : ∀ {ts : List T3} {vs : List V}, DenL K M H (ts.map tri) vs → vs.length = ts.length ∧ (∀ p ∈ vs.zip ts, Den K M H (tri p.2) p.1) ∧ ∀ v ∈ vs, ∃ a, v = V.ref a
  | [], vs, h => by
    simp only [List.map_nil, DenL] at h
    subst h
    exact ⟨rfl, (fun p m => by cases m), (fun v m => by cases m)⟩
  | t :: ts, vs, h => by
    rw [List.map_cons] at h
    simp only [DenL] at h
    obtain ⟨v, r, rfl, h1, h2⟩ := h
    obtain ⟨e1, e2, e3⟩ := tris_den h2
    refine ⟨by rw [List.length_cons, List.length_cons, e1], fun p m => ?_, fun u m => ?_⟩
    · rw [List.zip_cons_cons] at m
      rcases List.mem_cons.mp m with rfl | m
      · exact h1
      · exact e2 p m
    · rcases List.mem_cons.mp m with rfl | m
      · have h3 := h1
        unfold tri at h3
        simp only [Den] at h3
        obtain ⟨a, _, rfl, _⟩ := h3
        exact ⟨a, rfl⟩
      · exact e3 u m
theorem denL_of {K : PySem.W.Frag} {M : Mu} {H : Hp} : ∀ {l : List (V × T3)}, (∀ p ∈ l, Den K M H (tri p.2) p.1) → DenL K M H ((l.map (·.2)).map tri) (l.map (·.1))
  | [], _ => by simp only [List.map_nil, DenL]
  | p :: l, h => by
    simp only [List.map_cons]
    exact denL_cons (h p List.mem_cons_self) (denL_of fun q m => h q (List.mem_cons_of_mem _ m))
theorem zip_fst_mem {α β : Type} {p : α × β} : ∀ {l : List α} {m : List β}, p ∈ l.zip m → p.1 ∈ l ∧ p.2 ∈ m
  | [], _, h => by cases h
  | a :: l, [], h => by cases h
  | a :: l, b :: m, h => by
    rw [List.zip_cons_cons] at h
    rcases List.mem_cons.mp h with rfl | h
    · exact ⟨List.mem_cons_self, List.mem_cons_self⟩
    · exact ⟨List.mem_cons_of_mem _ (zip_fst_mem h).1, List.mem_cons_of_mem _ (zip_fst_mem h).2⟩
theorem zip_has {α β : Type} : ∀ {l : List α} {m : List β} {a : α}, l.length = m.length → a ∈ l → ∃ b, (a, b) ∈ l.zip m
  | x :: l, y :: m, a, h, ha => by
    rw [List.zip_cons_cons]
    rcases List.mem_cons.mp ha with rfl | ha
    · exact ⟨y, List.mem_cons_self⟩
    · obtain ⟨b, hb⟩ := zip_has (m := m) (by simpa using h) ha
      exact ⟨b, List.mem_cons_of_mem _ hb⟩
  | [], _, a, _, ha => by cases ha
  | x :: l, [], a, h, ha => by cases h
theorem map_inj_mem {α β : Type} {f : α → β} : ∀ {l : List α}, (l.map f).Nodup → ∀ a ∈ l, ∀ b ∈ l, f a = f b → a = b
  | [], _, a, ha, _, _, _ => by cases ha
  | x :: l, h, a, ha, b, hb, e => by
    rw [List.map_cons, List.nodup_cons] at h
    rcases List.mem_cons.mp ha with ea | ha'
    · rcases List.mem_cons.mp hb with eb | hb'
      · rw [ea, eb]
      · exact absurd (List.mem_map.mpr ⟨b, hb', by rw [← e, ea]⟩) h.1
    · rcases List.mem_cons.mp hb with eb | hb'
      · exact absurd (List.mem_map.mpr ⟨a, ha', by rw [e, eb]⟩) h.1
      · exact map_inj_mem h.2 a ha' b hb' e
theorem zip_snd_inj {α β : Type} : ∀ {l : List α} {m : List β} {a a' : α} {b : β}, m.Nodup → (a, b) ∈ l.zip m → (a', b) ∈ l.zip m → a = a'
  | [], _, _, _, _, _, h, _ => by cases h
  | x :: l, [], _, _, _, _, h, _ => by cases h
  | x :: l, y :: m, a, a', b, n, h, h' => by
    rw [List.nodup_cons] at n
    rw [List.zip_cons_cons] at h h'
    rcases List.mem_cons.mp h with e | h
    · cases e
      rcases List.mem_cons.mp h' with e | h'
      · cases e
        rfl
      · exact absurd (zip_fst_mem h').2 n.1
    · rcases List.mem_cons.mp h' with e | h'
      · cases e
        exact absurd (zip_fst_mem h).2 n.1
      · exact zip_snd_inj n.2 h h'
theorem nodup_of_map {α β : Type} {f : α → β} : ∀ {l : List α}, (l.map f).Nodup → l.Nodup
  | [], _ => List.nodup_nil
  | x :: l, h => by
    rw [List.map_cons, List.nodup_cons] at h
    exact List.nodup_cons.mpr ⟨fun m => h.1 (List.mem_map_of_mem m), nodup_of_map h.2⟩
theorem fwd_inj {a b : V} (ha : ∃ x, a = V.ref x) (hb : ∃ x, b = V.ref x) (e : fwd a = fwd b) : a = b := by
  obtain ⟨x, rfl⟩ := ha
  obtain ⟨y, rfl⟩ := hb
  unfold fwd at e
  injection e with e
  rw [e]
open Classical in
theorem oc_sorted3 : OC X (.builtin "sorted") rSorted3 := by
  intro pins s σ H xs us Q I rx q
  obtain ⟨M, S, ds, Q', r, h1, ⟨d, xs', ts, rfl, nt, hs, rfl, nd, hq⟩, oq⟩ := q
  obtain ⟨v, rfl, hv⟩ := denL_one h1
  obtain ⟨u, rfl, ru⟩ := vals1 rx
  obtain ⟨p, vs, rfl, e2, e3⟩ := sq_den r hv hs
  obtain rfl : u = Value.ref p := ru
  rcases e3 with ⟨_, e3⟩ | ⟨e3, _⟩
  rotate_left
  · rw [e3] at nt
    cases nt
  obtain ⟨its, rv, hl, hz⟩ := I.list e3
  obtain ⟨g1, g2, g3⟩ := tris_den e2
  obtain rfl := fwd_vals g3 rv
  -- the key of a value
  let k : Value → Int × Int := fun v => if h : ∃ c : Int × Int, ∃ q ∈ vs.zip ts, fwd q.1 = v ∧ key3 q.2 = c then choose h else (0, 0)
  have tr : ∀ q ∈ vs.zip ts, IsTri s.heap (fwd q.1) (key3 q.2).1 (key3 q.2).2 := fun q m => by
    have dq := g2 q m
    unfold tri at dq
    simp only [Den, DenL] at dq
    obtain ⟨a, ws, ea, hq, x, r1, rfl, rfl, y, r2, rfl, rfl, z, r3, rfl, hz', rfl⟩ := dq
    rw [ea]
    obtain ⟨is, rw', ⟨o, ho, hc, n, hd⟩, _⟩ := I.tuple hq.sq
    cases rw' with
    | cons q1 q2 => cases q2 with
      | cons q2 q3 => cases q3 with
        | cons q3 q4 =>
          cases q4
          obtain ⟨t1, rfl⟩ := q1
          obtain ⟨t2, rfl⟩ := q2
          exact ⟨a, o, t1, t2, _, n, rfl, ho, hc, hd⟩
  have same : ∀ q ∈ vs.zip ts, ∀ q' ∈ vs.zip ts, fwd q.1 = fwd q'.1 → key3 q.2 = key3 q'.2 := fun q m q' m' e => by
    obtain ⟨a, o, t, u, z, n, f1, f2, f3, f4⟩ := tr q m
    obtain ⟨a', o', t', u', z', n', f1', f2', f3', f4'⟩ := tr q' m'
    rw [← e, f1] at f1'
    cases f1'
    rw [f2] at f2'
    cases f2'
    rw [f4] at f4'
    injection f4' with e1 _
    have e3 := congrArg Array.toList e1
    simp only [List.cons.injEq, Value.int.injEq] at e3
    exact Prod.ext e3.1.1 e3.2.1.1
  have kq : ∀ q ∈ vs.zip ts, k (fwd q.1) = key3 q.2 := fun q m => by
    have ex : ∃ c : Int × Int, ∃ q' ∈ vs.zip ts, fwd q'.1 = fwd q.1 ∧ key3 q'.2 = c := ⟨_, q, m, rfl, rfl⟩
    have e : k (fwd q.1) = choose ex := dif_pos ex
    obtain ⟨q', m', e1, e2⟩ := choose_spec ex
    rw [e, ← e2]
    exact same q' m' q m e1
  have has : ∀ v ∈ vs.map fwd, ∃ q ∈ vs.zip ts, v = fwd q.1 := fun v m => by
    obtain ⟨v0, m0, rfl⟩ := List.mem_map.mp m
    obtain ⟨t, mt⟩ := zip_has g1 m0
    exact ⟨(v0, t), mt, rfl⟩
  have tn := nodup_of_map nd
  refine sorted_tri (k := k) hl.isList (by rw [List.length_map]; simpa using hz) (fun v m => ?_) (fun v m u m' e => ?_) fun h' da out hsrt hperm kp hda hn => ?_
  · obtain ⟨q, mq, rfl⟩ := has v m
    rw [kq q mq]
    exact tr q mq
  · obtain ⟨q, mq, rfl⟩ := has v m
    obtain ⟨q', mq', rfl⟩ := has u m'
    rw [kq q mq, kq q' mq'] at e
    have et := map_inj_mem nd _ (zip_fst_mem mq).2 _ (zip_fst_mem mq').2 e
    have : q.1 = q'.1 := zip_snd_inj (b := q.2) tn mq (by rw [et]; exact mq')
    rw [this]
  · have hf : (vs.zip ts).map (fun q : V × T3 => fwd q.1) = vs.map fwd := by
      rw [← List.map_fst_zip (l₁ := vs) (l₂ := ts) (by omega), List.map_map]
      have : (vs.zip ts).map Prod.fst = vs := List.map_fst_zip (by omega)
      rw [this]
      rfl
    obtain ⟨l', lp, le⟩ := L2.perm_lift (fun q : V × T3 => fwd q.1) hperm (vs.zip ts) hf
    have memz : ∀ q ∈ l', q ∈ vs.zip ts := fun q m => lp.mem_iff.mp m
    obtain ⟨n, hn⟩ := hn
    have r2 : Vals (l'.map (·.1)) out := by
      rw [← le]
      refine L2.vals_maps _ _ l' fun q m => ?_
      obtain ⟨a, e⟩ := g3 _ (zip_fst_mem (memz q m)).1
      rw [e]
      exact rfl
    have J : Inv X pins σ (upd H da (.lst (l'.map (·.1)))) { s with heap := h' } := I.laid (t' := s.toks) kp hda ⟨by
      rw [r2.length, hperm.length_eq, List.length_map]
      simpa using hz, out, n, r2, hn⟩
    have hnone := I.hok.fresh hda
    refine ⟨.ref da, _, J, rfl, ?_⟩
    have hp2 : (l'.map (·.2)).Perm ts := by
      have := lp.map (·.2)
      rwa [List.map_snd_zip (by omega)] at this
    have hs2 : (l'.map (·.2)).Pairwise (fun a b => ltK3 b a = false) := by
      have h0 : out.Pairwise (fun x y => SrtO.lexB (k y) (k x) = false) := hsrt
      rw [← le, List.pairwise_map] at h0
      rw [List.pairwise_map]
      refine h0.imp_of_mem fun {a b} ma mb hab => ?_
      rw [kq a (memz a ma), kq b (memz b mb)] at hab
      exact hab
    refine oq M S _ (new_tr hnone) (new_st r hnone) _ _ ?_ (hq _ hp2 hs2)
    simp only [Den]
    exact ⟨da, _, rfl, upd_same, new_mu r hnone, denL_tr r (new_tr hnone) _ _ (denL_of fun q m => g2 q (memz q m))⟩
end
end PL
end
/-! from PLK.lean -/
section
/-! PLK: two dicts with nested keys compared. -/
namespace PL
open PySem PySem.Spec PyProof.Rows L2 PySem.W
variable [TabCtx]

section
variable {prog : Program} {w : World} {T : Type} [DecidableEq T] {knd : HeapKind prog w T} {A : Around} {E : Value → Shared → Prop} {s : Shared}
/-- entry by entry: the other one has the key, with an equal value -/
def eqH (ev : T → Bool) (ys xs : List (T × Addr × Value)) : Bool := xs.all fun x => match atKey ys x.1 with
  | some _ => ev x.1
  | none => false
theorem atKey_at {ys : List (T × Addr × Value)} {k : T} {j : Nat} {p : Addr × Value} (hn : (ys.map (·.1)).Nodup) (h : ys[j]? = some (k, p)) : atKey ys k = some p := by
  unfold atKey
  induction ys generalizing j with
  | nil => cases h
  | cons y ys ih =>
    rw [List.map_cons, List.nodup_cons] at hn
    cases j with
    | zero =>
      cases h
      simp
    | succ j =>
      have hj : ys[j]? = some (k, p) := by simpa using h
      have ne : y.1 ≠ k := fun e => hn.1 (by rw [e]; exact List.mem_map.mpr ⟨_, List.mem_of_getElem? hj, rfl⟩)
      rw [List.find?_cons]
      simp only [ne, decide_false]
      exact ih hn.2 hj
theorem same_pairs {nm : String} {a b : Addr} {xs ys : List (T × Addr × Value)} {ev : T → Bool} {Q : Bool → Shared → Prop} (hu : knd.room A) (ha : (a == sysModules) = false) (hb : (b == sysModules) = false)
    (da : s.heap.DictOfH knd a xs) (db : s.heap.DictOfH knd b ys) (hv : xs.length = ys.length → ∀ x ∈ xs, ∀ p, atKey ys x.1 = some p → SeqAt.EqAt A s x.2.2 p.2 (ev x.1)) (h : Q (xs.length == ys.length && eqH ev ys xs) s) :
    wpAny (model prog w) A (Builtin.Dict.samePairs nm a b) Q E s := by
  obtain ⟨oa, ea, epa, hoa, _, hda, hea, hisa, _⟩ := da
  obtain ⟨ob, eb, epb, hob, _, hdb, heb, hisb, hnb⟩ := db
  have la : ea.size = xs.length := size_of_entries hea
  have lb : eb.size = ys.length := size_of_entries heb
  unfold Builtin.Dict.samePairs Builtin.Dict.showsAll
  rw [if_neg (by rw [ha]; exact Bool.false_ne_true), if_neg (by rw [hb]; exact Bool.false_ne_true)]
  refine wpAny_bind (wpAny_pure (wpAny_bind (wpAny_pure (wpAny_bind (wpAny_dictEntries hoa hda ?_)))))
  dsimp only
  refine wpAny_bind (wpAny_dictEntries hob hdb ?_)
  by_cases hz : xs.length = ys.length
  · have hq : Q (eqH ev ys xs) s := by simpa [hz] using h
    have hv := hv hz
    have hz2 : ea.size = eb.size := by omega
    rw [if_neg (by rw [hz2]; simp)]
    refine wpAny_bind (wpAny_dictEpoch hoa hda (wpAny_bind ?_))
    rw [Std.Legacy.Range.forIn_eq_forIn_range']
    simp only [Std.Legacy.Range.size, Nat.sub_zero, Nat.add_sub_cancel, Nat.div_one]
    refine wpAny_forIn_list _ (fun rest q s' => s' = s ∧ q = (none, ()) ∧ ∃ i, rest = List.range' i (ea.size - i) ∧ i ≤ ea.size ∧ eqH ev ys (xs.drop i) = eqH ev ys xs) _ ?turn ?done _ _ ⟨rfl, rfl, 0, by simp, Nat.zero_le _, rfl⟩
    case turn =>
      rintro i rest q s' ⟨rfl, rfl, i', hr, hi, hp⟩
      have lt : i' < ea.size := by
        refine Nat.lt_of_not_le fun z => ?_
        rw [Nat.sub_eq_zero_of_le z] at hr
        simp at hr
      obtain ⟨rfl, hr⟩ : i = i' ∧ rest = List.range' (i' + 1) (ea.size - (i' + 1)) := by
        rw [show ea.size - i' = (ea.size - (i' + 1)) + 1 by omega, List.range'_succ] at hr
        injection hr with r1 r2
        exact ⟨r1, r2⟩
      have ltx : i < xs.length := by omega
      have hx : xs[i]? = some xs[i] := List.getElem?_eq_getElem ltx
      have mx : xs[i] ∈ xs := List.getElem_mem ltx
      have hent : ea[i]? = some (entryOfKey knd xs[i]) := by rw [entry_at hea, hx]; rfl
      rw [List.drop_eq_getElem_cons ltx] at hp
      refine wpAny_bind (wpAny_dictEntries hoa hda ?_)
      rw [hent]
      show wpAny _ _ (holding [Value.ref xs[i].2.1, xs[i].2.2] _ >>= _) _ _ _
      refine wpAny_bind (wpAny_holding (wpAny_bind ?_))
      refine wpAny_dictFind_heap hu (hisa _ mx) hob hdb heb hisb hnb (fun hno => ?_) (fun j p hj => ?_)
      · have hk : atKey ys xs[i].1 = none := by
          cases e : atKey ys xs[i].1 with
          | none => rfl
          | some p =>
            unfold atKey at e
            obtain ⟨y, ey, rfl⟩ := Option.map_eq_some_iff.mp e
            have hm := List.mem_of_find?_eq_some ey
            have hk : y.1 = xs[i].1 := by simpa using List.find?_some ey
            obtain ⟨j, hj⟩ := List.getElem?_of_mem hm
            exact absurd (by rw [hj, ← hk]) (hno j y.2)
        have hf : eqH ev ys xs = false := by
          rw [← hp]
          unfold eqH
          rw [List.all_cons, hk]
          rfl
        rw [hf] at hq
        refine wpAny_pure ?_
        show wpAny _ _ (if (!false) = true then _ else _) _ _ _
        rw [if_pos (by decide)]
        exact wpAny_pure (wpAny_pure hq)
      · have hk := atKey_at hnb hj
        have hent2 : eb[j]? = some (entryOfKey knd (xs[i].1, p)) := by rw [entry_at heb, hj]; rfl
        refine wpAny_bind (wpAny_dictEntries hob hdb ?_)
        rw [hent2]
        have hstep : eqH ev ys (xs[i] :: xs.drop (i + 1)) = (ev xs[i].1 && eqH ev ys (xs.drop (i + 1))) := by
          unfold eqH
          rw [List.all_cons, hk]
        refine wpAny_holding (hv _ mx p hk prog w _ _ ?_)
        cases e : ev xs[i].1 with
        | false =>
          rw [e, Bool.false_and, hp] at hstep
          rw [hstep] at hq
          show wpAny _ _ (if (!false) = true then _ else _) _ _ _
          rw [if_pos (by decide)]
          exact wpAny_pure (wpAny_pure hq)
        | true =>
          rw [e, Bool.true_and, hp] at hstep
          show wpAny _ _ (if (!true) = true then _ else _) _ _ _
          rw [if_neg (by decide)]
          refine wpAny_bind (wpAny_dictEpoch hoa hda ?_)
          rw [if_neg (by simp)]
          exact wpAny_pure ⟨rfl, rfl, i + 1, hr, lt, hstep.symm⟩
    case done =>
      rintro q s' ⟨rfl, rfl, i, hr, hi, hp⟩
      have e : i = xs.length := by
        rcases Nat.lt_or_ge i ea.size with z | z
        · rw [show ea.size - i = (ea.size - (i + 1)) + 1 by omega, List.range'_succ] at hr
          cases hr
        · omega
      rw [e, List.drop_length] at hp
      refine wpAny_pure ?_
      rw [← hp] at hq
      exact hq
  · have hz2 : ¬ ea.size = eb.size := by omega
    rw [if_pos (by simpa using hz2)]
    have hf : (xs.length == ys.length) = false := by simpa using hz
    rw [hf, Bool.false_and] at h
    exact wpAny_bind (wpAny_rule (wpAny_pure h))
/-- a == b, a != b -/
theorem dicts_eq {a b : Addr} {xs ys : List (T × Addr × Value)} {ev : T → Bool} {Q : Value → Shared → Prop} (hu : A.units < cLine) (hk : knd.room A.in1) (ha : (a == sysModules) = false) (hb : (b == sysModules) = false) (da : s.heap.DictOfH knd a xs) (db : s.heap.DictOfH knd b ys)
    (hv : xs.length = ys.length → ∀ x ∈ xs, ∀ p, atKey ys x.1 = some p → SeqAt.EqAt A.in1 s x.2.2 p.2 (ev x.1)) (h : Q (.bool (xs.length == ys.length && eqH ev ys xs)) s) : wpAny (model prog w) A (compareOp .Eq (.ref a) (.ref b)) Q E s := by
  refine wpAny_richCompare_same_room (op := .Eq) da.typeIs db.typeIs PySem.F.slot_dict_eq (wpAny_call_entry PySem.F.slot_dict_eq da.typeIs PySem.F.entry_dict_eq ?_ (PySem.F.args_dict_eq_2 _ _)) hu
  show wpAny _ _ (Builtin.Dict.dictSlotArgs "__eq__" ⟨[.ref a, .ref b], []⟩ >>= _) _ _ s
  unfold Builtin.Dict.dictSlotArgs
  refine wpAny_bind (wpAny_bind (wpAny_notOrdered_dict da.typeIs ?_))
  show wpAny _ _ (pure (Value.ref a, Value.ref b)) _ _ s
  refine wpAny_pure (wpAny_bind (wpAny_isInstance (T := "dict") db.typeIs PySem.F.sub_dict_dict ?_))
  simp only [Bool.not_true, Bool.false_eq_true, if_false]
  refine wpAny_bind (wpAny_pure (wpAny_bind (wpAny_pure (wpAny_bind (same_pairs hk ha hb da db hv ?_)))))
  exact wpAny_pure ⟨_, rfl, (fun z => nomatch z), by simpa using h⟩
theorem dicts_ne {a b : Addr} {xs ys : List (T × Addr × Value)} {ev : T → Bool} {Q : Value → Shared → Prop} (hu : A.units < cLine) (hk : knd.room A.in1) (ha : (a == sysModules) = false) (hb : (b == sysModules) = false) (da : s.heap.DictOfH knd a xs) (db : s.heap.DictOfH knd b ys)
    (hv : xs.length = ys.length → ∀ x ∈ xs, ∀ p, atKey ys x.1 = some p → SeqAt.EqAt A.in1 s x.2.2 p.2 (ev x.1)) (h : Q (.bool (!(xs.length == ys.length && eqH ev ys xs))) s) : wpAny (model prog w) A (compareOp .NotEq (.ref a) (.ref b)) Q E s := by
  refine wpAny_richCompare_same_room (op := .NotEq) da.typeIs db.typeIs PySem.F.slot_dict_ne (wpAny_call_entry PySem.F.slot_dict_ne da.typeIs PySem.F.entry_dict_ne ?_ (PySem.F.args_dict_ne_2 _ _)) hu
  show wpAny _ _ (Builtin.Dict.dictSlotArgs "__ne__" ⟨[.ref a, .ref b], []⟩ >>= _) _ _ s
  unfold Builtin.Dict.dictSlotArgs
  refine wpAny_bind (wpAny_bind (wpAny_notOrdered_dict da.typeIs ?_))
  show wpAny _ _ (pure (Value.ref a, Value.ref b)) _ _ s
  refine wpAny_pure (wpAny_bind (wpAny_isInstance (T := "dict") db.typeIs PySem.F.sub_dict_dict ?_))
  simp only [Bool.not_true, Bool.false_eq_true, if_false]
  refine wpAny_bind (wpAny_pure (wpAny_bind (wpAny_pure (wpAny_bind (same_pairs hk ha hb da db hv ?_)))))
  exact wpAny_pure ⟨_, rfl, (fun z => nomatch z), by simpa using h⟩
end
end PL
end
/-! from PLM.lean -/
section
/-! PLM: ==, != of dicts with nested keys, over data. -/
namespace PL
open PySem PySem.Spec PyProof.Rows L2
variable [TabCtx]

def pyE (d e : D) : Bool := match toPy d, toPy e with
  | some p, some q => PyData.eqv p q
  | _, _ => false
def Shp (d : D) : Prop := ∃ p, toPy d = some p ∧ SeqAt.shaped p = true
/-- what ls has at a key, against d -/
def atE (ls : List (NestedKey × D)) (n : NestedKey) (d : D) : Bool := match lookN ls n with
  | some e => pyE d e
  | none => false
def eqL (ls ks : List (NestedKey × D)) : Bool := ks.all fun p => atE ls p.1 p.2
def eqN (ks ls : List (NestedKey × D)) : Bool := ks.length == ls.length && eqL ls ks
def dEqN (neg : Bool) (w : World) : RD := fun x y S Q => ∃ ks ls, DctN w S x ks ∧ DctN w S y ls ∧ (∀ p ∈ ks, Shp p.2) ∧ (∀ p ∈ ls, Shp p.2) ∧ Q (.bl (if neg then !eqN ks ls else eqN ks ls)) S
section
variable {K : PySem.W.Frag} {M : Mu} {H : Hp}
theorem denN_map1 : ∀ {ks : List (NestedKey × D)} {es : List NE}, DenN K M H ks es → es.map (·.1) = ks.map (·.1)
  | [], es, h => by
    simp only [DenN] at h
    subst h
    rfl
  | (k, d) :: ks, es, h => by
    simp only [DenN] at h
    obtain ⟨b, v, r, rfl, _, _, h4⟩ := h
    rw [List.map_cons, List.map_cons, denN_map1 h4]
theorem lookN_mem {n : NestedKey} {d : D} : ∀ {ks : List (NestedKey × D)}, lookN ks n = some d → (n, d) ∈ ks
  | ks, h => by
    unfold lookN at h
    obtain ⟨p, e, rfl⟩ := Option.map_eq_some_iff.mp h
    have h1 := List.mem_of_find?_eq_some e
    have h2 : p.1 = n := by simpa using List.find?_some e
    rw [← h2]
    exact h1
theorem mem_lookN {n : NestedKey} {d : D} : ∀ {ks : List (NestedKey × D)}, (ks.map (·.1)).Nodup → (n, d) ∈ ks → lookN ks n = some d
  | [], _, h => by cases h
  | p :: ks, hn, h => by
    rw [List.map_cons, List.nodup_cons] at hn
    unfold lookN
    rw [List.find?_cons]
    rcases List.mem_cons.mp h with e | h
    · rw [← e]
      simp
    · have ne : p.1 ≠ n := fun e => hn.1 (by rw [e]; exact List.mem_map.mpr ⟨_, h, rfl⟩)
      simp only [ne, decide_false]
      exact mem_lookN hn.2 h
theorem eqH_eq {ev : NestedKey → Bool} {ys : List NX} {ls : List (NestedKey × D)} (hs : ∀ n, (atKey ys n).isSome = (lookN ls n).isSome) : ∀ {ks : List (NestedKey × D)} {es : List NE} {xs : List NX}, DenN K M H ks es → Paired RelE es xs → (∀ p ∈ ks, ev p.1 = atE ls p.1 p.2) → eqH ev ys xs = eqL ls ks
  | [], es, xs, h, r, _ => by
    simp only [DenN] at h
    subst h
    cases r
    rfl
  | (n, d) :: ks, es, xs, h, r, he => by
    simp only [DenN] at h
    obtain ⟨b, v, q, rfl, _, _, h4⟩ := h
    cases r with
    | cons r1 r2 =>
      rename_i x xs'
      have ih := eqH_eq hs h4 r2 fun p m => he p (List.mem_cons_of_mem _ m)
      unfold eqH eqL at ih ⊢
      rw [List.all_cons, List.all_cons, ih]
      have e1 : x.1 = n := r1.1.symm
      have e2 := he (n, d) List.mem_cons_self
      have e3 := hs n
      rw [e1]
      have e4 : ev n = atE ls n d := e2
      rw [e4]
      congr 1
      unfold atE
      cases g : lookN ls n with
      | none =>
        rw [g] at e3
        cases g2 : atKey ys n with
        | none => rfl
        | some z => simp [g2] at e3
      | some z =>
        rw [g] at e3
        cases g2 : atKey ys n with
        | none => rw [g2] at e3; cases e3
        | some z => simp
theorem denN_mem {ks : List (NestedKey × D)} {es : List NE} (h : DenN K M H ks es) {e : NE} (he : e ∈ es) : ∃ d, (e.1, d) ∈ ks ∧ Den K M H d e.2.2 := by
  obtain ⟨i, hi⟩ := List.getElem?_of_mem he
  obtain ⟨d, h1, _, h2⟩ := denN_nth h hi
  exact ⟨d, List.mem_of_getElem? h1, h2⟩
end
section
variable {X : Cx} {k : Nat}
theorem eq_ready {pins : List (Addr × Obj)} {σ : L2.St} {H : Hp} {s : Shared} {M : Mu} {ks ls : List (NestedKey × D)} {es fs : List NE} {xs ys : List NX} (I : Inv X pins σ H s) (hu : X.A.in1.units + 64 < cLine) (h1 : DenN X.K M H ks es) (h2 : DenN X.K M H ls fs) (r1 : Paired RelE es xs) (r2 : Paired RelE fs ys)
    (n1 : (es.map (·.1)).Nodup) (s1 : ∀ p ∈ ks, Shp p.2) (s2 : ∀ p ∈ ls, Shp p.2) : ∃ ev : NestedKey → Bool, (∀ x ∈ xs, ∀ p, atKey ys x.1 = some p → SeqAt.EqAt X.A.in1 s x.2.2 p.2 (ev x.1)) ∧ (xs.length == ys.length && eqH ev ys xs) = eqN ks ls := by
  rw [denN_map1 h1] at n1
  have hs : ∀ n, (atKey ys n).isSome = (lookN ls n).isSome := fun n => by
    have g := (get_rel r2 n).isSome
    rw [Option.isSome_map] at g
    rw [← g]
    rcases denN_get (k := n) h2 with ⟨e1, e2⟩ | ⟨d2, v2, e1, e2, _⟩ <;> rw [e1, e2] <;> rfl
  refine ⟨fun n => match lookN ks n with
    | some d => atE ls n d
    | none => false, fun x mx p hp => ?_, ?_⟩
  · obtain ⟨e, me, q1, q2, q3⟩ := paired_mem r1 x mx
    obtain ⟨d, md, hd⟩ := denN_mem h1 me
    rw [q1] at md
    have hl := mem_lookN n1 md
    have g := get_rel r2 x.1
    rw [hp] at g
    rcases denN_get (k := x.1) h2 with ⟨e1, e2⟩ | ⟨d2, v2, e1, e2, e3⟩
    · rw [e2] at g
      cases g
    · rw [e2] at g
      cases g with
      | some rv =>
        simp only [hl]
        unfold atE
        rw [e1]
        obtain ⟨pd, t1, t2⟩ := s1 _ md
        obtain ⟨pe, t3, t4⟩ := s2 _ (lookN_mem e1)
        simp only [pyE, t1, t3]
        obtain ⟨as, a1⟩ := Dp.reads I pd _ _ (dp_den _ _ _ hd t1) q3
        obtain ⟨bs, a2⟩ := Dp.reads I pe _ _ (dp_den _ _ _ e3 t3) rv
        exact PySem.W.keq_at a1 a2 t2 t4 hu
  · have l1 : xs.length = ks.length := by rw [← Paired.length r1, denN_len h1]
    have l2 : ys.length = ls.length := by rw [← Paired.length r2, denN_len h2]
    rw [eqH_eq hs h1 r1 fun p mp => by
      have hl := mem_lookN n1 (show (p.1, p.2) ∈ ks from mp)
      simp only [hl]]
    unfold eqN
    rw [l1, l2]
theorem od_eqN (hr : Room k X.A) : OD X (compareOp .Eq) (dEqN false X.w) := by
  intro pins s σ H x y v u Q I rx ry q
  obtain ⟨M, S, d, e, Q', r, h1, h2, ⟨ks, ls, d1, d2, s1, s2, hq⟩, oq⟩ := q
  obtain ⟨a, es, ep, rfl, g1, g2, _⟩ := dctN_den r h1 d1
  obtain ⟨b, fs, ep', rfl, g3, g4, _⟩ := dctN_den r h2 d2
  obtain rfl : v = Value.ref a := rx
  obtain rfl : u = Value.ref b := ry
  obtain ⟨y1, _, xs, r1, dd1⟩ := nd_of I g1 (denN_keys g2)
  obtain ⟨y2, _, ys, r2, dd2⟩ := nd_of I g3 (denN_keys g4)
  have un := hr.un
  obtain ⟨ev, e1, e2⟩ := eq_ready I (show X.A.units + 1 + 64 < cLine by omega) g2 g4 r1 r2 (nd_at I g1).2.2.1 s1 s2
  refine dicts_eq (knd := nestedKind X.prog X.w) (by omega) (show X.A.units + 1 + 8 < cLine by omega) y1 y2 dd1 dd2 (fun _ => e1) ?_
  rw [e2]
  exact ⟨.bl _, H, I, rfl, oq.now r (.bl _) _ (by simp [Den]) hq⟩
theorem od_neN (hr : Room k X.A) : OD X (compareOp .NotEq) (dEqN true X.w) := by
  intro pins s σ H x y v u Q I rx ry q
  obtain ⟨M, S, d, e, Q', r, h1, h2, ⟨ks, ls, d1, d2, s1, s2, hq⟩, oq⟩ := q
  obtain ⟨a, es, ep, rfl, g1, g2, _⟩ := dctN_den r h1 d1
  obtain ⟨b, fs, ep', rfl, g3, g4, _⟩ := dctN_den r h2 d2
  obtain rfl : v = Value.ref a := rx
  obtain rfl : u = Value.ref b := ry
  obtain ⟨y1, _, xs, r1, dd1⟩ := nd_of I g1 (denN_keys g2)
  obtain ⟨y2, _, ys, r2, dd2⟩ := nd_of I g3 (denN_keys g4)
  have un := hr.un
  obtain ⟨ev, e1, e2⟩ := eq_ready I (show X.A.units + 1 + 64 < cLine by omega) g2 g4 r1 r2 (nd_at I g1).2.2.1 s1 s2
  refine dicts_ne (knd := nestedKind X.prog X.w) (by omega) (show X.A.units + 1 + 8 < cLine by omega) y1 y2 dd1 dd2 (fun _ => e1) ?_
  rw [e2]
  exact ⟨.bl _, H, I, rfl, oq.now r (.bl _) _ (by simp [Den]) hq⟩
end
end PL
end
/-! from PLW.lean -/
section
/-! PLW: dict(d) of a dict with nested keys, no two of which hash alike. -/
namespace PL
open PySem PySem.Spec PyProof.Rows L2 PySem.W
variable [TabCtx]

section
variable {prog : Program} {w : World} {T : Type} [DecidableEq T] {knd : HeapKind prog w T} {A : Around} {E : Value → Shared → Prop} {s : Shared}
theorem dict_of_dict {o : Addr} {xs : List (T × Addr × Value)} {Q : Value → Shared → Prop} (hk : knd.room A.in1.in1) (hoS : (o == sysModules) = false) (ho : s.heap.DictOfH knd o xs) (st : knd.Stays) (hap : (xs.map fun x => knd.hash x.1).Nodup) (hsz : xs.length ≤ sizeLine)
    (h : ∀ h', h'.DictOfH knd s.heap.objs.size xs → (∀ b o, s.heap.get? b = some o → h'.get? b = some o) → Q (.ref s.heap.objs.size) { s with heap := h' }) : wpAny (model prog w) A (call (.type "dict") [.ref o]) Q E s := by
  refine callType_codes (Q₁ := fun obj s₁ => obj = .ref s.heap.objs.size ∧ s₁ = { s with heap := s.heap.push { cls := .type "dict", data := .dict #[] } }) F.kt_called_dict (F.kt_typeCall_dict_1 _) F.entry_dict_init (kt_code_dict_new _ ⟨rfl, rfl⟩) ?_
  rintro obj s₁ ⟨rfl, rfl⟩
  have grow : ∀ b ob, s.heap.get? b = some ob → (s.heap.push { cls := .type "dict", data := .dict #[] }).get? b = some ob := fun b ob e => Heap.get?_push_of_some _ e
  have d0 : (s.heap.push { cls := .type "dict", data := .dict #[] }).DictOfH knd s.heap.objs.size [] := Heap.DictOfH.new s.heap
  have o1 : (s.heap.push { cls := .type "dict", data := .dict #[] }).DictOfH knd o xs := by
    obtain ⟨_, _, _, _, _, _, _, his, _⟩ := id ho
    exact ho.at' (grow o) fun x hx => st.stays (fun b ob _ _ e _ => grow b ob e) (his x hx)
  have lo : o < s.heap.objs.size := let ⟨_, _, _, e, _⟩ := ho; Heap.lt_size e
  have ty : ∀ x ∈ xs, Shared.TypeIs { s with heap := s.heap.push { cls := .type "dict", data := .dict #[] } } (.ref x.2.1) "tuple" := fun x hx => by
    obtain ⟨_, _, _, _, _, _, _, his, _⟩ := o1
    exact st.tuple (his x hx)
  refine ⟨d0.typeIs, F.args_dict_init_2 _ _, ?_⟩
  unfold Builtin.«dict.__init__»
  refine wpAny_bind ?_
  unfold Builtin.Dict.selfAndRest
  refine wpAny_bind (wpAny_notOrdered_dict d0.typeIs ?_)
  show wpAny _ _ (pure (s.heap.objs.size, [Value.ref o])) _ _ _
  refine wpAny_pure ?_
  show wpAny _ _ (Builtin.Dict.updateFrom "dict.__init__" s.heap.objs.size (.ref o) [] .none) _ _ _
  refine updateFrom_dictH (A := A.in1) .none hk (Nat.ne_of_gt lo) hoS d0 o1 (.inr ⟨ty, hap⟩) (by simpa using hsz) fun h' hd' ho' sb => ?_
  have nd := ho.nodup
  rw [storedAllH_nil_of_nodup xs nd] at hd'
  exact ⟨rfl, h h' hd' fun b ob e => (sb.2 b (Nat.ne_of_lt (Heap.lt_size e))).trans (grow b ob e)⟩
end
section
variable {X : Cx} {k : Nat}
/-- dict(d) -/
def rDictCp (w : World) : RC := fun ds S Q => ∃ d kvs, ds = [d] ∧ DctN w S d kvs ∧ (kvs.map fun p => p.1.hash w).Nodup ∧ ∀ p ep, S p = none → Q (.ref p) (S.put p (.dcn w kvs ep))
theorem hash_rel {w : World} {K : PySem.W.Frag} {M : Mu} {H : Hp} {kvs : List (NestedKey × D)} {es : List NE} {xs : List NX} (h : DenN K M H kvs es) (r : Paired RelE es xs) : (xs.map fun x => x.1.hash w) = kvs.map fun p => p.1.hash w := by
  have e1 := paired_keys r
  have e2 := denN_map1 h
  have : xs.map (·.1) = kvs.map (·.1) := e1.trans e2
  have e3 := congrArg (List.map fun n : NestedKey => n.hash w) this
  rw [List.map_map, List.map_map] at e3
  exact e3
theorem oc_dictCp (hr : Room k X.A) : OC X (.type "dict") (rDictCp X.w) := by
  intro pins s σ H vs us Q I rx q
  obtain ⟨M, S, ds, Q', r, h1, ⟨d, kvs, rfl, hd, hap, hq⟩, oq⟩ := q
  obtain ⟨v, rfl, hv⟩ := denL_one h1
  obtain ⟨u, rfl, ru⟩ := vals1 rx
  obtain ⟨a, es, ep, rfl, g1, g2, _⟩ := dctN_den r hv hd
  obtain rfl : u = Value.ref a := ru
  obtain ⟨y1, hz, xs, r1, dd⟩ := nd_of I g1 (denN_keys g2)
  have nd := (nd_at I g1).2.2.1
  have un := hr.un
  refine dict_of_dict (knd := nestedKind X.prog X.w) (show X.A.units + 1 + 1 + 8 < cLine by omega) y1 dd nestedKind_stays ?_ (by rw [← Paired.length r1]; exact hz) fun h' hd' kp => ?_
  · have := hash_rel (w := X.w) g2 r1
    show (xs.map fun x => x.1.hash X.w).Nodup
    rw [this]
    exact hap
  · obtain ⟨o', ds', ep', f1, f2, f3, f4, f5, f6⟩ := hd'
    have hm : (s.heap.objs.size == sysModules) = false := beq_eq_false_iff_ne.mpr (Nat.ne_of_gt I.big)
    have hp := I.hok.fresh (Nat.le_refl s.heap.objs.size)
    refine ⟨.ref s.heap.objs.size, upd H s.heap.objs.size (ndH X.w s.heap.objs.size es ep'), I.laid (t' := s.toks) kp (Nat.le_refl _) (ndH_ok ⟨hm, hz, nd, xs, o', ds', r1, f1, f2, f3, f4⟩), rfl, ?_⟩
    refine oq _ _ _ (add_tr hp (.dcn X.w kvs ep')) (add_st r hp ⟨es, upd_same, denN_kp (add_tr (K := X.K) (M := M) (S := S) hp (.dcn X.w kvs ep')).keep _ _ g2⟩) _ _ ?_ (hq _ ep' (new_no r hp))
    simp only [Den]
/-- dict(pairs), dict(d) -/
def rDictA (w : World) : RC := fun ds S Q => rDictN w ds S Q ∨ rDictCp w ds S Q
theorem oc_dictA (hr : Room k X.A) (hc : X.calm = true) : OC X (.type "dict") (rDictA X.w) := by
  intro pins s σ H vs us Q I rx q
  obtain ⟨M, S, ds, Q', r, h1, h | h, oq⟩ := q
  · exact oc_dictN hr hc pins s σ H vs us Q I rx ⟨M, S, ds, Q', r, h1, h, oq⟩
  · exact oc_dictCp hr pins s σ H vs us Q I rx ⟨M, S, ds, Q', r, h1, h, oq⟩
end
end PL
end
/-! from PLA.lean -/
section
/-! PLA: dicts whose keys are ints and texts; any subscript, any store. -/
namespace PL
open PySem PySem.Spec PyProof.Rows L2
variable [TabCtx]

def kD : Key → D
  | .inl i => .int i
  | .inr x => .str x
def DctK (S : Sto) (d : D) (kvs : List (Key × D)) : Prop := d = .dct kvs ∨ ∃ a, d = .ref a ∧ S a = some (.dct kvs)
def lookK (kvs : List (Key × D)) (k : Key) : Option D := (kvs.find? fun p => decide (p.1 = k)).map (·.2)
def setK (kvs : List (Key × D)) (k : Key) (d : D) : List (Key × D) := if kvs.any (fun p => decide (p.1 = k)) then kvs.map (fun p => if p.1 = k then (p.1, d) else p) else kvs ++ [(k, d)]
section
variable {K : PySem.W.Frag} {M : Mu} {S : Sto} {H : Hp}
theorem kD_den {k : Key} {v : V} (h : Den K M H (kD k) v) : v = kV k := by
  cases k <;> simpa only [kD, Den, kV] using h
theorem dctK_den {d : D} {kvs : List (Key × D)} {v : V} (r : StD K M H S) (h : Den K M H d v) (q : DctK S d kvs) : ∃ a gs, v = .ref a ∧ H a = some (.dK gs) ∧ DenK K M H kvs gs := by
  rcases q with rfl | ⟨a, rfl, e⟩
  · simp only [Den] at h
    obtain ⟨a, gs, rfl, h1, _, h2⟩ := h
    exact ⟨a, gs, rfl, h1, h2⟩
  · simp only [Den] at h
    subst h
    obtain ⟨gs, h1, h2⟩ := r.ob a _ e
    exact ⟨a, gs, rfl, h1, h2⟩
theorem denK_get {k : Key} : ∀ {kvs : List (Key × D)} {gs : List (Key × V)}, DenK K M H kvs gs → (lookK kvs k = none ∧ valV gs k = none) ∨ ∃ d v, lookK kvs k = some d ∧ valV gs k = some v ∧ Den K M H d v
  | [], gs, h => by
    simp only [DenK] at h
    subst h
    exact .inl ⟨rfl, rfl⟩
  | (k', d) :: kvs, gs, h => by
    simp only [DenK] at h
    obtain ⟨v, r, rfl, h3, h4⟩ := h
    unfold lookK
    rw [List.find?_cons]
    by_cases z : k' = k
    · rw [valV_pos (p := (k', v)) z]
      simp only [z, decide_true]
      exact .inr ⟨d, v, rfl, rfl, h3⟩
    · rw [valV_neg (p := (k', v)) z]
      simp only [z, decide_false]
      exact denK_get h4
theorem denK_len : ∀ {kvs : List (Key × D)} {gs : List (Key × V)}, DenK K M H kvs gs → gs.length = kvs.length
  | [], gs, h => by
    simp only [DenK] at h
    subst h
    rfl
  | (k', d) :: kvs, gs, h => by
    simp only [DenK] at h
    obtain ⟨v, r, rfl, h3, h4⟩ := h
    rw [List.length_cons, List.length_cons, denK_len h4]
theorem denK_any {k : Key} : ∀ {kvs : List (Key × D)} {gs : List (Key × V)}, DenK K M H kvs gs → (gs.any fun p => decide (p.1 = k)) = kvs.any fun p => decide (p.1 = k)
  | [], gs, h => by
    simp only [DenK] at h
    subst h
    rfl
  | (k', d) :: kvs, gs, h => by
    simp only [DenK] at h
    obtain ⟨v, r, rfl, h3, h4⟩ := h
    rw [List.any_cons, List.any_cons, denK_any h4]
theorem denK_map {k : Key} {x : D} {y : V} (hx : Den K M H x y) : ∀ {kvs : List (Key × D)} {gs : List (Key × V)}, DenK K M H kvs gs → DenK K M H (kvs.map fun p => if p.1 = k then (p.1, x) else p) (gs.map fun p => if p.1 = k then (p.1, y) else p)
  | [], gs, h => by
    simp only [DenK] at h
    subst h
    simp only [List.map_nil, DenK]
  | (k', d) :: kvs, gs, h => by
    simp only [DenK] at h
    obtain ⟨v, r, rfl, h3, h4⟩ := h
    rw [List.map_cons, List.map_cons]
    by_cases z : k' = k
    · rw [if_pos z, if_pos z]
      simp only [DenK]
      exact ⟨y, _, rfl, hx, denK_map hx h4⟩
    · rw [if_neg z, if_neg z]
      simp only [DenK]
      exact ⟨v, _, rfl, h3, denK_map hx h4⟩
theorem denK_snoc {k : Key} {x : D} {y : V} (hx : Den K M H x y) : ∀ {kvs : List (Key × D)} {gs : List (Key × V)}, DenK K M H kvs gs → DenK K M H (kvs ++ [(k, x)]) (gs ++ [(k, y)])
  | [], gs, h => by
    simp only [DenK] at h
    subst h
    simp only [List.nil_append, DenK]
    exact ⟨y, [], rfl, hx, rfl⟩
  | (k', d) :: kvs, gs, h => by
    simp only [DenK] at h
    obtain ⟨v, r, rfl, h3, h4⟩ := h
    simp only [List.cons_append, DenK]
    exact ⟨v, _, rfl, h3, denK_snoc hx h4⟩
theorem denK_put {k : Key} {x : D} {y : V} {kvs : List (Key × D)} {gs : List (Key × V)} (h : DenK K M H kvs gs) (hx : Den K M H x y) : DenK K M H (setK kvs k x) (putK gs k y) := by
  unfold setK putK
  rw [denK_any h]
  split
  · exact denK_map hx h
  · exact denK_snoc hx h
end
section
variable {X : Cx} {W : WX} {k : Nat} {pos : Pos}
/-- d[k] -/
def dKGet : RD := fun x y S Q => ∃ kvs n d, DctK S x kvs ∧ y = kD n ∧ lookK kvs n = some d ∧ Q d S
theorem oix_k (hr : Room k X.A) : OIx X dKGet := by
  intro value slice pins s σ H x y v u Q I rx ry q hsub
  obtain ⟨M, S, d, e, Q', r, h1, h2, ⟨kvs, n, d', hd, rfl, hl, hq⟩, oq⟩ := q
  obtain ⟨a, gs, rfl, g1, g2⟩ := dctK_den r h1 hd
  obtain rfl := kD_den h2
  obtain rfl : v = Value.ref a := rx
  rcases denK_get (k := n) g2 with ⟨e1, _⟩ | ⟨d2, v2, e1, e2, e3⟩
  · rw [e1] at hl
    cases hl
  · rw [e1] at hl
    cases hl
    have g : DGet H a (kV n) (some v2) := by
      have := DGet.k (k := n) g1
      rwa [e2] at this
    exact tail_any (dict_typeIs I g) PySem.F.slot_dict_getitem.lookup (d_getItem (by have := hr.un; omega) I g ry fun w' s3 I3 rw' => ⟨v2, H, I3, rw', oq.now r _ _ e3 hq⟩) hsub
/-- a list's item, a dict's value -/
def dIxA (w : World) : RD := fun x y S Q => dIx x y S Q ∨ dNGet w x y S Q ∨ dKGet x y S Q
theorem oixA (hr : Room k X.A) : OIx X (dIxA X.w) := by
  intro value slice pins s σ H x y v u Q I rx ry q hsub
  obtain ⟨M, S, d, e, Q', r, h1, h2, h | h | h, oq⟩ := q
  · exact oix value slice pins s σ H x y v u Q I rx ry ⟨M, S, d, e, Q', r, h1, h2, h, oq⟩ hsub
  · exact oix_n hr value slice pins s σ H x y v u Q I rx ry ⟨M, S, d, e, Q', r, h1, h2, h, oq⟩ hsub
  · exact oix_k hr value slice pins s σ H x y v u Q I rx ry ⟨M, S, d, e, Q', r, h1, h2, h, oq⟩ hsub
/-- d[k] = v -/
def rSetKD : RSet := fun o i v S Q => ∃ p kvs n, o = .ref p ∧ S p = some (.dct kvs) ∧ i = kD n ∧ kvs.length < sizeLine ∧ Q (S.put p (.dct (setK kvs n v)))
theorem oset_k (hr : Room k X.A) : PSet X (liftSet X.K rSetKD) := by
  intro pins s σ H o i v ov iv u Q I r1 r2 r3 h
  obtain ⟨M, S, d, e, f, Q', r, h1, h2, h3, ⟨p, kvs, n, rfl, hs, rfl, hl, hq⟩, oq⟩ := h
  simp only [Den] at h1
  subst h1
  obtain rfl := kD_den h2
  obtain ⟨gs, g1, g2⟩ := r.ob p _ hs
  have t2 : Tr X.K M S H M (S.put p (.dct (setK kvs n f))) (upd H p (.dK (putK gs n v))) := set_tr r hs
  refine set_dict (by have := hr.un; omega) pins s σ H _ _ v ov iv u Q I r1 r2 r3 ⟨p, _, rfl, DPut.k g1 (by rw [denK_len g2]; exact hl), ?_⟩
  exact oq _ _ _ t2 (set_st r hs ⟨_, upd_same, denK_kp t2.keep _ _ (denK_put g2 h3)⟩) hq
/-- any store -/
def rSetA (w : World) : RSet := fun o i v S Q => rSetLD o i v S Q ∨ rSetN w o i v S Q ∨ rSetKD o i v S Q
theorem osetA (hr : Room k X.A) : PSet X (liftSet X.K (rSetA X.w)) := by
  intro pins s σ H o i v ov iv u Q I r1 r2 r3 h
  obtain ⟨M, S, d, e, f, Q', r, h1, h2, h3, h | h | h, oq⟩ := h
  · exact oset_list pins s σ H o i v ov iv u Q I r1 r2 r3 ⟨M, S, d, e, f, Q', r, h1, h2, h3, h, oq⟩
  · exact oset_n hr pins s σ H o i v ov iv u Q I r1 r2 r3 ⟨M, S, d, e, f, Q', r, h1, h2, h3, h, oq⟩
  · exact oset_k hr pins s σ H o i v ov iv u Q I r1 r2 r3 ⟨M, S, d, e, f, Q', r, h1, h2, h3, h, oq⟩
/-- {} of ints, to be written -/
def wKNew : WE := fun _ S Q _ => ∀ p, S p = none → Q (.ref p) (S.put p (.dct []))
theorem se_knew : SE X W (.Dict [] [] pos) wKNew := ⟨pe_imp pe_dnewK fun σ H Q h => by
  obtain ⟨M, Γ, S, Q', E', r, en, hq, oq, ox⟩ := h
  intro p hp
  refine oq _ _ _ (add_tr hp (.dct [])) (add_st r hp ⟨[], upd_same, by simp only [DenK]⟩) _ _ ?_ (hq p (new_no r hp))
  simp only [Den]⟩
end
end PL
end
/-! from PLB.lean -/
section
/-! PLB: range(a, b, -1), zip; classes at any level. -/
namespace PL
open PySem PySem.Spec PyProof.Rows L2
variable [TabCtx]

/-- hi, hi - 1, .. (n of them) -/
def downs (hi : Int) (n : Nat) : List D := (List.range n).map fun i => D.int (hi - (i : Nat))
theorem downs_len {hi : Int} {n : Nat} : (downs hi n).length = n := by simp [downs]
section
variable {X : Cx} {W : WX} {k : Nat} {pos p : Pos} {a b c tg : Expr} {ws : WA}
def wiR3 (ws : WA) : WI := fun Γ S Q E => ws Γ S (fun ds S1 => ∃ i j : Int, ds = [.int i, .int j, .int (-1)] ∧ (-(2 ^ 62) ≤ i ∧ i < 2 ^ 62 ∧ -(2 ^ 62) ≤ j ∧ j < 2 ^ 62) ∧ Q (downs i (i - j).toNat) (fun _ => True) S1) E
theorem turns_down {K : PySem.W.Frag} {hi : Int} {n : Nat} {M : Mu} {S : Sto} {H : Hp} : Turns K (Itc hi (-1) n) (downs hi n) (fun _ => True) M S H := fun M2 S2 H2 t2 r2 _ => by
  rw [downs_len]
  refine ⟨fun i hi => hi, fun i hi => hi, fun i d x H3 hd hy => ?_⟩
  obtain ⟨rfl, rfl⟩ := hy
  unfold downs at hd
  rw [List.getElem?_map] at hd
  cases e : (List.range n)[i]? with
  | none =>
    rw [e] at hd
    cases hd
  | some j =>
    rw [e] at hd
    obtain ⟨h, e2⟩ := List.getElem?_eq_some_iff.mp e
    rw [List.getElem_range] at e2
    subst e2
    cases hd
    refine ⟨Tr.refl, r2, ?_⟩
    simp only [Den]
    congr 1
    omega
theorem si_range3 (hg : Gl X "range") (hm : X.mg "range" = none) (ha : SA X W [a, b, c] ws) (hs : starEach [a, b, c] X.env = (false, eval a X.env) :: starEach [b, c] X.env := by rfl) (hpl : (backTo pos (starEach [b, c] X.env)).any (·.1) = false := by rfl) :
    SI X W tg (.Call (.Name "range" p) [a, b, c] [] pos) (wiR3 ws) := ⟨pi_imp (pi_range3 hg hm ha.pa hs hpl) fun σ H R h => by
  obtain ⟨M, Γ, S, Q', E', r, e, h, oq, ox⟩ := h
  refine ⟨M, Γ, S, _, E', r, e, h, ?_, ox⟩
  rintro M1 S1 H1 t1 r1 ds vs hd ⟨i, j, rfl, ⟨b1, b2, b3, b4⟩, hq⟩
  simp only [DenL, Den] at hd
  obtain ⟨v, q, rfl, rfl, v2, q2, rfl, rfl, v3, q3, rfl, rfl, rfl⟩ := hd
  exact ⟨i, j, -1, _, rfl, RgC.neg b1 b2 b3 b4, oq M1 S1 H1 t1 r1 _ _ hq _ turns_down⟩⟩
/-- zip(xs, ys), two lists or two tuples -/
def zipD (xs ys : List D) : List D := (xs.zip ys).map fun p => .tup [p.1, p.2]
def wiZ (ws : WA) : WI := fun Γ S Q E => ws Γ S (fun ds S1 => ∃ d e xs ys, ds = [d, e] ∧ Sq S1 d xs ∧ Sq S1 e ys ∧ isT d = isT e ∧ Q (zipD xs ys) (fun S' => Sq S' d xs ∧ Sq S' e ys) S1) E
theorem zipD_get {xs ys : List D} {i : Nat} {d : D} (h : (zipD xs ys)[i]? = some d) : ∃ x y, xs[i]? = some x ∧ ys[i]? = some y ∧ d = .tup [x, y] := by
  unfold zipD at h
  rw [List.getElem?_map] at h
  obtain ⟨q, h1, rfl⟩ := Option.map_eq_some_iff.mp h
  obtain ⟨h2, h3⟩ := List.getElem?_zip_eq_some.mp h1
  exact ⟨_, _, h2, h3, rfl⟩
theorem zipD_len {xs ys : List D} : (zipD xs ys).length = min xs.length ys.length := by simp [zipD]
theorem si_zip {elts : List Expr} {kk : Nat} {tpos : Pos} (hg : Gl X "zip") (hm : X.mg "zip" = none) (ha : SA X W [a, b] ws) (hs : starEach [a, b] X.env = (false, eval a X.env) :: starEach [b] X.env := by rfl) (hpl : (backTo pos (starEach [b] X.env)).any (·.1) = false := by rfl) :
    SI X W (.Tuple elts kk tpos) (.Call (.Name "zip" p) [a, b] [] pos) (wiZ ws) := ⟨pi_imp (RZ.pi_zipA hg hm ha.pa hs hpl) fun σ H R h => by
  obtain ⟨M, Γ, S, Q', E', r, e, h, oq, ox⟩ := h
  refine ⟨M, Γ, S, _, E', r, e, h, ?_, ox⟩
  rintro M1 S1 H1 t1 r1 ds vs hd ⟨d, e', xs, ys, rfl, hx, hy, hT, hq⟩
  obtain ⟨v, u, rfl, hv, hu⟩ := denL_two hd
  obtain ⟨pa, us, rfl, f1, f2⟩ := sq_den r1 hv hx
  obtain ⟨pb, ws', rfl, g1, g2⟩ := sq_den r1 hu hy
  refine ⟨pa, pb, us, ws', rfl, ?_⟩
  -- one turn, whatever the kind
  have turn : ∀ (Z : Hp → Addr → List V → Prop), (∀ M2 S2 H2, Tr X.K M1 S1 H1 M2 S2 H2 → StD X.K M2 H2 S2 → Sq S2 d xs ∧ Sq S2 e' ys → (∃ us, DenL X.K M2 H2 xs us ∧ Z H2 pa us) ∧ ∃ ws, DenL X.K M2 H2 ys ws ∧ Z H2 pb ws) →
      Turns X.K ⟨fun i H => ∃ (xs ys : List V) (x y : V), Z H pa xs ∧ Z H pb ys ∧ xs[i]? = some x ∧ ys[i]? = some y, fun i H v H' => ∃ T x y, v = .ref T ∧ H T = none ∧ H' = upd H T (.tup [x, y]) ∧ (∀ xs, Z H pa xs → xs[i]? = some x) ∧ ∀ ys, Z H pb ys → ys[i]? = some y, fun i H => ∃ xs ys : List V, Z H pa xs ∧ Z H pb ys ∧ (xs.length ≤ i ∨ ys.length ≤ i)⟩
        (zipD xs ys) (fun S' => Sq S' d xs ∧ Sq S' e' ys) M1 S1 H1 := fun Z key M2 S2 H2 t2 r2 st => by
    obtain ⟨⟨us2, k1, k2⟩, ws2, k3, k4⟩ := key M2 S2 H2 t2 r2 st
    have l1 := denL_len k1
    have l2 := denL_len k3
    rw [zipD_len]
    refine ⟨fun i hi => ⟨us2, ws2, us2[i]'(by omega), ws2[i]'(by omega), k2, k4, List.getElem?_eq_getElem _, List.getElem?_eq_getElem _⟩, fun i hi => ⟨us2, ws2, k2, k4, by omega⟩, fun i dd x H3 hz hyy => ?_⟩
    obtain ⟨T, vx, vy, rfl, hT0, rfl, z1, z2⟩ := hyy
    obtain ⟨dx, dy, y1, y2, rfl⟩ := zipD_get hz
    obtain ⟨wx, e1, e2⟩ := denL_get k1 y1
    obtain ⟨wy, e3, e4⟩ := denL_get k3 y2
    have := z1 us2 k2
    rw [e1] at this
    cases this
    have := z2 ws2 k4
    rw [e3] at this
    cases this
    have nt := new_tr (K := X.K) (M := M2) (S := S2) (o := .tup [vx, vy]) hT0
    refine ⟨nt, new_st r2 hT0, ?_⟩
    simp only [Den]
    exact ⟨T, [vx, vy], rfl, .inl ⟨upd_same, new_mu r2 hT0⟩, denL_tr r2 nt [dx, dy] [vx, vy] (denL_cons e2 (denL_cons e4 denL_nil))⟩
  rcases f2 with ⟨na, f2⟩ | ⟨rfl, f2⟩
  · rcases g2 with ⟨nb, g2⟩ | ⟨rfl, g2⟩
    · refine .inl ⟨f2, g2, oq M1 S1 H1 t1 r1 _ _ hq _ (turn (fun H a l => SqL X.K H a l) fun M2 S2 H2 t2 r2 st => ?_)⟩
      obtain ⟨_, us2, q1, q2, q3⟩ := sq_den r2 (den_tr r1 t2 _ _ hv) st.1
      obtain ⟨_, ws2, q4, q5, q6⟩ := sq_den r2 (den_tr r1 t2 _ _ hu) st.2
      cases q1
      cases q4
      refine ⟨⟨us2, q2, ?_⟩, ws2, q5, ?_⟩
      · rcases q3 with ⟨_, q⟩ | ⟨q, _⟩
        · exact q
        · rw [q] at na
          cases na
      · rcases q6 with ⟨_, q⟩ | ⟨q, _⟩
        · exact q
        · rw [q] at nb
          cases nb
    · rw [na] at hT
      cases hT
  · rcases g2 with ⟨nb, g2⟩ | ⟨rfl, g2⟩
    · rw [nb] at hT
      cases hT
    · refine .inr ⟨f2.sq, g2.sq, oq M1 S1 H1 t1 r1 _ _ hq _ (turn (fun H a l => SqT X.K H a l) fun M2 S2 H2 t2 r2 st => ?_)⟩
      exact ⟨⟨us, denL_tr r1 t2 _ _ f1, (tupAt_kp t2.keep f2).sq⟩, ws', denL_tr r1 t2 _ _ g1, (tupAt_kp t2.keep g2).sq⟩⟩
end
/-- a class that is made at a lower level -/
def KlU (P : Program) (w : World) (K : PySem.W.Frag) (mg : Str → Option Value) (base : Heap) (k : Nat) (x : Str) (C : Addr) (ps : List Str) (cs : CSp) : Prop := ∃ j, j + 1 ≤ k ∧ Kl1 P w K mg base j x C ps cs
section
variable {X : Cx} {W : WX} {k : Nat} {C : Addr} {pos p : Pos} {e : Expr} {es : List Expr} {ws : WA} {ps : List Str} {cs : CSp} {x : Str}
theorem xku (F : KlU X.prog X.w X.K X.mg X.base k x C ps cs) (hr : Room k X.A) (tk : Takes X W) (ha : SA X W (e :: es) ws) (hg : Gl X x := by rfl) (hdb : (x == ("__debug__" : Str)) = false := by decide)
    (he : starEach (e :: es) X.env = (false, eval e X.env) :: starEach es X.env := by rfl) (hpl : (backTo pos (starEach es X.env)).any (·.1) = false := by rfl) : SE X W (.Call (.Name x p) (e :: es) [] pos) (wCall (cSp C cs) ws) := by
  obtain ⟨j, h, F⟩ := F
  exact xk F (hr.mono h) tk ha hg hdb he hpl
end
end PL
end
/-! from PLG.lean -/
section
/-! PLG: enumerate of a list, of a tuple. -/
namespace PL
open PySem PySem.Spec PyProof.Rows L2
variable [TabCtx]

section
variable {prog : Program} {w : World} {A : Around} {E : Value → Shared → Prop} {s : Shared}
/-- what enumerate(t) lays -/
abbrev tupIt (l : Addr) : Obj := { cls := .type "tuple_iterator", data := .fields #[.ref l, .int 0 0] }
theorem enum_newT (l : Addr) (items : Array Value) (o : Obj) (n : Nat) (hc : o.cls = .type "tuple") (hd : o.data = .seq items n) :
    Meets (Builtin.«enumerate.__new__» ⟨[.type "enumerate", .ref l], []⟩) (fun _ R s => s.heap.get? l = some o ∧
      R (.ok (.ret (.ref (s.heap.push (tupIt l)).objs.size)))
        { s with heap := (s.heap.push (tupIt l)).push { cls := .type "enumerate", data := .fields #[.none, .bool false, .ref s.heap.objs.size, rawInt 0, .none, .none] } }) :=
  .of_wp fun prog w A R s h => by
    obtain ⟨hl, h⟩ := h
    obtain ⟨hp, g, d, tk, os⟩ := s
    have hsub := sub_enumerate
    have hT : hp.IsTuple l items := ⟨o, hl, hc, n, hd⟩
    obtain ⟨cls, dct, dt, sl⟩ := o
    simp only at hc hd
    subst hc hd
    wp_walk using MeetsSeq.wpAny_loadPart' hl
    refine wpAny_stack_any fun st => wpAny_pure ?_
    split
    · rename_i c _ _ _ _ _
      cases (c == Value.type "enumerate")
      · wp_walk using MeetsSeq.wpAny_loadPart' hl, wpAny_pyIter_tuple hT
        exact ⟨_, rfl, h⟩
      · wp_walk using MeetsSeq.wpAny_loadPart' hl, wpAny_pyIter_tuple hT
        exact ⟨_, rfl, h⟩
    · wp_walk using MeetsSeq.wpAny_loadPart' hl, wpAny_pyIter_tuple hT
      exact ⟨_, rfl, h⟩
theorem call_enumT {l : Addr} {items : Array Value} {Q : Value → Shared → Prop} (hL : s.heap.IsTuple l items)
    (h : ∀ h', IsEnum h' (s.heap.objs.size + 1) s.heap.objs.size 0 .none → h'.IsTupleIter s.heap.objs.size l 0 → (∀ b o, s.heap.get? b = some o → h'.get? b = some o) → Q (.ref (s.heap.objs.size + 1)) { s with heap := h' }) :
    wpAny (model prog w) A (call (.type "enumerate") [.ref l]) Q E s := by
  obtain ⟨o, ho, hc, n, hd⟩ := hL
  refine callType_new PySem.F.called_enumerate (by decide) (PySem.F.typeCall_enumerate_1 _) (PySem.F.newCall_enumerate_1 _) (fun obj => PySem.F.args_object_init_2 obj _) PySem.F.entry_enumerate_new (enum_newT l items o n hc hd) ⟨ho, ?_⟩
  have hz : (s.heap.push (tupIt l)).objs.size = s.heap.objs.size + 1 := Heap.size_push ..
  show _ ∧ _
  rw [hz]
  have he : IsEnum ((s.heap.push (tupIt l)).push { cls := .type "enumerate", data := .fields #[.none, .bool false, .ref s.heap.objs.size, rawInt 0, .none, .none] }) (s.heap.objs.size + 1) s.heap.objs.size 0 .none := by
    have := Heap.get?_push_size (s.heap.push (tupIt l)) (o := { cls := .type "enumerate", data := .fields #[.none, .bool false, .ref s.heap.objs.size, rawInt 0, .none, .none] }) rfl
    rw [hz] at this
    exact this
  exact ⟨⟨_, he, rfl⟩, h _ he ⟨_, Heap.get?_push_of_some _ (Heap.get?_push_size _ rfl), rfl, rfl⟩ fun b o x => Heap.get?_push_of_some _ (Heap.get?_push_of_some _ x)⟩
theorem draws_tuple (hh : A.handled = none) (it l : Addr) (hne : l ≠ it) (items : Array Value) : Draws prog w A it [it, l] items.size (fun i v => items[i]? = some v) (fun i h => h.IsTupleIter it l i ∧ h.IsTuple l items) where
  live := fun _ _ st => let ⟨o, ho, _⟩ := st.1; ⟨o, ho⟩
  frame := fun _ _ _ st hk => ⟨let ⟨o, e, r⟩ := st.1; ⟨o, hk it (by simp) o e, r⟩, let ⟨o, e, r⟩ := st.2; ⟨o, hk l (by simp) o e, r⟩⟩
  item := fun i s Q E hi st hQ => by
    refine RZ.nextOf_tuple_item st.1 st.2 (x := items[i]) (by simp [hi]) fun h' hit' hs' => ?_
    exact hQ _ h' s.toks (by simp [hi]) ⟨hit', let ⟨o, e, r⟩ := st.2; ⟨o, (hs'.2 l hne).trans e, r⟩⟩ hs'
  done := fun s Q E st hE => RZ.nextOf_tuple_end hh st.1 st.2 (by simp) hE
theorem enumT_end {e it l : Addr} {i : Nat} {items : Array Value} {old : Value} {Q : Option Value → Shared → Prop} (hh : A.handled = none) (he : IsEnum s.heap e it ((i : Nat) : Int) old) (hit : s.heap.IsTupleIter it l i) (hl : s.heap.IsTuple l items) (hx : items[i]? = none)
    (hQ : ∀ h', Heap.ExtBut it s.heap h' → Q none { s with heap := h' }) : wpAny (model prog w) A (pyNext (.ref e)) Q E s := by
  have hT : s.TypeIs (.ref e) "enumerate" := ⟨_, he, rfl⟩
  unfold pyNext
  refine wpAny_bind (wpAny_attempt (wpAny_callSpecial?_slot (name := Str.ofString "__next__") hT PySem.F.slot_enumerate_next (wpAny_call_entry PySem.F.slot_enumerate_next hT PySem.F.entry_enumerate_next ?_ (PySem.F.args_enumerate_next_1 _))))
  show wpAny _ _ (field (.ref e) 2 >>= _) _ _ _
  refine wpAny_bind (wpAny_field he rfl (x := .ref it) rfl (wpAny_bind (RZ.nextOf_tuple_end (A := A.in1) hh hit hl hx fun h' x he' hx' => ?_)))
  obtain ⟨o, ho, hc⟩ := hx'
  exact wpAny_bind (wpAny_isInstance (T := "StopIteration") (b := true) ⟨o, ho, hc⟩ isSubtype_stop (wpAny_pure (hQ _ he')))
end
/-! ### the turns -/
/-- the tuple at a, each item in a new pair -/
def IteT (K : PySem.W.Frag) (a : Addr) : It :=
  ⟨fun i H => ∃ (xs : List V) (x : V), SqT K H a xs ∧ xs[i]? = some x, fun i H v H' => ∃ T x, v = .ref T ∧ H T = none ∧ H' = upd H T (.tup [.int (i : Nat), x]) ∧ ∀ xs, SqT K H a xs → xs[i]? = some x, fun i H => ∃ xs : List V, SqT K H a xs ∧ xs.length ≤ i⟩
theorem turn_enumT {P : Program} {w : World} {K : PySem.W.Frag} {elts : List Expr} {kk : Nat} {tpos : Pos} (a e it : Addr) (hai : a ≠ it) (hae : a ≠ e) :
    Turn P w K (.Tuple elts kk tpos) (IteT K a) [e, it] e (fun i h => (∃ old, IsEnum h e it ((i : Nat) : Int) old) ∧ h.IsTupleIter it a i ∧ e ≠ it) where
  mem := by simp
  obj := fun i h st b hb => by
    obtain ⟨⟨old, he⟩, ⟨o, ho, hc, hd⟩, _⟩ := st
    have e' : b = e ∨ b = it := by simpa using hb
    rcases e' with z | z
    · rw [z]; exact ⟨_, he, fun v q => nomatch q⟩
    · rw [z]; exact ⟨o, ho, fun v q => by rw [hd] at q; cases q⟩
  keep := fun i h h' st k => let ⟨⟨old, he⟩, ⟨o, e1, r⟩, hne⟩ := st; ⟨⟨old, k e (by simp) _ he⟩, ⟨o, k it (by simp) o e1, r⟩, hne⟩
  item := by
    rintro X rfl rfl rfl hc i pins s σ H E I hf st ⟨xs, x, hq, hx⟩
    obtain ⟨⟨old, he⟩, hit, hne⟩ := st
    obtain ⟨its, rv, ht, _⟩ := I.tuple hq
    obtain ⟨u, hu, ru⟩ := rv.get hx
    have hel : e < s.heap.objs.size := Heap.lt_size he
    have hil : it < s.heap.objs.size := by obtain ⟨_, q, _⟩ := hit; exact Heap.lt_size q
    have lt : i < its.toArray.size := by simpa using (List.getElem?_eq_some_iff.mp hu).1
    refine wpAny_pyNext_enum_itemD (draws_tuple (A := X.A.in1) (I.ok.hd hc) it a hai its.toArray) he ⟨hit, ht⟩ lt hne (by simp [hne, Ne.symm hae]) fun x' h' tk hP ho hit' hT hsz hk => ?_
    have ex : x' = u := by
      have : its[i]? = some x' := by simpa using hP
      rw [hu] at this
      exact (Option.some.inj this).symm
    subst ex
    refine ⟨_, rfl, wpAny_letOwnedTupleGo_enum (s := { s with heap := h', toks := tk + 1 }) ho fun h'' he' sb => ?_⟩
    have hT2 : h''.get? s.heap.objs.size = some { cls := .type "tuple", data := .seq #[.int i tk, x'] } := (sb.2 _ (Nat.ne_of_gt hel)).trans hT
    have new : ObjOk X.prog X.w (upd H s.heap.objs.size (.tup [.int (i : Nat), x])) h'' s.heap.objs.size (.tup [.int (i : Nat), x]) :=
      ⟨by show 2 ≤ sizeLine; decide, [.int i tk, x'], .cons ⟨_, rfl⟩ (.cons ru .nil), ⟨_, hT2, rfl, _, rfl⟩⟩
    have I1 : Inv X pins σ (upd H s.heap.objs.size (.tup [.int (i : Nat), x])) { s with heap := h'', toks := tk + 1 } :=
      I.turnedNew (ch := [e, it]) (fun b ob hb q => (sb.2 b (fun z => hb (by simp [z]))).trans (hk b ob (fun z => hb (by simp [z])) (fun z => hb (by simp [z])) q)) hf (Nat.le_refl _) new
    refine ⟨.ref s.heap.objs.size, _, I1, rfl, ⟨_, x, rfl, I.hok.fresh (Nat.le_refl _), rfl, fun ys hy => ?_⟩, ⟨⟨x', ?_⟩, ?_, hne⟩, fun b hb => ?_⟩
    · rw [I.tuple_inj hy hq]
      exact hx
    · have e1 : ((i + 1 : Nat) : Int) = (i : Int) + 1 := by omega
      rw [e1]
      exact he'
    · obtain ⟨⟨o, q, r⟩, _⟩ := hit'
      exact ⟨o, (sb.2 it (Ne.symm hne)).trans q, r⟩
    · have hb' : b < s.heap.objs.size := by
        have e' : b = e ∨ b = it := by simpa using hb
        rcases e' with z | z
        · rw [z]; exact hel
        · rw [z]; exact hil
      rw [upd_ne (Nat.ne_of_lt hb')]
      exact (hf b hb).1
  done := by
    rintro X rfl rfl rfl hc i pins s σ H E I hf st ⟨xs, hq, hx⟩
    obtain ⟨⟨old, he⟩, hit, hne⟩ := st
    obtain ⟨its, rv, ht, _⟩ := I.tuple hq
    obtain ⟨f0, f1, f2, f3, f4, f5⟩ := hf it (by simp)
    have hl := rv.length
    exact enumT_end (I.ok.hd hc) he hit ht (by simp; omega) fun h' eb => ⟨rfl, I.turned (t' := s.toks) (fun b o hb q => eb b o hb q) f0 f1 f3 f4 f5⟩
  self := fun A i s Q E st h => let ⟨⟨_, he⟩, _⟩ := st; wpAny_pyIter_enum he h
def iEnumT (K : PySem.W.Frag) (ta : TA) : TI := fun σ H R => ta σ H fun vs H1 => ∃ a xs, vs = [.ref a] ∧ SqT K H1 a xs ∧ R (IteT K a) H1
theorem pi_enumT {X : Cx} {e : Expr} {ta : TA} {p pos tpos : Pos} {elts : List Expr} {kk : Nat} (hg : Gl X "enumerate") (hm : X.mg "enumerate" = none) (ha : PA X [e] ta) (hs : starEach [e] X.env = [(false, eval e X.env)] := by rfl) :
    PI X (.Tuple elts kk tpos) (.Call (.Name "enumerate" p) [e] [] pos) (iEnumT X.K ta) := by
  refine ⟨fun pins s σ H R I h => ?_⟩
  refine Call_ (ld_blt I hg hm boot_enumerate (PyProof.Rows.callWith_type1 (thn (ha.run pos pins s σ H _ I h) fun us s1 ⟨vs, H1, I1, r1, a, xs, ex, hq, q⟩ => ?_) hs rfl))
  subst ex
  obtain ⟨u, rfl, ru⟩ := vals1 r1
  obtain rfl : u = Value.ref a := ru
  obtain ⟨its, rv, ht, _⟩ := I1.tuple hq
  have la : a < s1.heap.objs.size := let ⟨_, q, _⟩ := ht; Heap.lt_size q
  refine call_enumT ht fun h' he hit hk => wpAny_pyIter_enum he ?_
  have I2 : Inv X pins σ H1 { s1 with heap := h' } := I1.kept (t' := s1.toks) hk
  refine ⟨s1.heap.objs.size + 1, [s1.heap.objs.size + 1, s1.heap.objs.size], _, _, H1, rfl, I2, turn_enumT a (s1.heap.objs.size + 1) s1.heap.objs.size (Nat.ne_of_lt la) (Nat.ne_of_lt (Nat.lt_succ_of_lt la)), ⟨⟨.none, he⟩, hit, Nat.succ_ne_self _⟩, fun b hb => ?_, q⟩
  have hle : s1.heap.objs.size ≤ b := by
    have e' : b = s1.heap.objs.size + 1 ∨ b = s1.heap.objs.size := by simpa using hb
    rcases e' with z | z
    · rw [z]; exact Nat.le_succ _
    · rw [z]; exact Nat.le_refl _
  exact I1.fpOk hle (I1.hok.fresh hle)
section
variable {X : Cx} {W : WX} {k : Nat} {pos p : Pos} {a : Expr} {wa : WE}
def enumD (xs : List D) : List D := xs.zipIdx.map fun q => .tup [.int (q.2 : Nat), q.1]
theorem enumD_get {xs : List D} {i : Nat} {d : D} (h : (enumD xs)[i]? = some d) : ∃ x, xs[i]? = some x ∧ d = .tup [.int (i : Nat), x] := by
  unfold enumD at h
  rw [List.getElem?_map, List.getElem?_zipIdx] at h
  cases e : xs[i]? with
  | none =>
    rw [e] at h
    cases h
  | some x =>
    rw [e] at h
    cases h
    exact ⟨x, rfl, by simp⟩
theorem enumD_len {xs : List D} : (enumD xs).length = xs.length := by simp [enumD]
def wiE (wa : WE) : WI := fun Γ S Q E => wa Γ S (fun d S1 => ∃ xs, d = .tup xs ∧ Q (enumD xs) (fun _ => True) S1) E
theorem si_enum {elts : List Expr} {kk : Nat} {tpos : Pos} (hg : Gl X "enumerate") (hm : X.mg "enumerate" = none) (ha : SE X W a wa) (he : starEach [a] X.env = (false, eval a X.env) :: starEach [] X.env := by rfl) (hs : starEach [a] X.env = [(false, eval a X.env)] := by rfl) :
    SI X W (.Tuple elts kk tpos) (.Call (.Name "enumerate" p) [a] [] pos) (wiE wa) := ⟨pi_imp (pi_enumT hg hm (sa_one ha he).pa hs) fun σ H R h => by
  obtain ⟨M, Γ, S, Q', E', r, e, h, oq, ox⟩ := h
  refine ⟨M, Γ, S, fun ds S1 => ∃ xs, ds = [.tup xs] ∧ Q' (enumD xs) (fun _ => True) S1, E', r, e, ?_, ?_, ox⟩
  · have e2 : (fun (d : D) S1 => ∃ xs, [d] = [D.tup xs] ∧ Q' (enumD xs) (fun _ => True) S1) = fun d S1 => ∃ xs, d = .tup xs ∧ Q' (enumD xs) (fun _ => True) S1 := by
      funext d S1
      simp
    show wa Γ S (fun d S1 => ∃ xs, [d] = [D.tup xs] ∧ Q' (enumD xs) (fun _ => True) S1) E'
    rw [e2]
    exact h
  · rintro M1 S1 H1 t1 r1 ds vs hd ⟨xs, rfl, hq⟩
    obtain ⟨v, rfl, hv⟩ := denL_one hd
    have hv0 := hv
    simp only [Den] at hv
    obtain ⟨pa, us, rfl, f1, f2⟩ := hv
    refine ⟨pa, us, rfl, f1.sq, oq M1 S1 H1 t1 r1 _ _ hq _ ?_⟩
    intro M2 S2 H2 t2 r2 _
    have g1 := tupAt_kp t2.keep f1
    have g2 := denL_tr r1 t2 _ _ f2
    have l1 := denL_len g2
    rw [enumD_len]
    refine ⟨fun i hi => ⟨us, us[i]'(by omega), g1.sq, List.getElem?_eq_getElem _⟩, fun i hi => ⟨us, g1.sq, by omega⟩, fun i dd x H3 hz hyy => ?_⟩
    obtain ⟨T, vx, rfl, hT0, rfl, z1⟩ := hyy
    obtain ⟨dx, y1, rfl⟩ := enumD_get hz
    obtain ⟨wx, e1, e2⟩ := denL_get g2 y1
    have := z1 us g1.sq
    rw [e1] at this
    cases this
    have nt := new_tr (K := X.K) (M := M2) (S := S2) (o := .tup [.int (i : Nat), vx]) hT0
    refine ⟨nt, new_st r2 hT0, ?_⟩
    simp only [Den]
    refine ⟨T, [.int (i : Nat), vx], rfl, .inl ⟨upd_same, new_mu r2 hT0⟩, denL_tr r2 nt [.int (i : Nat), dx] [.int (i : Nat), vx] (denL_cons (by simp only [Den]) (denL_cons e2 denL_nil))⟩⟩
end
end PL
end
/-! from PLP2.lean -/
section
/-! PLP2: the readings' calculus for classes and dicts. -/
namespace PL
open PySem L2
variable [TabCtx]

section
variable {w : World} {S : Sto} {Q : QK} {ds : List D} {i : Int}
theorem dctN_tup {kvs : List (NestedKey × D)} : ¬ DctN w S (.tup ds) kvs := fun h => by
  rcases h with h | ⟨a, ep, h, _⟩ <;> cases h
theorem dctN_lst {kvs : List (NestedKey × D)} : ¬ DctN w S (.lst ds) kvs := fun h => by
  rcases h with h | ⟨a, ep, h, _⟩ <;> cases h
theorem dctK_tup {kvs : List (Key × D)} : ¬ DctK S (.tup ds) kvs := fun h => by
  rcases h with h | ⟨a, h, _⟩ <;> cases h
theorem dctK_lst {kvs : List (Key × D)} : ¬ DctK S (.lst ds) kvs := fun h => by
  rcases h with h | ⟨a, h, _⟩ <;> cases h
theorem dIxA_t : dIxA w (.tup ds) (.int i) S Q ↔ ∃ d, atI ds i = some d ∧ Q d S := by
  unfold dIxA
  constructor
  · rintro (h | ⟨kvs, n, d, h, _⟩ | ⟨kvs, n, d, h, _⟩)
    · obtain ⟨j, e, xs, d, hs, ha, hq⟩ := h
      cases e
      cases (show ds = xs from hs)
      exact ⟨d, ha, hq⟩
    · exact absurd h dctN_tup
    · exact absurd h dctK_tup
  · rintro ⟨d, ha, hq⟩
    exact .inl ⟨i, rfl, ds, d, rfl, ha, hq⟩
theorem dIxA_l : dIxA w (.lst ds) (.int i) S Q ↔ ∃ d, atI ds i = some d ∧ Q d S := by
  unfold dIxA
  constructor
  · rintro (h | ⟨kvs, n, d, h, _⟩ | ⟨kvs, n, d, h, _⟩)
    · obtain ⟨j, e, xs, d, hs, ha, hq⟩ := h
      cases e
      cases (show ds = xs from hs)
      exact ⟨d, ha, hq⟩
    · exact absurd h dctN_lst
    · exact absurd h dctK_lst
  · rintro ⟨d, ha, hq⟩
    exact .inl ⟨i, rfl, ds, d, rfl, ha, hq⟩
theorem dIxA_r {p : Addr} {xs : List D} (h : S p = some (.lst xs)) : dIxA w (.ref p) (.int i) S Q ↔ ∃ d, atI xs i = some d ∧ Q d S := by
  unfold dIxA
  constructor
  · rintro (h1 | ⟨kvs, n, d, h1, _⟩ | ⟨kvs, n, d, h1, _⟩)
    · obtain ⟨j, e, ys, d, hs, ha, hq⟩ := h1
      cases e
      have : S p = some (.lst ys) := hs
      rw [h] at this
      cases this
      exact ⟨d, ha, hq⟩
    · rcases h1 with h1 | ⟨a, ep, h1, h2⟩
      · cases h1
      · cases h1
        rw [h] at h2
        cases h2
    · rcases h1 with h1 | ⟨a, h1, h2⟩
      · cases h1
      · cases h1
        rw [h] at h2
        cases h2
  · rintro ⟨d, ha, hq⟩
    exact .inl ⟨i, rfl, xs, d, h, ha, hq⟩
/-- a dict's value at a tuple -/
theorem dIxA_n {d : D} {kvs : List (NestedKey × D)} {y x : D} {n : NestedKey} (h : DctN w S d kvs) (k : IsKey y n) (e : lookN kvs n = some x) (q : Q x S) : dIxA w d y S Q := .inr (.inl ⟨kvs, n, x, h, k, e, q⟩)
theorem dIxA_k {d : D} {kvs : List (Key × D)} {x : D} {n : Key} (h : DctK S d kvs) (e : lookK kvs n = some x) (q : Q x S) : dIxA w d (kD n) S Q := .inr (.inr ⟨kvs, n, x, h, rfl, e, q⟩)
theorem dFld_o {cs : List Addr} {f : Str} {C : Addr} {fs : List (Str × D)} {x : D} (hc : C ∈ cs) (e : fs.lookup f = some x) (q : Q x S) : dFld cs f (.obj C fs) S Q := ⟨C, fs, x, .inl rfl, hc, e, q⟩
end
end PL
end
/-! from PLJ.lean -/
section
/-! PLJ: a def's end: what only the def knew of is dropped, what it made and tells is handed over for good. -/
namespace PL
open PySem L2
variable [TabCtx]

/-- what S0 knows, S knows -/
def SLe (S0 S : Sto) : Prop := ∀ a, S0 a ≠ none → S a = S0 a
def frzD : Ob → D
  | .lst ds => .lst ds
  | .dct kvs => .dct kvs
  | .dcn w kvs _ => .dcn w kvs
  | .ins C fs => .obj C fs
/-- a def's end, seen from outside -/
def End (Q : QK) : QK := fun d S => ∃ S1, SLe S1 S ∧ (Q d S1 ∨ ∃ p o, d = .ref p ∧ S p = some o ∧ S1 p = none ∧ Q (frzD o) S1)
theorem SLe.refl {S : Sto} : SLe S S := fun _ _ => rfl
theorem SLe.trans {S S' S'' : Sto} (h : SLe S S') (h' : SLe S' S'') : SLe S S'' := fun a n => by
  have e := h a n
  rw [h' a (by rw [e]; exact n), e]
theorem SLe.put {S S' : Sto} {p : Addr} {o : Ob} (h : SLe S S') (n : S p = none) : SLe S (S'.put p o) := fun a m => by
  rw [Sto.put_ne (fun e => m (by rw [e]; exact n))]
  exact h a m
theorem SLe.put1 {S : Sto} {p : Addr} {o : Ob} (n : S p = none) : SLe S (S.put p o) := SLe.refl.put n
theorem end_id {Q : QK} {d : D} {S : Sto} (h : Q d S) : End Q d S := ⟨S, SLe.refl, .inl h⟩
theorem end_le {Q : QK} {d : D} {S S' : Sto} (l : SLe S S') (h : Q d S) : End Q d S' := ⟨S, l, .inl h⟩
theorem end_frz {Q : QK} {S S' : Sto} {p : Addr} {o : Ob} (l : SLe S S') (e : S' p = some o) (n : S p = none) (h : Q (frzD o) S) : End Q (.ref p) S' := ⟨S, l, .inr ⟨p, o, rfl, e, n, h⟩⟩
section
variable {K : PySem.W.Frag} {M M' : Mu} {S S' S1 : Sto} {H H' : Hp}
theorem sle_st (r : StD K M H S) (l : SLe S1 S) : StD K M H S1 :=
  ⟨fun a o e => r.ob a o (by rw [l a (by rw [e]; simp)]; exact e), fun a n => r.mu a (by rw [l a n]; exact n), r.tr, r.tab.gen (fun a o _ e n => ⟨e, n⟩) fun P o _ e m n => ⟨e, (by
    cases q : S1 P with
    | none => rfl
    | some o =>
      have := l P (by rw [q]; simp)
      rw [n, q] at this
      cases this), fun _ => m⟩⟩
theorem sle_tr (t : Tr K M S H M' S' H') (l : SLe S1 S') : Tr K M S H M' S1 H' := ⟨t.keep, fun a o e m n y => by
  obtain ⟨h1, h2, h3⟩ := t.forn a o e m n y
  refine ⟨h1, h2, ?_⟩
  cases e1 : S1 a with
  | none => rfl
  | some u =>
    have := l a (by rw [e1]; simp)
    rw [h3, e1] at this
    cases this⟩
theorem del_tr (t : Tr K M S H M' S' H') {p : Addr} (hp : S' p ≠ none) : Tr K M S H (M'.del p) (S'.del p) H' := ⟨fun b o e n => by
  obtain ⟨h1, m1⟩ := t.keep b o e n
  exact ⟨h1, fun z => m1 z.1⟩, fun b o e m n y => by
  obtain ⟨h1, m1, s1⟩ := t.forn b o e m n y
  have ne : b ≠ p := fun z => hp (by rw [← z]; exact s1)
  exact ⟨h1, ⟨m1, ne⟩, by unfold Sto.del; rw [if_neg ne]; exact s1⟩⟩
theorem frz_den {p : Addr} {o : Ob} (h : ObD K M H p o) : Den K (M.del p) H (frzD o) (.ref p) := by
  have h' := obD_kp (frz_kp (a := p)) h rfl
  cases o with
  | lst ds =>
    obtain ⟨vs, e, d⟩ := h'
    simp only [frzD, Den]
    exact ⟨p, vs, rfl, e, fun z => z.2 rfl, d⟩
  | dct kvs =>
    obtain ⟨vs, e, d⟩ := h'
    simp only [frzD, Den]
    exact ⟨p, vs, rfl, e, fun z => z.2 rfl, d⟩
  | dcn w kvs ep =>
    obtain ⟨vs, e, d⟩ := h'
    simp only [frzD, Den]
    exact ⟨p, vs, ep, rfl, e, fun z => z.2 rfl, d⟩
  | ins C fs =>
    obtain ⟨dx, vs, e, d⟩ := h'
    simp only [frzD, Den]
    exact ⟨p, dx, vs, rfl, e, fun z => z.2 rfl, d⟩
theorem okQ_end {Q' : QK} {Q : VK} (h : OkQ K M S H Q' Q) : OkQ K M S H (End Q') Q := by
  intro M1 S1 H1 t r d v hd ⟨S2, l, hq⟩
  rcases hq with hq | ⟨p, o, rfl, e, n, hq⟩
  · exact h M1 S2 H1 (sle_tr t l) (sle_st r l) d v hd hq
  · simp only [Den] at hd
    subst hd
    have l' : SLe S2 (S1.del p) := fun a m => by
      unfold Sto.del
      rw [if_neg (fun z => m (by rw [z]; exact n))]
      exact l a m
    exact h (M1.del p) S2 H1 (sle_tr (del_tr t (by rw [e]; simp)) l') (sle_st (frz_st r (notabS r e)) l') _ _ (frz_den (r.ob p o e)) hq
end
section
variable {P : Program} {w : World} {K : PySem.W.Frag} {mg : Str → Option Value} {base : Heap} {k : Nat} {x : Str} {ps N : List Str} {sp : PSp} {st : Stmt} {wb : WS}
def endSp (sp : PSp) : PSp := fun ds S Q E => ∃ Q0, sp ds S Q0 E ∧ Q = End Q0
theorem Fn1.fin (F : Fn1 P w K mg base k x ps (endSp sp)) : Fn1 P w K mg base k x ps sp := by
  obtain ⟨f, fd, h1, h2, h3, h4⟩ := F
  exact ⟨f, fd, h1, h2, h3, FnOk.imp h4 fun vs H Q E ⟨M, S, ds, Q', E', r, hd, hs, oq, ox⟩ => ⟨M, S, ds, End Q', E', r, hd, ⟨Q', hs, rfl⟩, okQ_end oq, ox⟩⟩
/-- a def whose end is seen from outside -/
theorem fn1E (T : Tx1 K mg x st) (S : FnScope N ps (defScope st)) (hb : ∀ (fd : FuncData) (f : Addr), FunD K x x (defArgs st) (defBody st) (defScope st) [] [] f fd → Binds K fd ps []) (D : Dv P w K mg base N x st k wb)
    (len : ∀ ds S Q E, sp ds S Q E → ds.length = ps.length) (pure : ∀ ds S Q E, sp ds S Q E → wb { nx := fun _ S' => End Q .non S', rt := End Q } (fun c fs _ S' => E c fs S') (startG N ds) S) : Fn1 P w K mg base (k + 1) x ps sp :=
  Fn1.fin (fn1 T S hb D (fun ds S Q E ⟨Q0, h, _⟩ => len ds S Q0 E h) fun ds S Q E ⟨Q0, h, e⟩ => by
    subst e
    exact pure ds S Q0 E h)
end
end PL
end
/-! from PLL.lean -/
section
/-! PLL: xs != ys of lists of dicts that are alike. -/
namespace PL
open PySem PySem.Spec PyProof.Rows L2 PySem.SeqAt
open AutoSeq1 (wpAny_loadPart')
open MeetsSeq MeetsSeq2 MeetsSeq3
variable [TabCtx]

section
variable {prog : Program} {w : World} {l m : Addr} {xs ys : Array Value}
abbrev lsO (xs : Array Value) (n : Nat) (dd : Option Addr) (sl : Array (Option Value)) : Obj := { cls := .type "list", dict := dd, data := .seq xs n, slots := sl }
/-- from i on all are alike: the answer is False -/
theorem ne_turns {n n2 : Nat} {dd dd2 : Option Addr} {sl sl2 : Array (Option Value)} (hz : xs.size = ys.size) : ∀ (d i : Nat), i + d = xs.size →
    MeetsIn prog w (Builtin.«list.__eq__.loop» ⟨[.ref l, .ref m, rawInt i, rawInt 3], []⟩)
      (fun A R s => (s.heap.get? l = some (lsO xs n dd sl) ∧ s.heap.get? m = some (lsO ys n2 dd2 sl2)) ∧ (∀ j (h1 : j < xs.size) (h2 : j < ys.size), EqIn prog w A.in1 s xs[j] ys[j] true) ∧ R (.ok (.ret (.bool false))) s)
  | 0, i, hi => by
    rintro A R ⟨hp, g, dt, tk, os⟩ ⟨⟨gl, gm⟩, _, fin⟩
    wp_walk using wpAny_loadPart' gl, wpAny_loadPart' gm
    rw [show xs[((i : Nat) : Int).toNat]? = none by simp; omega, show ys[((i : Nat) : Int).toNat]? = none by simp; omega]
    wp_walk using wpAny_loadPart' gl, wpAny_loadPart' gm
    show R (.ok (.ret (.bool (xs.size != ys.size)))) _
    simpa [hz] using fin
  | d + 1, i, hi => by
    rintro A R ⟨hp, g, dt, tk, os⟩ ⟨⟨gl, gm⟩, each, fin⟩
    wp_walk using wpAny_loadPart' gl, wpAny_loadPart' gm
    have h1 : i < xs.size := by omega
    have h2 : i < ys.size := by omega
    rw [show xs[((i : Nat) : Int).toNat]? = some xs[i] by simp [h1], show ys[((i : Nat) : Int).toNat]? = some ys[i] by simp [h2]]
    refine wpAny_bind (each i h1 h2 _ _ ?_)
    wp_walk
    have e1 : ((i : Int) + 1) = ((i + 1 : Nat) : Int) := by push_cast; rfl
    rw [e1]
    refine ⟨plainId_quiet plain_eq_loop _, codeAny_builtin entry_eq_loop ?_⟩
    rw [Around.under_plainId plain_eq_loop _]
    exact ne_turns hz d (i + 1) (by omega) A R _ ⟨⟨gl, gm⟩, each, fin⟩
theorem ne_all {n n2 : Nat} {dd dd2 : Option Addr} {sl sl2 : Array (Option Value)} (hz : xs.size = ys.size) :
    MeetsIn prog w (Builtin.«list.__ne__» ⟨[.ref l, .ref m], []⟩)
      (fun A R s => (s.heap.get? l = some (lsO xs n dd sl) ∧ s.heap.get? m = some (lsO ys n2 dd2 sl2)) ∧ (∀ j (h1 : j < xs.size) (h2 : j < ys.size), EqIn prog w A.in1 s xs[j] ys[j] true) ∧ R (.ok (.ret (.bool false))) s) := by
  rintro A R ⟨hp, g, dt, tk, os⟩ ⟨⟨gl, gm⟩, each, fin⟩
  have f3 := AutoSeq1.sub_list_list
  have nz : ¬ (xs.size != ys.size) = true := by simp [hz]
  wp_walk using wpAny_loadPart' gl, wpAny_loadPart' gm
  refine ⟨plainId_quiet plain_eq_loop _, codeAny_builtin entry_eq_loop ?_⟩
  rw [Around.under_plainId plain_eq_loop _]
  exact ne_turns hz xs.size 0 (by omega) A R _ ⟨⟨gl, gm⟩, each, fin⟩
theorem lists_ne {A : Around} {s : Shared} {E Q : Value → Shared → Prop} (gl : s.heap.IsList l xs) (gm : s.heap.IsList m ys) (hz : xs.size = ys.size) (hu : A.units < cLine)
    (each : ∀ j (h1 : j < xs.size) (h2 : j < ys.size), EqIn prog w A.in1 s xs[j] ys[j] true) (fin : Q (.bool false) s) : wpAny (model prog w) A (compareOp .NotEq (.ref l) (.ref m)) Q E s := by
  obtain ⟨⟨c1, d1, x1, s1⟩, o1, k1, n1, y1⟩ := id gl
  obtain ⟨⟨c2, d2, x2, s2⟩, o2, k2, n2, y2⟩ := id gm
  simp only at k1 y1 k2 y2
  subst k1 y1 k2 y2
  refine wpAny_richCompare_same_room (T := "list") (op := .NotEq) ⟨_, o1, rfl⟩ ⟨_, o2, rfl⟩ F.slot_list_ne (call_meetsIn F.slot_list_ne ⟨_, o1, rfl⟩ F.entry_list_ne (F.args_list_ne_2 _ _) (ne_all hz) ⟨⟨o1, o2⟩, each, ?_⟩) hu
  exact ⟨(fun z => nomatch z), fin⟩
end
section
variable {X : Cx} {k : Nat}
theorem eq_readyA {A : Around} {pins : List (Addr × Obj)} {σ : L2.St} {H : Hp} {s : Shared} {M : Mu} {ks ls : List (NestedKey × D)} {es fs : List NE} {xs ys : List NX} (I : Inv X pins σ H s) (hu : A.in1.units + 64 < cLine) (h1 : DenN X.K M H ks es) (h2 : DenN X.K M H ls fs) (r1 : Paired RelE es xs) (r2 : Paired RelE fs ys)
    (n1 : (es.map (·.1)).Nodup) (s1 : ∀ p ∈ ks, Shp p.2) (s2 : ∀ p ∈ ls, Shp p.2) : ∃ ev : NestedKey → Bool, (∀ x ∈ xs, ∀ p, atKey ys x.1 = some p → SeqAt.EqAt A.in1 s x.2.2 p.2 (ev x.1)) ∧ (xs.length == ys.length && eqH ev ys xs) = eqN ks ls := by
  rw [denN_map1 h1] at n1
  have hs : ∀ n, (atKey ys n).isSome = (lookN ls n).isSome := fun n => by
    have g := (get_rel r2 n).isSome
    rw [Option.isSome_map] at g
    rw [← g]
    rcases denN_get (k := n) h2 with ⟨e1, e2⟩ | ⟨d2, v2, e1, e2, _⟩ <;> rw [e1, e2] <;> rfl
  refine ⟨fun n => match lookN ks n with
    | some d => atE ls n d
    | none => false, fun x mx p hp => ?_, ?_⟩
  · obtain ⟨e, me, q1, q2, q3⟩ := paired_mem r1 x mx
    obtain ⟨d, md, hd⟩ := denN_mem h1 me
    rw [q1] at md
    have hl := mem_lookN n1 md
    have g := get_rel r2 x.1
    rw [hp] at g
    rcases denN_get (k := x.1) h2 with ⟨e1, e2⟩ | ⟨d2, v2, e1, e2, e3⟩
    · rw [e2] at g
      cases g
    · rw [e2] at g
      cases g with
      | some rv =>
        simp only [hl]
        unfold atE
        rw [e1]
        obtain ⟨pd, t1, t2⟩ := s1 _ md
        obtain ⟨pe, t3, t4⟩ := s2 _ (lookN_mem e1)
        simp only [pyE, t1, t3]
        obtain ⟨as, a1⟩ := Dp.reads I pd _ _ (dp_den _ _ _ hd t1) q3
        obtain ⟨bs, a2⟩ := Dp.reads I pe _ _ (dp_den _ _ _ e3 t3) rv
        exact PySem.W.keq_at a1 a2 t2 t4 hu
  · have l1 : xs.length = ks.length := by rw [← Paired.length r1, denN_len h1]
    have l2 : ys.length = ls.length := by rw [← Paired.length r2, denN_len h2]
    rw [eqH_eq hs h1 r1 fun p mp => by
      have hl := mem_lookN n1 (show (p.1, p.2) ∈ ks from mp)
      simp only [hl]]
    unfold eqN
    rw [l1, l2]
/-- xs != ys, of lists of dicts that are alike -/
def dNeLN (w : World) : RD := fun x y S Q => ∃ xs ys : List (List (NestedKey × D)), x = .lst (xs.map (D.dcn w)) ∧ y = .lst (ys.map (D.dcn w)) ∧ xs.length = ys.length ∧
  (∀ (i : Nat) ks ls, xs[i]? = some ks → ys[i]? = some ls → (∀ p ∈ ks, Shp p.2) ∧ (∀ p ∈ ls, Shp p.2) ∧ eqN ks ls = true) ∧ Q (.bl false) S
theorem od_neLN (hr : Room k X.A) : OD X (compareOp .NotEq) (dNeLN X.w) := by
  intro pins s σ H x y v u Q I rx ry q
  obtain ⟨M, S, d, e, Q', r, h1, h2, ⟨xs, ys, rfl, rfl, hl, hall, hq⟩, oq⟩ := q
  simp only [Den] at h1 h2
  obtain ⟨a, vs, rfl, g1, _, g2⟩ := h1
  obtain ⟨b, us, rfl, g3, _, g4⟩ := h2
  obtain rfl : v = Value.ref a := rx
  obtain rfl : u = Value.ref b := ry
  obtain ⟨its, rv, pl, _⟩ := I.list (.inl (.inl g1))
  obtain ⟨jts, ru, pm, _⟩ := I.list (.inl (.inl g3))
  have z1 := denL_len g2
  have z2 := denL_len g4
  rw [List.length_map] at z1 z2
  have z3 := rv.length
  have z4 := ru.length
  have un := hr.un
  refine lists_ne pl.isList pm.isList (by simp; omega) (by omega) (fun j i1 i2 => ?_) ⟨.bl false, H, I, rfl, oq.now r (.bl false) _ (by simp [Den]) hq⟩
  have j1 : j < its.length := by simpa using i1
  have j2 : j < jts.length := by simpa using i2
  have jx : j < xs.length := by omega
  have jy : j < ys.length := by omega
  obtain ⟨dv, e1, e2⟩ := denL_get g2 (show (xs.map (D.dcn X.w))[j]? = some (.dcn X.w xs[j]) by rw [List.getElem?_map, List.getElem?_eq_getElem jx]; rfl)
  obtain ⟨du, e3, e4⟩ := denL_get g4 (show (ys.map (D.dcn X.w))[j]? = some (.dcn X.w ys[j]) by rw [List.getElem?_map, List.getElem?_eq_getElem jy]; rfl)
  obtain ⟨t1, t2, t3⟩ := hall j xs[j] ys[j] (List.getElem?_eq_getElem jx) (List.getElem?_eq_getElem jy)
  obtain ⟨p, q1, q2⟩ := rv.get e1
  obtain ⟨p', q3, q4⟩ := ru.get e3
  have ep : its.toArray[j] = p := by
    rw [List.getElem?_eq_getElem j1] at q1
    simpa using q1
  have ep' : jts.toArray[j] = p' := by
    rw [List.getElem?_eq_getElem j2] at q3
    simpa using q3
  rw [ep, ep']
  simp only [Den] at e2 e4
  obtain ⟨a1, es, ep1, rfl, f1, _, f2⟩ := e2
  obtain ⟨b1, fs, ep2, rfl, f3, _, f4⟩ := e4
  obtain rfl : p = Value.ref a1 := q2
  obtain rfl : p' = Value.ref b1 := q4
  by_cases ne : a1 = b1
  · subst ne
    exact (SeqAt.EqAt.same _).inModel _ _
  · obtain ⟨y1, _, nx, r1, dd1⟩ := nd_of I f1 (denN_keys f2)
    obtain ⟨y2, _, ny, r2, dd2⟩ := nd_of I f3 (denN_keys f4)
    obtain ⟨ev, v1, v2⟩ := eq_readyA (A := X.A.in1) I (show X.A.units + 1 + 1 + 64 < cLine by omega) f2 f4 r1 r2 (nd_at I f1).2.2.1 t1 t2
    refine SeqAt.EqIn.of_refs ne fun E Q hq => ?_
    refine dicts_eq (knd := nestedKind X.prog X.w) (A := X.A.in1) (show X.A.units + 1 < cLine by omega) (show X.A.units + 1 + 1 + 8 < cLine by omega) y1 y2 dd1 dd2 (fun _ => v1) ?_
    rw [v2, t3]
    exact hq
/-- [..] * n, to be written -/
def dRepM : RD := fun x y S Q => ∃ ds j, x = .lst ds ∧ y = .int j ∧ -(2 ^ 63) ≤ j ∧ j < 2 ^ 63 ∧ ds.length * j.toNat ≤ sizeLine ∧ ∀ p, S p = none → Q (.ref p) (S.put p (.lst (List.replicate j.toNat ds).flatten))
theorem od_repM : OD X (binaryOp .Mult) dRepM := od_of op_rep fun M S H d e x y Q' Q r h1 h2 hq oq => by
  obtain ⟨ds, j, rfl, rfl, h3, h4, h5, hq⟩ := hq
  simp only [Den] at h1 h2
  obtain ⟨p, vs, rfl, e1, m1, e2⟩ := h1
  refine ⟨p, j, vs, rfl, h2, e1, h3, h4, by rw [denL_len e2]; exact h5, fun n hn => ?_⟩
  have t2 : Tr X.K M S H (M.add n) (S.put n (.lst (List.replicate j.toNat ds).flatten)) (upd H n (.lst (List.replicate j.toNat vs).flatten)) := add_tr hn _
  refine oq _ _ _ t2 (add_st r hn ⟨_, upd_same, denL_tr r t2 _ _ (denL_rep e2 _)⟩) _ _ ?_ (hq n (new_no r hn))
  simp only [Den]
end
end PL
end
/-! from PLLa.lean -/
section
/-! PLLa: a key by a lambda: (x[0][0] * (z // x[0][1]), x[1]), its body and its call, told of the whole heap. -/
namespace PL
open PySem PySem.Spec PySem.Calls PyProof.Rows L2 PySem.W

/-! ### expressions that leave the heap as it is -/
section
variable {prog : Program} {w : World} {A : Around} {s : Shared} {env : Env}
/-- e is worth what R says, and nothing but the tokens changes -/
def EvR (prog : Program) (w : World) (A : Around) (s : Shared) (env : Env) (e : Expr) (R : Value → Prop) : Prop :=
  ∀ (t0 : Tok) (E Q : Value → Shared → Prop), (∀ v t, R v → Q v { s with toks := t }) → wpAny (model prog w) A (eval e env) Q E { s with toks := t0 }
def IntV (i : Int) (v : Value) : Prop := ∃ u, v = .int i u
theorem evr_loc {y : Str} {p : Pos} {v : Value} {m : Str → Option Value} (hk : env.scope.kind = .function) (hl : env.kindOf y = some .local) (hn : s.heap.Ns env.locals m) (hv : m y = some v) (hd : (y == ("__debug__" : Str)) = false) : EvR prog w A s env (.Name y p) (fun u => u = v) :=
  fun t0 E Q h => wpAny_Name (wpAny_loadName_local hk hl hn hv (h v t0 rfl)) hd
theorem evr_free {z : Str} {p : Pos} {i : Int} {c : Addr} {u : Tok} (hk : env.scope.kind = .function) (hl : env.kindOf z = some .free) (hc : env.cells.lookup z = some c) (hv : s.heap.IsCell c (some (.int i u))) (hd : (z == ("__debug__" : Str)) = false) (hn : (z == ("__classdict__" : Str)) = false) :
    EvR prog w A s env (.Name z p) (IntV i) := fun t0 E Q h => wpAny_Name (wpAny_loadName_free hk hl hc hv (h _ t0 ⟨u, rfl⟩) hn) hd
theorem evr_int {i : Int} {k : Nat} {p : Pos} : EvR prog w A s env (.Constant (.int i) k p) (IntV i) := fun t0 E Q h => wpAny_Constant_int (h _ _ ⟨_, rfl⟩)
theorem evr_ix {e : Expr} {i : Int} {k : Nat} {p p' : Pos} {t : Addr} {items : Array Value} {x : Value} (he : EvR prog w A s env e (fun u => u = .ref t)) (ht : IsTup s.heap t items) (h0 : 0 ≤ i) (h1 : i < 2 ^ 62) (hx : items[i.toNat]? = some x) (hg : ∀ o r, letTemporaryGo e o r = pure () := by intro _ _; rfl) :
    EvR prog w A s env (.Subscript e (.Constant (.int i) k p) p') (fun u => u = x) := fun t0 E Q h => by
  refine Subscript_Constant (he t0 E _ fun v t1 hv => ?_) hg
  subst hv
  refine evr_int (s := s) t1 E _ fun v2 t2 hv2 => ?_
  obtain ⟨u, rfl⟩ := hv2
  have hlt : i.toNat < items.size := by
    rcases Nat.lt_or_ge i.toNat items.size with z | z
    · exact z
    · rw [Array.getElem?_eq_none z] at hx
      cases hx
  obtain ⟨o, ho, hc, hd⟩ := id ht
  exact ⟨"tuple", _, PySem.F.slot_tuple_getitem.lookup, ⟨o, ho, hc⟩, getItem_tuple (s := { s with toks := t2 }) ht (by omega) (by omega) (seqIndex_of h0 (by omega)) hx (h x t2 rfl)⟩
theorem evr_mul {a b : Expr} {i j : Int} {p : Pos} (ha : EvR prog w A s env a (IntV i)) (hb : EvR prog w A s env b (IntV j)) (hm : IntMulOk i j) : EvR prog w A s env (.BinOp a .Mult b p) (IntV (i * j)) := fun t0 E Q h => by
  refine wpAny_BinOp (ha t0 E _ fun v t1 hv => ?_)
  obtain ⟨u, rfl⟩ := hv
  refine hb t1 E _ fun v2 t2 hv2 => ?_
  obtain ⟨u2, rfl⟩ := hv2
  exact PyProof.Rows.mul_int (h _ _ ⟨_, rfl⟩) hm
theorem evr_div {a b : Expr} {i j : Int} {p : Pos} (ha : EvR prog w A s env a (IntV i)) (hb : EvR prog w A s env b (IntV j)) (hm : CDivA i j) : EvR prog w A s env (.BinOp a .FloorDiv b p) (IntV (i.fdiv j)) := fun t0 E Q h => by
  refine wpAny_BinOp (ha t0 E _ fun v t1 hv => ?_)
  obtain ⟨u, rfl⟩ := hv
  refine hb t1 E _ fun v2 t2 hv2 => ?_
  obtain ⟨u2, rfl⟩ := hv2
  exact PyProof.Rows.floordiv_int hm.1 (h _ _ ⟨_, rfl⟩) (.inl (PyProof.noPylong_of_log2 hm.2))
theorem EvR.to {e : Expr} {R R' : Value → Prop} (h : EvR prog w A s env e R) (i : ∀ v, R v → R' v) : EvR prog w A s env e R' := fun t0 E Q q => h t0 E Q fun v t r => q v t (i v r)
end
/-- a pair (i, j), made anew: all that was there stands -/
def MadeT (s : Shared) (i j : Int) (v : Value) (s' : Shared) : Prop := ∃ h' t, s' = { s with heap := h', toks := t } ∧ (∀ b o, s.heap.get? b = some o → h'.get? b = some o) ∧ Reads h' v (.tuple [.int i, .int j]) []
theorem ev_pair {prog : Program} {w : World} {A : Around} {s : Shared} {env : Env} {a b : Expr} {k : Nat} {p : Pos} {i j : Int} {E : Value → Shared → Prop} (ha : EvR prog w A s env a (IntV i)) (hb : EvR prog w A s env b (IntV j))
    (sa : starEach [a, b] env = [(false, eval a env), (false, eval b env)] := by rfl) : wpAny (model prog w) A (eval (.Tuple [a, b] k p) env) (MadeT s i j) E s := by
  refine wpAny_Tuple_spliced ?_
  rw [sa]
  show wpAny _ _ (spliced [(false, eval a env), (false, eval b env)]) _ _ s
  refine spliced_cons (ha s.toks E _ fun v t1 hv => ?_)
  refine spliced_cons (hb t1 E _ fun v2 t2 hv2 => ?_)
  refine spliced_nil ⟨by show 2 ≤ sizeLine; decide, ?_⟩
  obtain ⟨u1, rfl⟩ := hv
  obtain ⟨u2, rfl⟩ := hv2
  refine ⟨s.heap.push { cls := .type "tuple", data := .seq #[.int i u1, .int j u2] }, t2, rfl, fun b o e => Heap.get?_push_of_some _ e, ?_⟩
  exact .tuple (Heap.get?_push_size _ rfl) rfl rfl (.cons (.int i u1) (.cons (.int j u2) .nil))
/-! ### the lambda's call -/
theorem lam_call {prog : Program} {w : World} {A : Around} {s : Shared} {nm qual y : Str} {params : Arguments} {ea eb : Expr} {kk : Nat} {pp : Pos} {scope : Scope} {cl : List (Str × Addr)} {pm ctv v : Value} {c' f : Addr} {i j : Int}
    (hf : s.heap.get? f = some (kla_obj nm qual params (.Tuple [ea, eb] kk pp) scope cl pm c' ctv)) (hcd : s.heap.CodeRec (.ref c') qual) (hb : bindArgs (kla_fn nm qual params (.Tuple [ea, eb] kk pp) scope cl pm (.ref c') ctv) ⟨[v], []⟩ = pure [(y, v)])
    (hk : scope.kind = .function) (hco : scope.isCoroutine = false) (hgen : scope.isGenerator = false) (hcell : ∀ x ∈ scope.names, x.2 ≠ .cell) (hy : scope.names.lookup y = some .local) (lim : s.heap.NoLimit) (hroom : A.depth < recursionLimit)
    (hs : ∀ env : Env, starEach [ea, eb] env = [(false, eval ea env), (false, eval eb env)])
    (hev : ∀ (A' : Around) (s' : Shared) (L : Addr) (m : Str → Option Value), s'.heap.Ns L m → m y = some v → (∀ b o, s.heap.get? b = some o → s'.heap.get? b = some o) →
      EvR prog w A' s' (envX qual scope L f (.ref c') cl) ea (IntV i) ∧ EvR prog w A' s' (envX qual scope L f (.ref c') cl) eb (IntV j)) :
    wpAny (model prog w) A (call (.ref f) [v]) (KeyPure (.tuple [.int i, .int j]) s) (fun _ _ => False) s := by
  refine wpAny_call (kla_callFunE hroom hf rfl hco hgen rfl hcd ?_)
  rw [hb]
  refine wpAny_pure (wpAny_newFunctionEnv hcell (fun x hx => ?_) (fun h₁ hns hsb => ⟨lim.fresh _ hsb, ?_⟩) hk)
  · obtain rfl : x = (y, v) := by simpa using hx
    exact hy
  · show codeAny _ _ (.expr _ (envX qual scope s.heap.objs.size f (.ref c') cl)) _ _
    have kp : ∀ b o, s.heap.get? b = some o → h₁.get? b = some o := fun b o e => hsb.extBut b o (Nat.ne_of_lt (Heap.lt_size e)) (Heap.get?_push_of_some _ e)
    refine kla_codeExpr ?_
    obtain ⟨e1, e2⟩ := hev (A.deeper (envX qual scope s.heap.objs.size f (.ref c') cl)) { s with heap := h₁, toks := s.toks + [(y, v)].length } s.heap.objs.size _ hns (by simp) kp
    refine wpAny_mono (ev_pair (E := fun _ _ => False) e1 e2 (hs _)) (fun u s' hu => ?_) fun _ _ z => z.elim
    obtain ⟨h', t, rfl, k2, rd⟩ := hu
    exact ⟨h', t, rfl, fun b o e => k2 b o (kp b o e), rd⟩
end PL
end
/-! from PLLb.lean -/
section
/-! PLLb: sorted(xs, key=lambda x: (x[0][0] * (z // x[0][1]), x[1])), z a name of the def around. -/
namespace PL
open PySem PySem.Spec PySem.Calls PyProof.Rows L2 PySem.W LamX NdefX
variable [TabCtx]

/-- the table ps at P tells code objects of the name q -/
def TellsQ (H : Hp) (q : Str) (ps : Array Value) : Prop := TriplesOk ps.toList ∧ ∀ (pos : Pos) (cv : Value), codeAmong pos ps.toList = some cv → ∃ c, cv = .ref c ∧ H c = some (CodeO c q)
section
variable {X : Cx} {pins : List (Addr × Obj)} {σ : L2.St} {H : Hp} {s : Shared}
/-- a lambda is made: what stood stands, but the table, which may have grown -/
theorem lam_new {c P : Addr} {q : Str} {ps : Array Value} {params : Arguments} {body : Expr} {scope : Scope} {pos : Pos} {E : Value → Shared → Prop} {Q : Value → Shared → Prop} (I : Inv X pins σ H s) (TB : TabB X.base X.mg c P) (hcode : X.env.code = .ref c) (hq : q = X.env.qual ++ "<lambda>")
    (hP : H P = some (.tbl ps)) (tells : TellsQ H q ps) (hdef : defaultsOf params X.env = ([], [])) (hfree : ∀ y ∈ scope.names, y.2 = .free → ∃ c, X.env.cells.lookup y.1 = some c)
    (fin : ∀ (f c' : Addr) (pm ctv : Value) (H2 : Hp) (s2 : Shared) (ps' : Array Value), Inv X pins σ H2 s2 → (∀ a o, a ≠ P → H a = some o → H2 a = some o) → H2 P = some (.tbl ps') → TellsQ H2 q ps' → (∀ a o, H2 a = some o → a = P ∨ H a = some o ∨ H a = none) →
      s2.heap.get? f = some (kla_obj "<lambda>" q params body scope (cloFrom X.env.cells scope.names []) pm c' ctv) → s2.heap.CodeRec (.ref c') q → Q (.ref f) s2) :
    wpAny (model X.prog X.w) X.A (eval (.Lambda params body scope pos) X.env) Q E s := by
  subst hq
  have at0 : s.heap.get? P = some { cls := .none, data := .fields ps } := I.hok P _ hP
  have bm := TB.bm.keeps I.bk
  have clo := closure_ok hfree
  refine kla_eval hdef ?_
  cases hit : codeAmong pos ps.toList with
  | some cv =>
    obtain ⟨c', rfl, known⟩ := tells.2 pos cv hit
    refine kla_makeFunctionHit (mg := X.mg) (c := c) (P := P) (ps := ps) clo I.ok.glob (I.mod.glob.keeps I.bk) hcode (TB.code.keeps I.bk) at0 tells.1 hit bm fun ctv h' tk up le => ?_
    have J : Inv X pins σ H { s with heap := h'.push (kla_obj "<lambda>" (X.env.qual ++ "<lambda>") params body scope (cloFrom X.env.cells scope.names []) ((X.mg "__name__").getD .none) c' ctv), toks := tk } :=
      I.kept fun b o e => Heap.get?_push_of_some _ (up b o e)
    exact fin _ c' _ ctv H _ ps J (fun _ _ _ e => e) hP tells (fun a o e => .inr (.inl e)) (Heap.get?_push_size _ rfl) (codeO_at J.hok known)
  | none =>
    refine kla_makeFunction (mg := X.mg) (c := c) (P := P) (ps := ps) clo I.ok.glob (I.mod.glob.keeps I.bk) hcode (TB.code.keeps I.bk) at0 tells.1 hit TB.gP bm fun c' ctv h' tk up ge lt rec atP => ?_
    obtain ⟨c2, oc, vs, t, e2, g1, g2, g3⟩ := id rec
    cases e2
    have fresh : H c' = none := I.hok.fresh ge
    have J := inv_table (t' := tk) (more := #[rawInt pos.line, rawInt pos.col, .ref c']) (h' := h'.push (kla_obj "<lambda>" (X.env.qual ++ "<lambda>") params body scope (cloFrom X.env.cells scope.names []) ((X.mg "__name__").getD .none) c' ctv)) I hP
      (fun b o nb e => Heap.get?_push_of_some _ (up b o nb e)) (Heap.get?_push_of_some _ atP) ge ⟨oc, vs, t, Heap.get?_push_of_some _ g1, g2, g3⟩
    have nPc : P ≠ c' := ne_of_none hP fresh
    have same : ∀ a o, a ≠ P → H a = some o → upd (upd H P (.tbl (ps ++ #[rawInt pos.line, rawInt pos.col, .ref c']))) c' (CodeO c' (X.env.qual ++ "<lambda>")) a = some o := fun a o na e => by
      rw [upd_ne (ne_of_none e fresh), upd_ne na]
      exact e
    have list : (ps ++ #[rawInt pos.line, rawInt pos.col, .ref c']).toList = ps.toList ++ [rawInt pos.line, rawInt pos.col, .ref c'] := by simp
    refine fin _ c' _ ctv _ _ (ps ++ #[rawInt pos.line, rawInt pos.col, .ref c']) J same (by rw [upd_ne nPc, upd_same]) ⟨by rw [list]; exact PySem.TriplesOk_snoc _ _ _ _ tells.1, fun p' cv hcv => ?_⟩ (fun a o e => ?_) (Heap.get?_push_size _ rfl) (rec.keeps fun b o e => Heap.get?_push_of_some _ e)
    · rw [list] at hcv
      rcases among_app _ tells.1 hcv with z | z
      · obtain ⟨c0, k1, k2⟩ := tells.2 p' cv z
        refine ⟨c0, k1, same _ _ (fun n => ?_) k2⟩
        rw [n, hP] at k2
        exact codeO_ne ps (Option.some.inj k2).symm
      · exact ⟨c', z, upd_same⟩
    · by_cases na : a = P
      · exact .inl na
      · by_cases nc : a = c'
        · subst nc
          exact .inr (.inr fresh)
        · rw [upd_ne nc, upd_ne na] at e
          exact .inr (.inl e)
end
/-! ### the state's data behind it -/
theorem obD_nco {K : PySem.W.Frag} {M : Mu} {H : Hp} {a : Addr} {o : Ob} (h : ObD K M H a o) : ∀ u, IsT u → H a ≠ some u := fun u hu z => by
  cases o with
  | lst ds =>
    obtain ⟨vs, e, _⟩ := h
    rw [z] at e
    cases e
    exact lst_nT hu
  | dct ds =>
    obtain ⟨vs, e, _⟩ := h
    rw [z] at e
    cases e
    rcases hu with ⟨ps, hu⟩ | ⟨c, q, hu⟩
    · cases hu
    · unfold CodeO at hu
      cases hu
  | dcn w ds ep =>
    obtain ⟨vs, e, _⟩ := h
    rw [z] at e
    cases e
    exact nd_nT hu
  | ins C ds =>
    obtain ⟨dx, vs, e, _⟩ := h
    rw [z] at e
    cases e
    rcases hu with ⟨ps, hu⟩ | ⟨c, q, hu⟩
    · cases hu
    · unfold CodeO at hu
      cases hu
theorem grown_tr {K : PySem.W.Frag} {M : Mu} {S : Sto} {H H2 : Hp} {P : Addr} (r : StD K M H S) (hM : M P) (hS : S P = none) (hP : ∃ ps, H P = some (.tbl ps)) (same : ∀ a o, a ≠ P → H a = some o → H2 a = some o) : Tr K M S H M S H2 :=
  ⟨fun a o e n => ⟨same a o (fun z => n (by rw [z]; exact hM)) e, n⟩, fun a o e m n y => ⟨same a o (fun z => by
    obtain ⟨ps, hP⟩ := hP
    rw [z, hP] at e
    exact y ps (Option.some.inj e).symm) e, m, n⟩⟩
theorem grown_st {K : PySem.W.Frag} {M : Mu} {S : Sto} {H H2 : Hp} {P : Addr} {q : Str} {ps ps' : Array Value} (r : StD K M H S) (hM : M P) (hS : S P = none) (hP : H P = some (.tbl ps)) (same : ∀ a o, a ≠ P → H a = some o → H2 a = some o) (hP' : H2 P = some (.tbl ps')) (tells : TellsQ H2 q ps')
    (only : ∀ a o, H2 a = some o → a = P ∨ H a = some o ∨ H a = none) (hu : ∀ p ∈ TabCtx.T, p.1 = P → p.2 = fun _ _ => q) : StD K M H2 S := by
  have t := grown_tr r hM hS ⟨ps, hP⟩ same
  refine ⟨fun a o e => obD_kp t.keep (r.ob a o e) ?_, r.mu, fun a m z => ?_, fun p hp => ?_⟩
  · have na : a ≠ P := fun z => by
      rw [z, hS] at e
      cases e
    cases ha : H a with
    | none => exact absurd ha (r.tr a (r.mu a (by rw [e]; simp)))
    | some u => exact same a u na ha
  · by_cases na : a = P
    · rw [na, hP'] at z
      cases z
    · cases ha : H a with
      | none => exact r.tr a m ha
      | some u =>
        rw [same a u na ha] at z
        cases z
  · have code : ∀ c, H2 c = some (CodeO c (q)) ∨ (∃ q', H c = some (CodeO c q') ∧ (¬ M c ∨ S c = none)) → ¬ M c ∨ S c = none := fun c h => by
      rcases h with h | ⟨_, _, h⟩
      · rcases only c _ h with z | z | z
        · rw [z, hP'] at h
          exact absurd (Option.some.inj h).symm (codeO_ne ps')
        · cases sc : S c with
          | none => exact .inr rfl
          | some o => exact absurd z (obD_nco (r.ob c o sc) _ (.inr ⟨c, _, rfl⟩))
        · exact .inl fun m => r.tr c m z
      · exact h
    by_cases hpP : p.1 = P
    · rw [hpP]
      refine ⟨ps', hP', hM, hS, tells.1, fun pos cv hc => ?_⟩
      obtain ⟨c, e1, e2⟩ := tells.2 pos cv hc
      refine ⟨c, e1, ?_, code c (.inl e2)⟩
      rw [hu p hp hpP]
      exact e2
    · obtain ⟨ps0, h1, h2, h3, h4, h5⟩ := r.tab p hp
      refine ⟨ps0, same _ _ hpP h1, h2, h3, h4, fun pos cv hc => ?_⟩
      obtain ⟨c, e1, e2, e3⟩ := h5 pos cv hc
      refine ⟨c, e1, same _ _ (fun z => ?_) e2, e3⟩
      rw [z, hP] at e2
      exact codeO_ne ps (Option.some.inj e2).symm
end PL
end
/-! from PLXa.lean -/
section
/-! PLXa: an own exception class over ValueError, whose __init__(self, a) says super().__init__(a); self.a = a. -/
namespace PL
open PySem PySem.Spec PyProof.Rows L2
variable [TabCtx]
abbrev veMro : List Value := [.type "ValueError", .type "Exception", .type "BaseException", .type "object"]
def iniBody (a : Str) (p0 p1 p2 p3 p4 p5 p6 p7 p8 p9 : Pos) : List Stmt :=
  [.Expr (.Call (.Attribute (.Call (.Name "super" p0) [] [] p1) "__init__" p2) [.Name a p3] [] p4) p5, .Assign [.Attribute (.Name "self" p6) a p7] (.Name a p8) p9]
def iniPar (a : Str) (p q : Pos) : Arguments := { posonlyargs := [], args := [{ arg := "self", annotation := none, pos := p }, { arg := a, annotation := none, pos := q }], vararg := none, kwonlyargs := [], kw_defaults := [], kwarg := none, defaults := [] }
def iniScope (a : Str) : Scope := { kind := .function, names := [("self", .local), (a, .local), ("__class__", .free), ("super", .globalImplicit)], isGenerator := false, isCoroutine := false, more := [] }
/-- what is known of such a class -/
structure ExKl (P : Program) (K : PySem.W.Frag) (C f : Addr) (a : Str) : Prop where
  oex : OexC K C
  init : PySem.W.findIn K (.ref C) "__init__" = some (some (.ref f))
  ty : PySem.W.typeIn K (.ref f) = some (.type "function")
  cls : ∃ cd, PySem.W.clsIn K C = some cd ∧ PySem.HandSPX.refsVE cd.mro = true ∧ cd.hasDict = true
  vin : PySem.W.excInitIn K C veMro "ValueError.__new__" = true
  mro : PySem.W.mroIn K C (.ref C) = some true
  sub : PySem.W.subIn K (.ref C) (.type "ValueError") = some true
  sup : PySem.W.ks_superIn K C C "__init__" = some (some (.builtin "ValueError.__init__"))
  ops : PySem.W.nsIn K cStatics "thirdparty.any" = some none
  nof : PySem.W.findIn K (.ref C) a = some none
  main : (P.main.scope.names.lookup ("super" : Str)).isSome = false
  fn : ∃ (nm qual : Str) (p q p0 p1 p2 p3 p4 p5 p6 p7 p8 p9 : Pos) (doc pm ct oc oc2 oc3 : Value) (an od od2 od3 : Option Addr) (osl osl2 osl3 : Array (Option Value)) (cda cc : Addr) (vs : Array Value) (file : Str) (tf : Tok),
    K.lookup f = some ⟨oc, od, .func (PySem.W.ksFn nm qual (iniPar a p q) (iniBody a p0 p1 p2 p3 p4 p5 p6 p7 p8 p9) (iniScope a) .none .none doc pm an (.ref cda) ct cc), osl⟩ ∧
    PySem.W.codeIn K (.ref cda) qual = true ∧ K.lookup cda = some ⟨oc2, od2, .fields vs, osl2⟩ ∧ vs[2]? = some (.str file tf) ∧ ((P.main.file : Str) == file) = true ∧ K.lookup cc = some ⟨oc3, od3, .cell (some (.ref C)), osl3⟩ ∧ (p2.endLine == p4.line) = true
/-- super().__init__(x) of such a class: the args are laid anew -/
theorem init_mw {P : Program} {w : World} {A : Around} {E : Value → Shared → Prop} {K : PySem.W.Frag} {h : Heap} {g : Array GenState} {d : Drawn} {t : Nat} {os : OsState} {u e t0 C : Addr} {rest : List Value} {Q : Value → Shared → Prop}
    (X : K.In h) (q : PySem.W.excInitIn K C veMro "ValueError.__new__" = true) (he : h.get? e = some (PySem.HandSPX.excO C t0)) (hu : h.get? u = some (PySem.W.kxs_mw "ValueError.__init__" e)) (hrest : rest.length ≤ sizeLine)
    (hq : ∀ h' t1, (∀ b o, b ≠ e → h.get? b = some o → h'.get? b = some o) → h'.get? e = some (PySem.HandSPX.excO C t1) → Q .none ⟨h', g, d, t, os⟩) :
    wpAny (model P w) A (call (.ref u) rest) Q E ⟨h, g, d, t, os⟩ := by
  obtain ⟨nm, N', qn, bs, bm, hdct, sn, sub, ab, col, dd, k0, k1, k2, k3, k5, hC, hT⟩ := PySem.W.excInit_of X q
  refine wpAny_call (codeAny_of_tree ?_)
  show wpAny _ A.in1 (callAny (.ref u) ⟨rest, []⟩) _ _ _
  simp only [callAny]
  refine wpAny_bind (wpAny_load hu ?_)
  simp only [PySem.W.kxs_mw, show (Value.type "method-wrapper" == Value.type "method" || Value.type "method-wrapper" == Value.type "builtin_function_or_method" || Value.type "method-wrapper" == Value.type "method-wrapper") = true by decide, if_true]
  refine PySem.W.KFB.if_so (by decide) ?_
  refine wpAny_bind (PySem.W.check_bound_init PySem.F.excBase_ValueError.toExcCallFacts hC he rfl ?_)
  refine wpAny_bind (wpAny_pure (wpAny_pure ?_))
  refine ⟨plainId_quiet PySem.F.excBase_ValueError.init.plain _, codeAny_builtin PySem.F.excBase_ValueError.initEntry ?_⟩
  exact PySem.W.exc_init_tree (cls := .ref C) (t0 := t0) (dv := none) (c2 := .none) (c3 := .none) (b4 := .bool false) he hrest fun h' k e' _ => hq h' _ k e'
end PL
end
/-! from PLXb.lean -/
section
namespace PL
open PySem PySem.Spec PyProof.Rows L2
variable [TabCtx]
structure IniN (a : Str) : Prop where
  l0 : (iniScope a).names.lookup a = some .local
  l1 : (iniScope a).names.lookup ("self" : Str) = some .local
  l2 : (iniScope a).names.lookup ("__class__" : Str) = some .free
  l3 : (iniScope a).names.lookup ("super" : Str) = some .globalImplicit
  ne : (("self" : Str) == a) = false
  dbg : (a == ("__debug__" : Str)) = false
  bind : ∀ (nm qual : Str) (p q : Pos) (body : List Stmt) (doc pm cdv ct x y : Value) (an : Option Addr) (cc : Addr), bindArgs (PySem.W.ksFn nm qual (iniPar a p q) body (iniScope a) .none .none doc pm an cdv ct cc) ⟨[x, y], []⟩ = pure [(("self" : Str), x), (a, y)]
theorem iniN_index : IniN "index" := ⟨rfl, rfl, rfl, rfl, by decide, by decide, fun _ _ _ _ _ _ _ _ _ _ _ _ _ => rfl⟩
theorem iniN_part : IniN "part" := ⟨rfl, rfl, rfl, rfl, by decide, by decide, fun _ _ _ _ _ _ _ _ _ _ _ _ _ => rfl⟩
theorem iniN_number : IniN "number" := ⟨rfl, rfl, rfl, rfl, by decide, by decide, fun _ _ _ _ _ _ _ _ _ _ _ _ _ => rfl⟩
theorem iniN_most : IniN "most" := ⟨rfl, rfl, rfl, rfl, by decide, by decide, fun _ _ _ _ _ _ _ _ _ _ _ _ _ => rfl⟩
theorem iniN_name : IniN "name" := ⟨rfl, rfl, rfl, rfl, by decide, by decide, fun _ _ _ _ _ _ _ _ _ _ _ _ _ => rfl⟩
theorem IniN.nc {a : Str} : ∀ x ∈ (iniScope a).names, x.2 ≠ .cell := by
  intro x hx
  simp only [iniScope, List.mem_cons, List.not_mem_nil, or_false] at hx
  rcases hx with rfl | rfl | rfl | rfl <;> simp
theorem ldLoc {M : Model} {A : Around} {E : Value → Shared → Prop} {s : Shared} {env : Env} {m : Str → Option Value} {x : Str} {pos : Pos} {v : Value} {Q : Value → Shared → Prop} (hn : s.heap.Ns env.locals m) (hv : m x = some v) (h : Q v s)
    (hk : env.scope.kind = .function) (hl : env.kindOf x = some .local) (hd : (x == ("__debug__" : Str)) = false) : wpAny M A (eval (.Name x pos) env) Q E s := wpAny_Name (wpAny_loadName_local hk hl hn hv h) hd
theorem mc_ev {o : Expr} {name a : Str} {p2 p3 p4 : Pos} {env : Env} (h : (p2.endLine == p4.line) = true) : eval (.Call (.Attribute o name p2) [.Name a p3] [] p4) env = (do
      let ov ← attributeBase o name env (eval o env)
      standAt p2.atName
      let (f, first) ← holding [ov] (getMethod ov name (do return (← importBound o env).getD true))
      callWith p4 f first (backTo p4 (starEach [.Name a p3] env)) []) := by
  show (do
    let ov ← attributeBase o name env (eval o env)
    standAt p2.atName
    let (f, first) ← holding [ov] (getMethod ov name (do return (← importBound o env).getD true))
    let callPos ← (if (!true || p2.endLine == p4.line) = true then pure p4 else _)
    callWith callPos f first (backTo p4 (starEach [.Name a p3] env)) []) = _
  simp only [h, Bool.or_true, if_true, pure_bind]
theorem run_init {X : Cx} {A : Around} {C f e t0 : Addr} {a : Str} {u : Value} {pins : List (Addr × Obj)} {σ : L2.St} {H : Hp} {s : Shared} {h2 : Heap} {tk : Nat} {R : Result → Shared → Prop} (T : ExKl X.prog X.K C f a) (N : IniN a) (I : Inv X pins σ H s) (hsup : X.mg "super" = none)
    (hroom : A.depth < recursionLimit) (k : ∀ b o, s.heap.get? b = some o → h2.get? b = some o) (he : h2.get? e = some (PySem.HandSPX.excO C t0)) (hen : s.heap.get? e = none) (hne : e ≠ C)
    (hq : ∀ h' tk' dx, (∀ b o, b ≠ e → h2.get? b = some o → h'.get? b = some o) → h2.get? dx = none → dx ≠ e → (∃ t1 : Addr, h'.get? e = some ({ cls := .ref C, dict := some dx, data := .fields #[.ref t1, .none, .none, .none, .bool false, .none] } : Obj)) →
      h'.Ns1 dx (fun y => if y = a then some u else none) → R (.ok (.ret .none)) { s with heap := h', toks := tk' }) :
    codeAny (model X.prog X.w) A (.call (.ref f) ⟨[.ref e, u], []⟩) R { s with heap := h2, toks := tk } := by
  obtain ⟨hp, g, d, t, os⟩ := s
  obtain ⟨nm, qual, p, q, p0, p1, p2, p3, p4, p5, p6, p7, p8, p9, doc, pm, ct, oc, oc2, oc3, an, od, od2, od3, osl, osl2, osl3, cda, cc, vs, file, tf, hf, hcd, hco, hvs, hfile, hcc, hpe⟩ := T.fn
  obtain ⟨cd, hcls, hmro, hhd⟩ := T.cls
  have X2 : X.K.In h2 := fun b o z => k b o (I.kIn b o z)
  have bk2 : ∀ b o, X.base.get? b = some o → h2.get? b = some o := fun b o z => k b o (I.bk b o z)
  refine ks_codeAny_call_defAt (fd := PySem.W.ksFn nm qual (iniPar a p q) (iniBody a p0 p1 p2 p3 p4 p5 p6 p7 p8 p9) (iniScope a) .none .none doc pm an (.ref cda) ct cc) (body := iniBody a p0 p1 p2 p3 p4 p5 p6 p7 p8 p9) (binds := [("self", .ref e), (a, u)])
    hroom (X2 _ _ hf) rfl (I.mod.nolimit.keeps bk2) (PySem.W.codeRec_of X2 hcd) rfl (BindsTo.of_eq (N.bind _ _ _ _ _ _ _ _ _ _ _ _ _)) IniN.nc ?_ (fun h3 hns k3 => ?_) rfl rfl rfl
  · intro x hx
    simp only [List.mem_cons, List.not_mem_nil, or_false] at hx
    rcases hx with rfl | rfl
    · exact N.l1
    · exact N.l0
  · have X3 : X.K.In h3 := fun b o z => k3 b o (X2 b o z)
    have he3 := k3 _ _ he
    have hself : ([("self", Value.ref e), (a, u)] : List (Str × Value)).reverse.lookup ("self" : Str) = some (.ref e) := by
      show List.lookup ("self" : Str) [(a, u), ("self", Value.ref e)] = _
      rw [List.lookup_cons, N.ne, List.lookup_cons_self]
    have harg : ([("self", Value.ref e), (a, u)] : List (Str × Value)).reverse.lookup a = some u := by
      show List.lookup a [(a, u), ("self", Value.ref e)] = _
      rw [List.lookup_cons_self]
    obtain ⟨mb, hb1, hb2⟩ := I.mod.blt
    have bk3 : ∀ b o, X.base.get? b = some o → h3.get? b = some o := fun b o z => k3 b o (bk2 b o z)
    obtain ⟨oD, hD1, hD2⟩ : ∃ oD, h3.get? C = some oD ∧ oD.data = .cls cd := by
      unfold PySem.W.clsIn at hcls
      split at hcls
      · rename_i c d cd' sl ho
        cases hcls
        exact ⟨_, X3 _ _ ho, rfl⟩
      · cases hcls
    refine ks_wpAt_execs_cons (ks_wpAt_Expr_any (ks_wpAt_MethodCall ?_ (mc_ev hpe)))
    refine ks_wpAt_super_base (env := PySem.W.ksEnv qual (iniScope a) h2.objs.size f (.ref cda) cc) N.l3 N.l2 (by decide) rfl (X3 _ _ hf) rfl rfl rfl (X3 _ _ hco) rfl hvs hfile T.main ?_
    refine PySem.W.ks_loadName_global rfl N.l3 (Calls.loadGlobal_builtin (I.mod.glob.keeps bk3) hsup (hb1.keeps bk3) ((hb2 _ (by decide)).trans (by kernel_rfl)) ⟨rfl, ?_⟩)
    refine wpAny_loadName_free rfl N.l2 rfl ⟨_, X3 _ _ hcc, rfl⟩ ?_
    refine wpAny_loadName_local rfl N.l1 hns hself ?_
    refine ks_wpAny_isType_cls hD1 hD2 ⟨rfl, ?_⟩
    refine ks_wpAny_call_super hD1 hD2 he3 rfl (fun c z => by cases z) (PySem.W.looks_mroIn X3 T.mro) (fun h4 e4 k4 => ?_)
    have X4 : X.K.In h4 := fun b o z => k4 b o (X3 b o z)
    have he4 := k4 _ _ he3
    have i4 : PySem.W.InstAt h4 e (PySem.HandSPX.excO C t0) C none := ⟨he4, rfl, rfl, trivial⟩
    refine PySem.W.kxs_getMethod PySem.W.kxs_ValueError e4 (PySem.W.looks_opaque X4 T.ops) (l₀ := cd.mro) ?_ rfl X4 ?_ (i4.type.andThen (PySem.W.looks_subIn X4 T.sub)) hne (by decide) ?_
    · exact fun A Q E s k q => wpAny_bind ((PySem.W.looks_clsIn X4 hcls) A _ E s k (wpAny_pure q))
    · have z := T.sup
      unfold PySem.W.ks_superIn at z
      rw [hcls] at z
      exact z
    have k5 : ∀ b o, h4.get? b = some o → (h4.push (PySem.W.kxs_mw "ValueError.__init__" e)).get? b = some o := fun b o z => Heap.get?_push_of_some _ z
    have hu : (h4.push (PySem.W.kxs_mw "ValueError.__init__" e)).get? h4.objs.size = some (PySem.W.kxs_mw "ValueError.__init__" e) := Heap.get?_push_at rfl rfl
    have k35 : ∀ b o, h3.get? b = some o → (h4.push (PySem.W.kxs_mw "ValueError.__init__" e)).get? b = some o := fun b o z => k5 b o (k4 b o z)
    have he5 := k5 _ _ he4
    have X5 : X.K.In (h4.push (PySem.W.kxs_mw "ValueError.__init__" e)) := fun b o z => k5 b o (X4 b o z)
    have hns5 := hns.keeps k35
    refine PySem.W.kxs_callWith (i := "ValueError.__init__") (x := e) (by rfl) (Calls.evalArgs_plain (Calls.spliced_cons (ldLoc hns5 harg (Calls.spliced_nil ⟨hu, ?_⟩) rfl N.l0 N.dbg)))
    refine init_mw X5 T.vin he5 hu (by show 1 ≤ sizeLine; rw [sizeLine_eq]; omega) fun h6 t1 k6 e6 => ?_
    have hnL : h2.objs.size ≠ e := Nat.ne_of_gt (Heap.lt_size he)
    have X6 : X.K.In h6 := fun b o z => k6 b o (fun y => by
      have z1 := I.kIn b o z
      rw [y, hen] at z1
      cases z1) (X5 b o z)
    have hns6 := hns5.at (h' := h6) fun o z => k6 _ o hnL z
    show _root_.PySem.wpAt _ _ _ (execs [_] _) _ _ _
    refine ks_wpAt_execs_cons (ks_wpAt_Assign_Attr (_root_.PySem.wpAt_of_wpAny (ldLoc hns6 harg ?_ rfl N.l0 N.dbg)))
    refine ldLoc hns6 hself ?_ rfl N.l1 (by decide)
    refine PySem.W.set_plain X6 (ox := PySem.HandSPX.excO C t1) (od := none) ⟨e6, rfl, rfl, trivial⟩ T.oex.sa ?_
    refine PySem.HandSPX.exc_osa X6 e6 hcls hmro hhd T.nof (fun h7 tk7 dx k7 d1 d2 e7 n7 => ?_)
    show _root_.PySem.wpAt _ _ _ (execs [] _) _ _ _
    refine _root_.PySem.wpAt_of_wpAny (wpAny_execs_nil ?_)
    have k26 : ∀ b o, b ≠ e → h2.get? b = some o → h6.get? b = some o := fun b o hb z => k6 b o hb (k35 b o (k3 b o z))
    refine hq h7 _ dx (fun b o hb z => k7 b o hb (k26 b o hb z)) ?_ d2 ⟨t1, e7⟩ n7
    cases z : h2.get? dx with
    | none => rfl
    | some o => exact absurd (Heap.lt_size (k26 dx o d2 z)) (Nat.not_lt.mpr d1)
end PL
end
/-! from PLXc.lean -/
section
/-! PLXc: own exceptions as values: made, their fields, isinstance. -/
namespace PL
open PySem PySem.Spec PyProof.Rows L2
variable [TabCtx]
section
variable {X : Cx} {pins : List (Addr × Obj)} {σ : L2.St} {H : Hp} {s : Shared} {h' : Heap} {a dx : Addr} {oa od : HO} {t' : Nat}
theorem Inv.laid2 (I : Inv X pins σ H s) (k : ∀ b u, s.heap.get? b = some u → h'.get? b = some u) (ga : s.heap.get? a = none) (gd : s.heap.get? dx = none) (na : H a = none) (nd : H dx = none) (ne : dx ≠ a)
    (ea : ObjOk X.prog X.w (upd (upd H dx od) a oa) h' a oa) (ed : ObjOk X.prog X.w (upd (upd H dx od) a oa) h' dx od) : Inv X pins σ (upd (upd H dx od) a oa) { s with heap := h', toks := t' } := by
  have up : ∀ {b : Addr} {o : HO}, H b = some o → upd (upd H dx od) a oa b = some o := fun {b o} q => by
    rw [upd_ne (ne_of_none q na), upd_ne (ne_of_none q nd)]
    exact q
  have gb : ∀ {b c : Addr} {u : Obj}, s.heap.get? b = some u → s.heap.get? c = none → b ≠ c := fun {b c u} q z y => by
    rw [y, z] at q
    cases q
  refine I.un (t' := t') { keep := fun b u q _ _ _ => k b u q, slot := fun b u q _ _ _ => ⟨u.slots, k b u q⟩, free := fun b u q n _ => ?_, there := fun b u q _ => ⟨u, k b u q⟩, tups := fun b xs q => up q, frzs := fun b u xs q => up q, tbls := fun b ps q => ⟨#[], ?_⟩ } fun b u e => ?_
  · rw [upd_ne (gb q ga), upd_ne (gb q gd)]
    exact n
  · rw [up q]
    simp
  · by_cases hb : b = a
    · subst hb
      rw [upd_same] at e
      cases e
      exact ea
    · rw [upd_ne hb] at e
      by_cases hd : b = dx
      · subst hd
        rw [upd_same] at e
        cases e
        exact ed
      · rw [upd_ne hd] at e
        exact (I.hok b u e).stay (fun c v _ q => k c v q) (fun c q => up q) fun c xs q => up q
end
section
variable {X : Cx} {W : WX} {k : Nat} {C f : Addr} {a x : Str} {p pos : Pos} {e : Expr} {ta : TE} {wa : WE}
/-- C(e), C with such an __init__: a new exception object, as a value -/
theorem pe_excI (T : ExKl X.prog X.K C f a) (N : IniN a) (hsup : X.mg "super" = none) (hr : Room k X.A) (gC : X.mg x = some (.ref C)) (hg : Gl X x) (he : PE X e ta)
    (hs : starEach [e] X.env = (false, eval e X.env) :: starEach [] X.env := by rfl) (hdb : (x == ("__debug__" : Str)) = false := by decide) :
    PE X (.Call (.Name x p) [e] [] pos) (fun σ H Q => ta σ H fun y H1 => ∀ (q dx : Addr), H1 q = none → H1 dx = none → dx ≠ q → Q (.ref q) (upd (upd H1 dx (exd dx [(a, y)])) q (exo q C (some dx)))) := by
  refine ⟨fun pins s σ H Q I h => ?_⟩
  refine wpAny_Call_Name_kw (ld_glob I hg gC ?_ hdb)
  refine PySem.W.callWith_K (h₀ := X.base) I.ok.mod.kin T.oex.kC ?_ hs (by rfl)
  rw [hs]
  show wpAny _ _ (spliced ((false, eval e X.env) :: backTo pos (starEach [] X.env))) _ _ s
  refine Calls.spliced_cons (thn (he.run pins s σ H _ I h) fun u s1 ⟨v, H1, I1, r1, q1⟩ => ?_)
  refine Calls.spliced_nil ⟨I1.kIn, ?_⟩
  show wpAny _ _ (call (.ref C) [u]) _ _ _
  obtain ⟨nm, q, N', bs, bm, sn, sub, ab, col, dd, k0, k1, k2, k3, k5, hC, hbm⟩ := T.oex.cls
  obtain ⟨hp, g, dr, tk, os⟩ := s1
  have kk : ∀ b o, hp.get? b = some o → ((hp.push (PySem.W.kdv_tup [u])).push (PySem.HandSPX.excO C hp.objs.size)).get? b = some o := fun b o e => Heap.get?_push_of_some _ (Heap.get?_push_of_some _ e)
  have hget : ((hp.push (PySem.W.kdv_tup [u])).push (PySem.HandSPX.excO C hp.objs.size)).get? (hp.objs.size + 1) = some (PySem.HandSPX.excO C hp.objs.size) := by heap_get
  have hen : hp.get? (hp.objs.size + 1) = none := Heap.get?_none_of_le (Nat.le_succ _)
  have hne : hp.objs.size + 1 ≠ C := fun z => by
    have := I1.kIn _ _ hC
    rw [← z] at this
    change hp.get? _ = _ at this
    rw [hen] at this
    cases this
  refine wpAny_call (PySem.HandSPX.call_own F.excBase_ValueError (fun Y => PySem.HandSPX.refsVE_contains Y bm hbm) (I1.kIn _ _ hC) (PySem.W.looks_findIn I1.kIn T.init) (fun self => PySem.W.bind_fn I1.kIn self T.ty) (by show 1 ≤ sizeLine; rw [sizeLine_eq]; omega) ?_)
  refine run_init (s := ⟨hp, g, dr, tk, os⟩) T N I1 hsup (by rw [make_depth]; have := hr.dp; omega) kk hget hen hne fun h' tk' dx k' d1 d2 ⟨t1, e1⟩ n1 => ?_
  have gd : hp.get? dx = none := by
    cases z : hp.get? dx with
    | none => rfl
    | some o => rw [kk _ _ z] at d1; cases d1
  have na : H1 (hp.objs.size + 1) = none := I1.hok.gone hen
  have nd : H1 dx = none := I1.hok.gone gd
  have J := Inv.laid2 (t' := tk') (oa := exo (hp.objs.size + 1) C (some dx)) (od := exd dx [(a, v)]) I1 (fun b o z => k' b o (fun y => by rw [y] at z; change hp.get? _ = _ at z; rw [hen] at z; cases z) (kk b o z)) hen gd na nd d2 (exo_ok e1) (exd_ok n1 (relO_put (fs := []) r1 fun g => True.intro))
  exact ⟨rfl, .ref (hp.objs.size + 1), _, J, rfl, q1 _ _ na nd d2⟩
/-- C(), C without own __init__ -/
theorem pe_exc0 {bmB : List Value} {B newId initId : String} (F : ExcBaseFacts B newId initId bmB) (q : PySem.W.excIn X.K C bmB newId = true) (gC : X.mg x = some (.ref C)) (kC : PySem.W.keepIn X.K (.ref C) = true) (hg : Gl X x) (hdb : (x == ("__debug__" : Str)) = false := by decide) :
    PE X (.Call (.Name x p) [] [] pos) (fun σ H Q => ∀ a, H a = none → Q (.ref a) (upd H a (exo a C none))) := by
  refine ⟨fun pins s σ H Q I h => ?_⟩
  refine wpAny_Call_Name_kw (ld_glob I hg gC ?_ hdb)
  refine PySem.W.callWith_K0 I.kIn kC ?_
  show wpAny _ _ (call (.ref C) []) _ _ _
  obtain ⟨bm, N, nm, qn, bs, hdct, sn, sub, ab, col, dd, k0, k1, k2, k3, k5, mN, hC, hN, hni, T⟩ := exc_obj I.kIn q
  refine wpAny_call_exc_subT F T hC hN hni (fun h' a hm => ?_) (by show 0 ≤ sizeLine; omega)
  have hn : H a = none := I.hok.gone hm.new
  obtain ⟨t, ht, _, _⟩ := hm.there
  exact ⟨.ref a, upd H a (exo a C none), I.laidN hm.keeps hm.new hn (exo_ok ht), rfl, h a hn⟩
end
end PL
end
/-! from PLXd.lean -/
section
/-! PLXd: own exceptions as values: their fields, isinstance. -/
namespace PL
open PySem PySem.Spec PyProof.Rows L2
variable [TabCtx]
/-! ### isinstance -/
theorem kitx_excO {K : PySem.W.Frag} {x D : Addr} {ox : Obj} {od : Option Obj} (C : ExcC K D) : PySem.W.KitX K (.ref x) (.ref D) (fun h => PySem.W.InstAt h x ox D od) :=
  PySem.W.kitx_exc (by obtain ⟨cd, hc, _⟩ := PySem.W.any_some C.hd; rw [hc]; rfl) C.hg C.hk C.hs C.ha C.hn C.ht C.hm
/-- isinstance(e, c), e an exception of the class C -/
def rIsX (K : PySem.W.Frag) : List V → Hp → VK → Prop := fun xs H Q => ∃ (a C : Addr) (dd : Option Addr) (gs : List (Str × V)) (c : V) (cv : Value) (b : Bool), xs = [.ref a, c] ∧ H a = some (exo a C dd) ∧ (∀ d, dd = some d → H d = some (exd d gs)) ∧ ExcC K C ∧ ClsV c cv ∧ PySem.W.kitOne K (.ref C) cv = some b ∧ Q (.bl b) H
theorem inst_exc {P : Program} {w : World} {H : Hp} {h : Heap} {a C : Addr} {dd : Option Addr} {gs : List (Str × V)} (hok : HOk P w H h) (ha : H a = some (exo a C dd)) (hd : ∀ d, dd = some d → H d = some (exd d gs)) : ∃ (t1 : Addr) (od : Option Obj), PySem.W.InstAt h a ({ cls := .ref C, dict := dd, data := .fields #[.ref t1, .none, .none, .none, .bool false, .none] } : Obj) C od := by
  obtain ⟨t1, ho⟩ := exo_at hok ha
  cases dd with
  | none => exact ⟨t1, none, ho, rfl, rfl, True.intro⟩
  | some d =>
    obtain ⟨mA, ⟨o, _, _, e1, _⟩, _⟩ := exd_at hok (hd d rfl)
    exact ⟨t1, some o, ho, rfl, rfl, e1⟩
theorem call_isX {X : Cx} : CallR X (.builtin "isinstance") (rIsX X.K) := by
  intro pins s σ H xs us Q I r h
  obtain ⟨a, C, dd, gs, c, cv, b, rfl, ha, hd, hC, hc, e, q⟩ := h
  obtain ⟨u1, u2, rfl, r1, r2⟩ := vals2 r
  cases (show u1 = Value.ref a from r1)
  obtain ⟨t1, od, J⟩ := inst_exc I.hok ha hd
  have e2 : u2 = cv := hc.eq r2
  subst e2
  exact PySem.W.kia_one (kitx_excO hC) I.kIn J e (fun z => nomatch z) fun tk => ⟨.bl b, H, I.tok tk, rfl, q⟩
/-- what isinstance tells of the text's exceptions -/
structure ExOk (K : PySem.W.Frag) (cs : List Addr) (cl : List V) (sub : Addr → V → Bool) : Prop where
  kc : ∀ C ∈ cs, ExcC K C
  cc : ∀ C ∈ cs, ∀ c ∈ cl, ∃ cv, ClsV c cv ∧ PySem.W.kitOne K (.ref C) cv = some (sub C c)
def rIsE (cs : List Addr) (cl : List V) (sub : Addr → V → Bool) : RC := fun ds S Q => ∃ C fs c, ds = [.exc C fs, .raw c] ∧ C ∈ cs ∧ c ∈ cl ∧ Q (.bl (sub C c)) S
theorem oc_isE {X : Cx} {cs : List Addr} {cl : List V} {sub : Addr → V → Bool} (ok : ExOk X.K cs cl sub) : OC X (.builtin "isinstance") (rIsE cs cl sub) := oc_of call_isX fun M S H ds vs Q' Q r h1 hq oq => by
  obtain ⟨C, fs, c, rfl, hc, hl, hq⟩ := hq
  obtain ⟨v, u, rfl, hv, hu⟩ := denL_two h1
  simp only [Den] at hu hv
  subst hu
  obtain ⟨a, dd, gs, rfl, e1, _, e2, _, _⟩ := hv
  obtain ⟨cv, h3, h4⟩ := ok.cc C hc u hl
  exact ⟨a, C, dd, gs, u, cv, _, rfl, e1, fun d z => (e2 d z).1, ok.kc C hc, h3, h4, oq.now r _ _ (by simp only [Den]) hq⟩
/-! ### fields -/
theorem pe_exf {X : Cx} {e : Expr} {te : TE} {pos : Pos} {n : Str} (he : PE X e te) (hb : attributeBase e n X.env (eval e X.env) = eval e X.env := by rfl) :
    PE X (.Attribute e n pos) (fun σ H Q => te σ H fun x H1 => ∃ (a C dd : Addr) (fs : List (Str × V)) (v : V), x = .ref a ∧ H1 a = some (exo a C (some dd)) ∧ H1 dd = some (exd dd fs) ∧ XfC X.K C ∧ PySem.W.findIn X.K (.ref C) n = some none ∧ fs.lookup n = some v ∧ Q v H1) := by
  refine ⟨fun pins s σ H Q I h => ?_⟩
  refine attr_of hb (thn (he.run pins s σ H _ I h) fun u s1 hh => ?_)
  obtain ⟨x, H1, I1, rx, a, C, dd, fs, v, ex, ea, ed, T, hno, l, q⟩ := hh
  subst ex
  obtain rfl : u = Value.ref a := rx
  obtain ⟨t1, ho⟩ := exo_at I1.hok ea
  obtain ⟨mA, hns, hr⟩ := exd_at I1.hok ed
  obtain ⟨od, hod, hl⟩ := lookIn_ns hns
  obtain ⟨u, hu, ru⟩ := RelO.some_of (v := v) (o := mA n) (by rw [← l]; exact hr n)
  have J : PySem.W.InstAt s1.heap a ({ cls := .ref C, dict := some dd, data := .fields #[.ref t1, .none, .none, .none, .bool false, .none] } : Obj) C (some od) := ⟨ho, rfl, rfl, hod⟩
  exact HandSPX.exc_get I1.kIn J T.ga T.gg T.exC (PySem.W.findObj_own T.hdC hno rfl (by rw [hl, hu])) (handed_of ru) ⟨v, H1, I1.tok _, ru, q⟩
/-- the field f of exceptions of the classes cs -/
def XfOk (K : PySem.W.Frag) (cs : List Addr) (f : Str) : Prop := ∀ C ∈ cs, XfC K C ∧ PySem.W.findIn K (.ref C) f = some none
def dXfd (cs : List Addr) (f : Str) : D → Sto → QK → Prop := fun d S Q => ∃ C fs x, d = .exc C fs ∧ C ∈ cs ∧ fs.lookup f = some x ∧ Q x S
section
variable {X : Cx} {W : WX} {k : Nat} {pos p : Pos} {a e : Expr} {wa : WE} {cs : List Addr} {f fn : Str} {C q : Addr} {x : Str}
theorem xae (hf : XfOk X.K cs f) (ha : SE X W a wa) (hb : attributeBase a f X.env (eval a X.env) = eval a X.env := by rfl) : SE X W (.Attribute a f pos) (wUn (dXfd cs f) wa) := ⟨pe_imp (pe_exf ha.pe hb) fun σ H Q h => by
  obtain ⟨M, Γ, S, Q', E', r, e, h, oq, ox⟩ := h
  refine ⟨M, Γ, S, _, E', r, e, h, ?_, ox⟩
  rintro M1 S1 H1 t1 r1 d u hd ⟨C, fs, x, rfl, hc, hl, hq⟩
  simp only [Den] at hd
  obtain ⟨a, dd, gs, rfl, e1, _, e2, e3, h2⟩ := hd
  obtain ⟨y, h3, h4⟩ := denF_get h2 hl
  cases dd with
  | none =>
    rw [e3 rfl] at h3
    cases h3
  | some d => exact ⟨a, C, d, gs, y, rfl, e1, (e2 d rfl).1, (hf C hc).1, (hf C hc).2, h3, oq.at t1 |>.now r1 _ _ h4 hq⟩⟩
/-- C(e) -/
theorem xexI (T : ExKl X.prog X.K C q f) (N : IniN f) (hsup : X.mg "super" = none) (hr : Room k X.A) (gC : X.mg x = some (.ref C)) (he : SE X W e wa) (hg : Gl X x := by rfl)
    (hs : starEach [e] X.env = (false, eval e X.env) :: starEach [] X.env := by rfl) (hdb : (x == ("__debug__" : Str)) = false := by decide) :
    SE X W (.Call (.Name x p) [e] [] pos) (wUn (fun d S Q => Q (.exc C [(f, d)]) S) wa) := ⟨pe_imp (pe_excI T N hsup hr gC hg he.pe hs hdb) fun σ H Q h => by
  obtain ⟨M, Γ, S, Q', E', r, e, h, oq, ox⟩ := h
  refine ⟨M, Γ, S, _, E', r, e, h, ?_, ox⟩
  intro M1 S1 H1 t1 r1 d y hd hq q dx hp hdx hne
  have n1 := new_tr (K := X.K) (M := M1) (S := S1) (o := exd dx [(f, y)]) hdx
  have r2 := new_st (o := exd dx [(f, y)]) r1 hdx
  have hp2 : (upd H1 dx (exd dx [(f, y)])) q = none := by rw [upd_ne (Ne.symm hne)]; exact hp
  have n2 := new_tr (K := X.K) (M := M1) (S := S1) (o := exo q C (some dx)) hp2
  have r3 := new_st (o := exo q C (some dx)) r2 hp2
  have t3 := n1.trans n2
  refine oq M1 S1 _ (t1.trans t3) r3 _ _ ?_ hq
  simp only [Den]
  refine ⟨q, some dx, [(f, y)], rfl, upd_same, new_mu r1 hp, fun d z => ?_, fun z => (by cases z), ?_⟩
  · cases z
    exact ⟨by rw [upd_ne hne, upd_same], new_mu r1 hdx⟩
  · simp only [DenF]
    exact ⟨y, [], rfl, den_tr r1 t3 _ _ hd, rfl⟩⟩
/-- C() -/
theorem xex0 {bmB : List Value} {B newId initId : String} (F : ExcBaseFacts B newId initId bmB) (q : PySem.W.excIn X.K C bmB newId = true) (gC : X.mg x = some (.ref C)) (kC : PySem.W.keepIn X.K (.ref C) = true) (hg : Gl X x := by rfl) (hdb : (x == ("__debug__" : Str)) = false := by decide) :
    SE X W (.Call (.Name x p) [] [] pos) (wC (.exc C [])) := ⟨pe_imp (pe_exc0 F q gC kC hg hdb) fun σ H Q h => by
  obtain ⟨M, Γ, S, Q', E', r, e, hq, oq, ox⟩ := h
  intro a ha
  refine oq M S _ (new_tr ha) (new_st r ha) _ _ ?_ hq
  simp only [Den]
  exact ⟨a, none, [], rfl, upd_same, new_mu r ha, fun d z => (by cases z), fun _ => rfl, (by simp only [DenF])⟩⟩
end
end PL
end
/-! from PLXe.lean -/
section
/-! PLXe: enumerate of a list; {k: v} that nobody writes; == of such a dict and itself. -/
namespace PL
open PySem PySem.Spec PyProof.Rows L2
variable [TabCtx]
section
variable {X : Cx} {W : WX} {k : Nat} {pos p : Pos} {a i v : Expr} {wa wi wv : WE}
def wiEL (wa : WE) : WI := fun Γ S Q E => wa Γ S (fun d S1 => ∃ xs, d = .lst xs ∧ Q (enumD xs) (fun _ => True) S1) E
theorem si_enumL {elts : List Expr} {kk : Nat} {tpos : Pos} (hg : Gl X "enumerate") (hm : X.mg "enumerate" = none) (ha : SE X W a wa) (he : starEach [a] X.env = (false, eval a X.env) :: starEach [] X.env := by rfl) (hs : starEach [a] X.env = [(false, eval a X.env)] := by rfl) :
    SI X W (.Tuple elts kk tpos) (.Call (.Name "enumerate" p) [a] [] pos) (wiEL wa) := ⟨pi_imp (pi_enum hg hm (sa_one ha he).pa hs) fun σ H R h => by
  obtain ⟨M, Γ, S, Q', E', r, e, h, oq, ox⟩ := h
  refine ⟨M, Γ, S, fun ds S1 => ∃ xs, ds = [.lst xs] ∧ Q' (enumD xs) (fun _ => True) S1, E', r, e, ?_, ?_, ox⟩
  · have e2 : (fun (d : D) S1 => ∃ xs, [d] = [D.lst xs] ∧ Q' (enumD xs) (fun _ => True) S1) = fun d S1 => ∃ xs, d = .lst xs ∧ Q' (enumD xs) (fun _ => True) S1 := by
      funext d S1
      simp
    show wa Γ S (fun d S1 => ∃ xs, [d] = [D.lst xs] ∧ Q' (enumD xs) (fun _ => True) S1) E'
    rw [e2]
    exact h
  · rintro M1 S1 H1 t1 r1 ds vs hd ⟨xs, rfl, hq⟩
    obtain ⟨v, rfl, hv⟩ := denL_one hd
    have hv0 := hv
    simp only [Den] at hv
    obtain ⟨pa, us, rfl, f1, fm, f2⟩ := hv
    refine ⟨pa, us, rfl, SqL.of f1, oq M1 S1 H1 t1 r1 _ _ hq _ ?_⟩
    intro M2 S2 H2 t2 r2 _
    have g1 : SqL X.K H2 pa us := SqL.of (t2.keep _ _ f1 fm).1
    have g2 := denL_tr r1 t2 _ _ f2
    have l1 := denL_len g2
    rw [enumD_len]
    refine ⟨fun i hi => ⟨us, us[i]'(by omega), g1, List.getElem?_eq_getElem _⟩, fun i hi => ⟨us, g1, by omega⟩, fun i dd x H3 hz hyy => ?_⟩
    obtain ⟨T, vx, rfl, hT0, rfl, z1⟩ := hyy
    obtain ⟨dx, y1, rfl⟩ := enumD_get hz
    obtain ⟨wx, e1, e2⟩ := denL_get g2 y1
    have := z1 us g1
    rw [e1] at this
    cases this
    have nt := new_tr (K := X.K) (M := M2) (S := S2) (o := .tup [.int (i : Nat), vx]) hT0
    refine ⟨nt, new_st r2 hT0, ?_⟩
    simp only [Den]
    refine ⟨T, [.int (i : Nat), vx], rfl, .inl ⟨upd_same, new_mu r2 hT0⟩, denL_tr r2 nt [.int (i : Nat), dx] [.int (i : Nat), vx] (denL_cons (by simp only [Den]) (denL_cons e2 denL_nil))⟩⟩
section
variable {tg : Expr} {iter : Expr} {wi : WI} {wt : WT}
/-- x = [..] on one line -/
theorem ss_setLcM {i : Nat} {y : Str} {py : Pos} {scope : Scope} {own : List (Str × Nat)} {ifs : List Expr} {g : WG} {us : List Nat} {we : WE} {elt : Expr} {spos : Pos} (hc : X.calm = true) (hN : X.N.Nodup) (hy : X.N[i]? = some y) (hyl : X.env.scope.names.lookup y = some .local)
    (hsw : swapsWith (.ListComp elt [⟨tg, iter, ifs, 0⟩] scope pos) (some (.Name y py)) spos.line X.env = pure true) (hi : SI X W tg iter wi) (ok : BlkOk X.N X.env.scope scope own) (hu : ∀ j ∈ us, j ∈ own.map (·.2))
    (hg : ∀ (s : Shared) (H : Hp) (C : Addr) (cl : List (Str × Addr)) (fp : List Addr), SG (X.blk s H scope (compEnvC scope cl C X.env) fp) tg us g) (ht : ∀ (s : Shared) (H : Hp) (C : Addr) (cl : List (Str × Addr)) (fp : List Addr), STs (X.blk s H scope (compEnvC scope cl C X.env) fp) W0 ifs wt)
    (he : ∀ (s : Shared) (H : Hp) (C : Addr) (cl : List (Str × Addr)) (fp : List Addr), SE (X.blk s H scope (compEnvC scope cl C X.env) fp) W0 elt we) (hs : ∀ x, foldedSetIterable iter X.env x = pure x := by intro _; rfl) :
    SS X W (.Assign [.Name y py] (.ListComp elt [⟨tg, iter, ifs, 0⟩] scope pos) spos) (wSet i (wLcM wi g wt we (own.map (·.2)))) :=
  ⟨ps_imp (ps_setLc hc hN hy hyl hsw hi.pi ok (fun s H C cl fp => (hg s H C cl fp).pg) (fun s H C cl fp => (ht s H C cl fp).pt) (fun s H C cl fp => (he s H C cl fp).pe) hs) fun D σ H h => by
    have h2 := lift_set h
    exact lc_mut hu h2⟩
end
/-- x(), x a def of the text -/
theorem pe_callS0 {CX : CXT} {f : Addr} {fd : FuncData} {sp : Sp} {E : L2.St → XK} {x : Str} (F : FnOk X.prog X.w X.K X.mg X.base CX k f fd [] sp) (hr : Room k X.A) (hg : Gl X x) (hm : X.mg x = some (.ref f)) (hk : PySem.W.keepIn X.K (.ref f) = true) (hb : Binds X.K fd [] []) (hx : ∀ σ, PassesAt CX X σ (E σ))
    (hdb : (x == ("__debug__" : Str)) = false := by decide) : PE X (.Call (.Name x p) [] [] pos) (tCallS sp E tNil) := by
  refine ⟨fun pins s σ H Q I h => ?_⟩
  refine wpAny_Call_Name_kw (ld_glob I hg hm ?_ hdb)
  refine PySem.W.callWith_K0 I.kIn hk ?_
  exact run_fnS (us := []) F hr hb (hx σ) I .nil h
theorem xf0 {x : Str} {sp : PSp} (F : Fn1 X.prog X.w X.K X.mg X.base k x [] sp) (hr : Room k X.A) (tk : Takes X W) (hg : Gl X x := by rfl) (hdb : (x == ("__debug__" : Str)) = false := by decide) : SE X W (.Call (.Name x p) [] [] pos) (wCall sp wNil) := by
  obtain ⟨f, fd, h1, h2, h3, h4⟩ := F
  refine ⟨pe_imp (pe_callS0 h4 hr hg h1 h2 h3 (fun σ => passAt tk σ) hdb) fun σ H Q h => ?_⟩
  obtain ⟨M, Γ, S, Q', E', r, e, h, oq, ox⟩ := h
  exact ⟨M, S, [], Q', E', r, (by simp only [DenL]), h, oq, ox⟩
/-- {i: j}, two ints: nobody writes it -/
theorem se_d1 {i j : Int} {n1 n2 : Nat} {p1 p2 : Pos} (hi : SE X W (.Constant (.int i) n1 p1) (wC (.int i))) (hj : SE X W (.Constant (.int j) n2 p2) (wC (.int j))) :
    SE X W (.Dict [some (.Constant (.int i) n1 p1)] [.Constant (.int j) n2 p2] pos) (wC (.dct [(.inl i, .int j)])) := ⟨pe_imp (pe_disp (pps_cons pe_int pe_int pps_nil) rfl rfl (by simp) (by simp)) fun σ H Q h => by
  obtain ⟨M, Γ, S, Q', E', r, e, hq, oq, ox⟩ := h
  intro q hp
  refine ⟨upd_same, [(.inl i, .int j)], rfl, by simp, ?_⟩
  have e2 : upd (upd H q (.dK [])) q (.dK (mergeK [] [(Sum.inl i, V.int j)])) = upd H q (.dK [(Sum.inl i, V.int j)]) := by
    funext b
    by_cases hb : b = q
    · rw [hb, upd_same, upd_same]
      rfl
    · rw [upd_ne hb, upd_ne hb, upd_ne hb]
  rw [e2]
  refine oq M S _ (new_tr hp) (new_st r hp) _ _ ?_ hq
  simp only [Den]
  exact ⟨q, [(.inl i, .int j)], rfl, upd_same, new_mu r hp, by simp [DenK, Den]⟩⟩
/-- C(d) -/
def dMkE (C : Addr) (f : Str) : D → Sto → QK → Prop := fun d S Q => Q (.exc C [(f, d)]) S
/-- == of {i: j} and itself, or as ever -/
def dEqK : RD := fun x y S Q => (∃ (i j : Int), x = .dct [(.inl i, .int j)] ∧ y = .dct [(.inl i, .int j)] ∧ Q (.bl true) S) ∨ ((∀ kvs, x ≠ .dct kvs) ∧ dEq x y S Q)
theorem od_eqK (hr : Room k X.A) : OD X (compareOp .Eq) dEqK := od_or (a := fun x y S Q => ∃ (i j : Int), x = .dct [(.inl i, .int j)] ∧ y = .dct [(.inl i, .int j)] ∧ Q (.bl true) S)
    (od_of (op_eq_dict hr.units0) fun M S H d e x y Q' Q r h1 h2 hq oq => by
      obtain ⟨i, j, rfl, rfl, hq⟩ := hq
      simp only [Den, DenK] at h1 h2
      obtain ⟨a, gs, rfl, e1, _, v, r1, rfl, rfl, rfl⟩ := h1
      obtain ⟨b, gs, rfl, e2, _, v, r2, rfl, rfl, rfl⟩ := h2
      refine ⟨a, b, [(.inl i, .int j)], rfl, rfl, e1, e2, by simp, fun p hp => ?_, oq.now r (.bl true) _ (by simp only [Den]) hq⟩
      simp only [List.mem_cons, List.not_mem_nil, or_false] at hp
      subst hp
      rfl) (od_eq hr) fun x y S Q h => h.imp id fun z => z.2
end
end PL
end
/-! from PLXf.lean -/
section
/-! PLXf: sorted(keys, key=lambda k: (k[0][0] * (z // k[0][1]), k[1])), z a name of the def about it. -/
namespace PL
open PySem PySem.Spec PySem.Calls PyProof.Rows L2 PySem.W LamX NdefX
variable [TabCtx]
abbrev K3 : Type := Int × Int × Int
/-- a key ((n, m), j) -/
def kD3 (t : K3) : D := .tup [.tup [.int t.1, .int t.2.1], .int t.2.2]
def kyL (z : Int) (t : K3) : PyData := .tuple [.int (t.1 * z.fdiv t.2.1), .int t.2.2]
def leL (z : Int) (a b : K3) : Bool := decide (a.1 * z.fdiv a.2.1 < b.1 * z.fdiv b.2.1 ∨ (a.1 * z.fdiv a.2.1 = b.1 * z.fdiv b.2.1 ∧ a.2.2 ≤ b.2.2))
theorem le_eq (z : Int) : dataLe false (kyL z) = leL z := dataLe_ii (fun t : K3 => t.1 * z.fdiv t.2.1) (fun t => t.2.2)
/-- the value v is the key t, on the heap and as data -/
def IsK (K : Frag) (M : Mu) (H : Hp) (h : Heap) (v : Value) (t : K3) : Prop := ∃ (a b : Addr) (t1 t2 t3 : Tok), v = .ref a ∧ Den K M H (kD3 t) (.ref a) ∧ IsTup h a #[.ref b, .int t.2.2 t3] ∧ IsTup h b #[.int t.1 t1, .int t.2.1 t2]
section
variable {X : Cx} {pins : List (Addr × Obj)} {σ : L2.St} {H : Hp} {s : Shared} {M : Mu}
theorem isK_of {t : K3} {x : V} {v : Value} (I : Inv X pins σ H s) (hd : Den X.K M H (kD3 t) x) (rv : RelV x v) : IsK X.K M H s.heap v t := by
  have hd0 := hd
  unfold kD3 at hd
  simp only [Den, DenL] at hd
  obtain ⟨a, vs, rfl, ha, y, r1, rfl, ⟨b, ws, rfl, hb, y1, q1, rfl, rfl, y2, q2, rfl, rfl, rfl⟩, y3, r3, rfl, rfl, rfl⟩ := hd
  obtain rfl : v = Value.ref a := rv
  obtain ⟨is, rw', hi, _⟩ := I.tuple ha.sq
  obtain ⟨js, rj, hj, _⟩ := I.tuple hb.sq
  cases rw' with
  | cons e1 e2 => cases e2 with
    | cons e2 e3 =>
      cases e3
      cases rj with
      | cons f1 f2 => cases f2 with
        | cons f2 f3 =>
          cases f3
          obtain rfl := (show _ = Value.ref b from e1)
          obtain ⟨t3, rfl⟩ := e2
          obtain ⟨t1, rfl⟩ := f1
          obtain ⟨t2, rfl⟩ := f2
          exact ⟨a, b, t1, t2, t3, rfl, hd0, hi, hj⟩
theorem each_isK (I : Inv X pins σ H s) : ∀ (ks : List K3) (vs : List V) (its : List Value), DenL X.K M H (ks.map kD3) vs → Vals vs its → EachIs (IsK X.K M H s.heap) its ks
  | [], vs, its, h, r => by
    simp only [List.map_nil, DenL] at h
    subst h
    cases r
    exact .nil
  | t :: ks, vs, its, h, r => by
    simp only [List.map_cons, DenL] at h
    obtain ⟨v, q, rfl, h1, h2⟩ := h
    cases r with
    | cons r1 r2 => exact .cons (isK_of I h1 r1) (each_isK I ks q _ h2 r2)
theorem den_each {K : Frag} {h : Heap} : ∀ {its : List Value} {ks : List K3}, EachIs (IsK K M H h) its ks → ∃ vs, DenL K M H (ks.map kD3) vs ∧ Vals vs its
  | _, _, .nil => ⟨[], by simp only [List.map_nil, DenL], .nil⟩
  | _, _, .cons ⟨a, b, t1, t2, t3, e, hd, _, _⟩ r => by
    obtain ⟨vs, h1, h2⟩ := den_each r
    subst e
    exact ⟨.ref a :: vs, by simp only [List.map_cons, DenL]; exact ⟨_, _, rfl, hd, h1⟩, .cons rfl h2⟩
end
/-- the lambda's parts -/
def lamPar (y : Str) (yp : Pos) : Arguments := { posonlyargs := [], args := [{ arg := y, annotation := none, pos := yp }], vararg := none, kwonlyargs := [], kw_defaults := [], kwarg := none, defaults := [] }
def lamScope (y z : Str) : Scope := { kind := .function, names := [(y, .local), (z, .free)], isGenerator := false, isCoroutine := false, more := [] }
def lamA (y z : Str) (k1 k2 k3 k4 : Nat) (a1 a2 a3 a4 a5 a6 a7 a8 a9 a10 a11 a12 a13 : Pos) : Expr :=
  .BinOp (.Subscript (.Subscript (.Name y a1) (.Constant (.int 0) k1 a2) a3) (.Constant (.int 0) k2 a4) a5) .Mult (.BinOp (.Name z a6) .FloorDiv (.Subscript (.Subscript (.Name y a7) (.Constant (.int 0) k3 a8) a9) (.Constant (.int 1) k4 a10) a11) a12) a13
def lamB (y : Str) (k5 : Nat) (b1 b2 b3 : Pos) : Expr := .Subscript (.Name y b1) (.Constant (.int 1) k5 b2) b3
structure LamN (y z : Str) : Prop where
  yl : (lamScope y z).names.lookup y = some .local
  zl : (lamScope y z).names.lookup z = some .free
  yd : (y == ("__debug__" : Str)) = false
  zd : (z == ("__debug__" : Str)) = false
  zc : (z == ("__classdict__" : Str)) = false
  bind : ∀ (qual : Str) (yp : Pos) (body : Expr) (cl : List (Str × Addr)) (pm cv ctv v : Value), bindArgs (kla_fn "<lambda>" qual (lamPar y yp) body (lamScope y z) cl pm cv ctv) ⟨[v], []⟩ = pure [(y, v)]
/-- e[i], whatever e is -/
theorem evr_ixA {prog : Program} {w : World} {A : Around} {s : Shared} {env : Env} {e : Expr} {i : Int} {k : Nat} {p p' : Pos} {t : Addr} {items : Array Value} {x : Value} (he : EvR prog w A s env e (fun u => u = .ref t)) (ht : IsTup s.heap t items) (h0 : 0 ≤ i) (h1 : i < 2 ^ 62) (hx : items[i.toNat]? = some x) :
    EvR prog w A s env (.Subscript e (.Constant (.int i) k p) p') (fun u => u = x) := fun t0 E Q h => by
  refine Subscript_ (he t0 E _ fun v t1 hv => ?_)
  subst hv
  refine evr_int (s := s) t1 E _ fun v2 t2 hv2 => ?_
  obtain ⟨u, rfl⟩ := hv2
  have hlt : i.toNat < items.size := by
    rcases Nat.lt_or_ge i.toNat items.size with z | z
    · exact z
    · rw [Array.getElem?_eq_none z] at hx
      cases hx
  have ht2 : IsTup ({ s with toks := t2 } : Shared).heap t items := ht
  exact subscriptTail_builtinR (x := x) ht2.typeIs PySem.F.slot_tuple_getitem.lookup (getItem_tuple (j := i.toNat) (Q := fun r s' => r = x ∧ Q r s') ht2 (by omega) (by omega) (seqIndex_of h0 (by omega)) hx ⟨rfl, h x t2 rfl⟩) (by with_unfolding_all rfl)
theorem lam_ev {prog : Program} {w : World} {A : Around} {s : Shared} {q y z : Str} {L f : Addr} {cdv : Value} {cl : List (Str × Addr)} {m : Str → Option Value} {cz : Addr} {tz : Tok} {zi : Int} {t : K3} {a b : Addr} {t1 t2 t3 : Tok} {k1 k2 k3 k4 k5 : Nat} {a1 a2 a3 a4 a5 a6 a7 a8 a9 a10 a11 a12 a13 b1 b2 b3 : Pos} (N : LamN y z)
    (hn : s.heap.Ns L m) (hm : m y = some (.ref a)) (hc : cl.lookup z = some cz) (hcz : s.heap.IsCell cz (some (.int zi tz))) (ha : IsTup s.heap a #[.ref b, .int t.2.2 t3]) (hb : IsTup s.heap b #[.int t.1 t1, .int t.2.1 t2]) (h1 : CDivA zi t.2.1) (h2 : IntMulOk t.1 (zi.fdiv t.2.1)) :
    EvR prog w A s (envX q (lamScope y z) L f cdv cl) (lamA y z k1 k2 k3 k4 a1 a2 a3 a4 a5 a6 a7 a8 a9 a10 a11 a12 a13) (IntV (t.1 * zi.fdiv t.2.1)) ∧ EvR prog w A s (envX q (lamScope y z) L f cdv cl) (lamB y k5 b1 b2 b3) (IntV t.2.2) := by
  have ey : ∀ p : Pos, EvR prog w A s (envX q (lamScope y z) L f cdv cl) (.Name y p) (fun u => u = .ref a) := fun p => evr_loc rfl N.yl hn hm N.yd
  refine ⟨evr_mul ?_ (evr_div (evr_free rfl N.zl hc hcz N.zd N.zc) ?_ h1) h2, ?_⟩
  · exact (evr_ixA (evr_ixA (ey _) ha (by decide) (by decide) rfl) hb (by decide) (by decide) rfl).to fun v e => ⟨t1, e⟩
  · exact (evr_ixA (evr_ixA (ey _) ha (by decide) (by decide) rfl) hb (by decide) (by decide) rfl).to fun v e => ⟨t2, e⟩
  · exact (evr_ixA (ey _) ha (by decide) (by decide) rfl).to fun v e => ⟨t3, e⟩
def wSortL (jz : Nat) (wa : WE) : WE := fun Γ S Q E => wa Γ S (fun d S1 => ∃ (ks : List K3) (zi : Int), isT d = false ∧ Sq S1 d (ks.map kD3) ∧ Γ[jz]? = some (some (.int zi)) ∧ ks.length ≤ sizeLine ∧ (∀ t ∈ ks, CDivA zi t.2.1 ∧ IntMulOk t.1 (zi.fdiv t.2.1)) ∧ Q (.lst ((ks.mergeSort (leL zi)).map kD3)) S1) E
section
variable {X : Cx} {W : WX} {k : Nat} {xs : Expr} {wa : WE}
theorem depth_ii {i j : Int} : (PyData.tuple [.int i, .int j]).depth = 1 := by
  simp [PyData.depth, PyData.depthAll]
theorem se_sortL {y z q : Str} {jz : Nat} {c P : Addr} {p pos kpos lpos tpos yp : Pos} {kk k1 k2 k3 k4 k5 : Nat} {a1 a2 a3 a4 a5 a6 a7 a8 a9 a10 a11 a12 a13 b1 b2 b3 : Pos} (N : LamN y z) (TB : TabB X.base X.mg c P) (hcode : X.env.code = .ref c) (hq : q = X.env.qual ++ "<lambda>") (hT : (P, fun _ _ => q) ∈ TabCtx.T)
    (hTu : ∀ p ∈ TabCtx.T, p.1 = P → p.2 = fun _ _ => q) (hr : Room k X.A) (hg : Gl X "sorted") (hm : X.mg "sorted" = none) (hz : X.N[jz]? = some z) (hzc : X.env.scope.names.lookup z = some .cell) (ha : SE X W xs wa)
    (hs : starEach [xs] X.env = (false, eval xs X.env) :: starEach [] X.env := by rfl) :
    SE X W (.Call (.Name "sorted" p) [xs] [⟨some "key", .Lambda (lamPar y yp) (.Tuple [lamA y z k1 k2 k3 k4 a1 a2 a3 a4 a5 a6 a7 a8 a9 a10 a11 a12 a13, lamB y k5 b1 b2 b3] kk tpos) (lamScope y z) lpos, kpos⟩] pos) (wSortL jz wa) := by
  refine ⟨⟨fun pins s σ H Q I h => ?_⟩⟩
  obtain ⟨M, Γ, S, Q', E', r, en, h, oq, ox⟩ := h
  refine wpAny_Call_Name_kw (ld_blt I hg hm PyProof.Rows.Boot.sorted ?_)
  refine PyProof.Rows.callWith_kw (e := xs) (rest := []) ?_ (by rw [hs]; rfl) (by rw [hs]; rfl) (by rfl) (by rfl)
  rw [hs]
  show wpAny _ _ (spliced ((false, eval xs X.env) :: backTo pos (starEach [] X.env))) _ _ s
  have run := ha.pe.run pins s σ H (fun x H1 => ∃ (M1 : Mu) (S1 : Sto) (d : D), Tr X.K M S H M1 S1 H1 ∧ StD X.K M1 H1 S1 ∧ Den X.K M1 H1 d x ∧ ∃ (ks : List K3) (zi : Int), isT d = false ∧ Sq S1 d (ks.map kD3) ∧ Γ[jz]? = some (some (.int zi)) ∧ ks.length ≤ sizeLine ∧ (∀ t ∈ ks, CDivA zi t.2.1 ∧ IntMulOk t.1 (zi.fdiv t.2.1)) ∧ Q' (.lst ((ks.mergeSort (leL zi)).map kD3)) S1) I
    ⟨M, Γ, S, _, E', r, en, h, fun M1 S1 H1 t1 r1 d v hd hq => ⟨M1, S1, d, t1, r1, hd, hq⟩, ox⟩
  refine spliced_cons (thn run fun u s1 ⟨x, H1, I1, r1, M1, S1, d, t1, st1, hd, ks, zi, nt, hsq, hG, hlen, hok, hQ⟩ => ?_)
  refine spliced_nil ?_
  obtain ⟨ps, hP, mP, sP, tri, tells⟩ := st1.tab _ hT
  have TL : TellsQ H1 q ps := ⟨tri, fun pos cv hc => let ⟨c, e1, e2, _⟩ := tells pos cv hc; ⟨c, e1, e2⟩⟩
  have en1 := envD_tr r t1 en
  obtain ⟨vz, ez, dz⟩ := en1.2 jz _ hG
  simp only [Den] at dz
  subst dz
  obtain ⟨cz, hcz⟩ : ∃ cz, X.env.cells.lookup z = some cz := by
    obtain ⟨m, _, hl⟩ := I1.loc
    obtain ⟨u, _, l⟩ := hl jz z _ hz ez (.inr (.inl hzc))
    rcases l with l | ⟨_, cz, e, _⟩
    · have : X.env.kindOf z = some .cell := hzc
      rw [this] at l
      cases l.1
    · exact ⟨cz, e⟩
  have hfree : ∀ y' ∈ (lamScope y z).names, y'.2 = .free → ∃ c, X.env.cells.lookup y'.1 = some c := by
    intro y' hy' hf
    simp only [lamScope, List.mem_cons, List.not_mem_nil, or_false] at hy'
    rcases hy' with rfl | rfl
    · cases hf
    · exact ⟨cz, hcz⟩
  refine PyProof.Rows.kws_cons ?_
  refine lam_new I1 TB hcode hq hP TL rfl hfree fun f c' pm ctv H2 s2 ps' I2 same hP2 tells2 only hf hcd => ?_
  refine PyProof.Rows.kws_nil ?_
  have t2 := grown_tr (K := X.K) (M := M1) (S := S1) st1 mP sP ⟨ps, hP⟩ same
  have st2 := grown_st st1 mP sP hP same hP2 tells2 only hTu
  have hd2 := den_tr st1 t2 _ _ hd
  obtain ⟨pa, vs, rfl, hdl, hl⟩ := sq_den st2 hd2 hsq
  have hsl : SqL X.K H2 pa vs := by
    rcases hl with ⟨_, z⟩ | ⟨z, _⟩
    · exact z
    · rw [z] at nt
      cases nt
  obtain rfl : u = Value.ref pa := r1
  obtain ⟨its, rv, hlist, hz'⟩ := I2.list hsl
  have each := each_isK I2 ks vs its hdl rv
  obtain ⟨tz, hcell⟩ : ∃ tz, s2.heap.IsCell cz (some (.int zi tz)) := by
    obtain ⟨m, _, hlo⟩ := I2.loc
    obtain ⟨u, ru, l⟩ := hlo jz z _ hz ez (.inr (.inl hzc))
    rcases l with l | ⟨_, cz', e, hc⟩
    · have : X.env.kindOf z = some .cell := hzc
      rw [this] at l
      cases l.1
    · rw [hcz] at e
      cases e
      obtain ⟨tz, rfl⟩ := ru
      exact ⟨tz, hc⟩
  have hclo : (cloFrom X.env.cells (lamScope y z).names []).lookup z = some cz := clo_has hfree (by simp [lamScope]) hcz
  show wpAny _ _ (call (.builtin "sorted") [.ref pa] [(Str.ofString "key", .ref f)]) _ _ _
  refine sorted_key_data (b := false) (R := IsK X.K M1 H2 s2.heap) (bs := ks) (kyL zi) hlist.isList each (AllAlike.of fun _ _ => by simp [kyL, alike, alikeAll]) (Sortable.tuples fun _ => ⟨_, _, rfl⟩) hlen
    (fun t _ => by have := hr.units; show X.A.units + 2 + (kyL zi t).depth < cLine; unfold kyL; rw [depth_ii]; omega) (ksk_s1 _ _) (fun _ => ksk_l1 _ _) (fun x => ksk_t1 _ _) (fun v t hR ht h tk kp => ?_) fun out cc h' tk kp fresh hat hol each' => ?_
  · obtain ⟨a, b, t1', t2', t3', rfl, _, ha', hb'⟩ := hR
    obtain ⟨ok1, ok2⟩ := hok t ht
    have tupK : ∀ {g g' : Heap} {a : Addr} {is : Array Value}, IsTup g a is → (∀ b o, g.get? b = some o → g'.get? b = some o) → IsTup g' a is := fun ⟨o, e1, e2⟩ k => ⟨o, k _ _ e1, e2⟩
    refine lam_call (s := { s2 with heap := h, toks := tk }) (kp _ _ hf) (hcd.keeps kp) (N.bind _ _ _ _ _ _ _ _) rfl rfl rfl ?_ N.yl ((I2.mod.nolimit.keeps I2.bk).keeps kp) hr.depth (fun env => rfl) fun A' s' L m hn hm2 kps => ?_
    · intro x hx
      simp only [lamScope, List.mem_cons, List.not_mem_nil, or_false] at hx
      rcases hx with rfl | rfl <;> simp
    · have kk : ∀ b o, s2.heap.get? b = some o → s'.heap.get? b = some o := fun b o e => kps b o (kp b o e)
      obtain ⟨oc, e1, e2⟩ := hcell
      exact lam_ev N hn hm2 hclo ⟨oc, kk _ _ e1, e2⟩ (tupK ha' kk) (tupK hb' kk) ok1 ok2
  · rw [le_eq] at each'
    obtain ⟨ws, w1, w2⟩ := den_each each'
    have hnone := I2.hok.fresh (Nat.le_succ s2.heap.objs.size)
    have J : Inv X pins σ (upd H2 (s2.heap.objs.size + 1) (.lst ws)) { s2 with heap := h', toks := tk } := I2.laid (t' := tk) kp (Nat.le_succ _) ⟨by rw [w2.length, hol]; exact hlen, out, cc, w2, hat⟩
    refine ⟨.ref (s2.heap.objs.size + 1), _, J, rfl, ?_⟩
    refine oq M1 S1 _ ((t1.trans t2).trans (new_tr hnone)) (new_st st2 hnone) _ _ ?_ hQ
    simp only [Den]
    exact ⟨_, ws, rfl, upd_same, new_mu st2 hnone, denL_tr st2 (new_tr hnone) _ _ w1⟩
end
end PL
end
/-! from PLXg.lean -/
section
/-! PLXg: raise C(e), try .. except C as e: .. -/
namespace PL
open PySem PySem.Spec PyProof.Rows L2
variable [TabCtx]
section
variable {X : Cx} {W : WX} {k : Nat} {C f : Addr} {a x : Str} {p pos pos2 : Pos} {e : Expr} {ta : TE} {wa : WE}
/-- C(e), made to be raised -/
theorem pmk_exI (T : ExKl X.prog X.K C f a) (N : IniN a) (hsup : X.mg "super" = none) (hr : Room k X.A) (gC : X.mg x = some (.ref C)) (hg : Gl X x) (he : PE X e ta)
    (hs : starEach [e] X.env = (false, eval e X.env) :: starEach [] X.env := by rfl) (hdb : (x == ("__debug__" : Str)) = false := by decide) :
    PMk X (.Call (.Name x p) [e] [] pos) (fun σ H Q => ta σ H fun y H1 => ∀ dx, H1 dx = none → Q (.ref C) (some dx) (upd H1 dx (.xd [(a, y)]))) := by
  intro pins s σ H Q I h
  refine wpAny_Call_Name_kw (ld_glob I hg gC ?_ hdb)
  refine PySem.W.callWith_K (h₀ := X.base) I.ok.mod.kin T.oex.kC ?_ hs (by rfl)
  rw [hs]
  show wpAny _ _ (spliced ((false, eval e X.env) :: backTo pos (starEach [] X.env))) _ _ s
  refine Calls.spliced_cons (thn (he.run pins s σ H _ I h) fun u s1 ⟨v, H1, I1, r1, q1⟩ => ?_)
  refine Calls.spliced_nil ⟨I1.kIn, ?_⟩
  show wpAny _ _ (call (.ref C) [u]) _ _ _
  obtain ⟨nm, q, N', bs, bm, sn, sub, ab, col, dd, k0, k1, k2, k3, k5, hC, hbm⟩ := T.oex.cls
  obtain ⟨hp, g, dr, tk, os⟩ := s1
  have kk : ∀ b o, hp.get? b = some o → ((hp.push (PySem.W.kdv_tup [u])).push (PySem.HandSPX.excO C hp.objs.size)).get? b = some o := fun b o e => Heap.get?_push_of_some _ (Heap.get?_push_of_some _ e)
  have hget : ((hp.push (PySem.W.kdv_tup [u])).push (PySem.HandSPX.excO C hp.objs.size)).get? (hp.objs.size + 1) = some (PySem.HandSPX.excO C hp.objs.size) := by heap_get
  have hen : hp.get? (hp.objs.size + 1) = none := Heap.get?_none_of_le (Nat.le_succ _)
  have hne : hp.objs.size + 1 ≠ C := fun z => by
    have := I1.kIn _ _ hC
    rw [← z] at this
    change hp.get? _ = _ at this
    rw [hen] at this
    cases this
  refine wpAny_call (PySem.HandSPX.call_own F.excBase_ValueError (fun Y => PySem.HandSPX.refsVE_contains Y bm hbm) (I1.kIn _ _ hC) (PySem.W.looks_findIn I1.kIn T.init) (fun self => PySem.W.bind_fn I1.kIn self T.ty) (by show 1 ≤ sizeLine; rw [sizeLine_eq]; omega) ?_)
  refine run_init (s := ⟨hp, g, dr, tk, os⟩) T N I1 hsup (by rw [make_depth]; have := hr.dp; omega) kk hget hen hne fun h' tk' dx k' d1 d2 ⟨t1, e1⟩ n1 => ?_
  have gd : hp.get? dx = none := by
    cases z : hp.get? dx with
    | none => rfl
    | some o => rw [kk _ _ z] at d1; cases d1
  have na : H1 (hp.objs.size + 1) = none := I1.hok.gone hen
  have nd : H1 dx = none := I1.hok.gone gd
  -- the heap without the exception
  obtain ⟨G, g1, g2⟩ := restrict h' fun b => decide (b ≠ hp.objs.size + 1)
  have gk : ∀ b, b ≠ hp.objs.size + 1 → G.get? b = h'.get? b := fun b hb => g1 b (decide_eq_true hb)
  have ge : G.get? (hp.objs.size + 1) = none := g2 _ (by simp)
  have kG : ∀ b o, hp.get? b = some o → G.get? b = some o := fun b o z => by
    have hb : b ≠ hp.objs.size + 1 := fun y => by rw [y, hen] at z; cases z
    rw [gk b hb]
    exact k' b o hb (kk b o z)
  have J : Inv X pins σ (upd H1 dx (.xd [(a, v)])) ⟨G, g, dr, tk', os⟩ := Inv.laidN (s := ⟨hp, g, dr, tk, os⟩) I1 kG gd nd ⟨_, n1.at fun o z => by rw [gk dx d2]; exact z, relO_put (fs := []) r1 fun g => True.intro⟩
  refine ⟨rfl, hp.objs.size + 1, _, _, ⟨G, g, dr, tk', os⟩, _, .ref C, some dx, rfl, J, fun b o z => ?_, ge, e1, ⟨rfl, rfl⟩, rfl, rfl, ?_, rfl, I1.bare, raises_own T.oex.exC T.oex.tyC, q1 dx nd⟩
  · have hb : b ≠ hp.objs.size + 1 := fun y => by
      rw [y] at z
      change G.get? _ = _ at z
      rw [ge] at z
      cases z
    exact (gk b hb).symm.trans z
  · rw [upd_ne (Ne.symm d2)]
    exact na
/-- raise C(e) -/
def wRaiseI (C : Addr) (f : Str) (wa : WE) : WS := fun _ E Γ S => wa Γ S (fun d S1 => E (.ref C) [(f, d)] Γ S1) (EK.of E Γ)
theorem ss_raiseI (T : ExKl X.prog X.K C f a) (N : IniN a) (hsup : X.mg "super" = none) (hr : Room k X.A) (gC : X.mg x = some (.ref C)) (hc : X.calm = true) (tk : Takes X W) (he : SE X W e wa) (hg : Gl X x := by rfl)
    (hs : starEach [e] X.env = (false, eval e X.env) :: starEach [] X.env := by rfl) (hdb : (x == ("__debug__" : Str)) = false := by decide) :
    SS X W (.Raise (some (.Call (.Name x p) [e] [] pos)) none pos2) (wRaiseI C a wa) := ⟨ps_imp (ps_raise hc tk (pmk_exI T N hsup hr gC hg he.pe hs hdb)) fun D σ H h => by
  obtain ⟨M, Γ, S, D', E', r, en, h, od, ox⟩ := h
  refine ⟨M, Γ, S, _, _, r, en, h, ?_, okx_of r en ox⟩
  intro M1 S1 H1 t1 r1 d y hd hq dx hdx
  have n1 := new_tr (K := X.K) (M := M1) (S := S1) (o := .xd [(a, y)]) hdx
  refine ox M1 S1 _ (t1.trans n1) (new_st r1 hdx) _ _ _ Γ σ (envD_tr r1 n1 (envD_tr r t1 en)) (.inr ⟨dx, [(a, y)], rfl, upd_same, new_mu r1 hdx, ?_⟩) hq
  simp only [DenF]
  exact ⟨y, [], rfl, den_tr r1 n1 _ _ hd, rfl⟩⟩
end
/-! ### try -/
def wTryAs (mt : Value → Option Bool) (i : Nat) (wts : Addr → Value → Option Addr → WS) (wb : WS) : WS := fun N E Γ S =>
  wb N (fun cv fs Γ1 S1 => ∃ b, mt cv = some b ∧ (b = true → ∀ a d, wts a cv d { nx := fun Γ2 S2 => N.nx (Γ2.set i none) S2, rt := N.rt, bk := fun Γ2 S2 => N.bk (Γ2.set i none) S2, ct := fun Γ2 S2 => N.ct (Γ2.set i none) S2 } (fun _ _ _ _ => False) (Γ1.set i (some (.exq a d fs))) S1) ∧
    (b = false → E cv fs Γ1 S1)) Γ S
theorem envD_none {K : PySem.W.Frag} {M : Mu} {H : Hp} {Γ : Gm} {σ : L2.St} (e : EnvD K M H Γ σ) (i : Nat) : EnvD K M H (Γ.set i none) (σ.set i none) := by
  refine ⟨by rw [List.length_set, List.length_set]; exact e.1, fun j d h => ?_⟩
  by_cases z : i = j
  · subst z
    by_cases hl : i < Γ.length
    · rw [List.getElem?_set_self hl] at h
      cases h
    · rw [List.getElem?_eq_none (by rw [List.length_set]; omega)] at h
      cases h
  · rw [List.getElem?_set_ne z] at h ⊢
    exact e.2 j d h
abbrev WNo : WX := fun _ _ _ _ => False
section
variable {X : Cx} {W : WX} {k : Nat} {x n : Str} {c : Value} {i : Nat} {body suite : List Stmt} {b₀ : Stmt} {np pos pos' : Pos} {wb : WS} {wts : Addr → Value → Option Addr → WS} {mt : Value → Option Bool}
theorem ss_try_as (hs : X.stack = X.env :: X.outer) (hf : X.env.frame = some X.env.locals) (hN : X.N.Nodup) (hi : X.N[i]? = some n) (hln : X.env.kindOf n = some .local) (hc : Names X x c) (tk : Takes X W) (hmt : ∀ cv b, mt cv = some b → PySem.W.exmOne X.K cv c = some b)
    (hb : ∀ (W : WX) (pn : List (Addr × Obj)) (xe : Value → Shared → Prop), Takes (X.tr pn xe) W → PassesOwn (model X.prog X.w) X.A X.env xe → SSs (X.tr pn xe) W body wb)
    (hsu : ∀ (a : Addr) (oe : Obj) (cls : Value) (d : Option Addr) (pn : List (Addr × Obj)), Zc cls d oe → (∃ vs, oe.data = .fields vs) → SSs (X.suite a ((a, oe) :: pn)) WNo (b₀ :: suite) (wts a cls d)) :
    SS X W (.Try body [.ExceptHandler (some (.Name x np)) (some n) (b₀ :: suite) pos'] [] [] pos) (wTryAs mt i wts wb) :=
  ⟨ps_imp (ps_try_as (ts := fun a cls d => liftS X.K WNo (wts a cls d)) (tb := fun W => liftS X.K W wb) hs hf hN hi hln hc tk (fun W pn xe t p => (hb W pn xe t p).ps) (fun a oe cls d pn hz hv => (hsu a oe cls d pn hz hv).ps)) fun D σ H h => by
    obtain ⟨M, Γ, S, D', E', r, en, h, od, ox⟩ := h
    refine ⟨M, Γ, S, D', _, r, en, h, od, ?_⟩
    rintro M1 S1 H1 t1 r1 cv fs dd Γ1 σ1 e1 hx ⟨b, hm, hy, hn⟩
    refine ⟨b, hmt cv b hm, fun hb a ha => ?_, fun hb => ox M1 S1 H1 t1 r1 cv fs dd Γ1 σ1 e1 hx (hn hb)⟩
    refine ⟨M1, Γ1.set i (some (.exq a dd fs)), S1, _, _, r1, envD_set e1 ?_, hy hb a dd, ⟨?_, od.rt.at t1, ?_, ?_⟩, fun _ _ _ _ _ _ _ _ _ _ _ _ h => h⟩
    · simp only [Den]
      refine ⟨trivial, ?_⟩
      rcases hx with ⟨h1, h2⟩ | ⟨d, gs, h1, h2, h3, h4⟩
      · subst h1 h2
        exact ⟨[], fun x z => (by cases z), fun _ => rfl, (by simp only [DenF])⟩
      · subst h1
        exact ⟨gs, fun x z => (by cases z; exact ⟨h2, h3⟩), fun z => (by cases z), h4⟩
    · intro M2 S2 H2 t2 r2 Γ2 σ2 e2 hq
      exact od.nx M2 S2 H2 (t1.trans t2) r2 _ _ (envD_none e2 i) hq
    · intro M2 S2 H2 t2 r2 Γ2 σ2 e2 hq
      exact od.bk M2 S2 H2 (t1.trans t2) r2 _ _ (envD_none e2 i) hq
    · intro M2 S2 H2 t2 r2 Γ2 σ2 e2 hq
      exact od.ct M2 S2 H2 (t1.trans t2) r2 _ _ (envD_none e2 i) hq⟩
end
/-! ### in the except suite -/
def dXq (a : Addr) (cls : Value) (d : Option Addr) (C : Addr) (f : Str) : D → Sto → QK → Prop := fun x S Q => cls = .ref C ∧ ∃ fs v, x = .exq a d fs ∧ fs.lookup f = some v ∧ Q v S
def rIsQ (a : Addr) (cls : Value) (d : Option Addr) (cs : List Addr) (cl : List V) (sub : Addr → V → Bool) : RC := fun ds S Q => ∃ fs C c, ds = [.exq a d fs, .raw c] ∧ cls = .ref C ∧ C ∈ cs ∧ c ∈ cl ∧ Q (.bl (sub C c)) S
section
variable {X : Cx} {W : WX} {a C : Addr} {oe : Obj} {cls : Value} {d : Option Addr} {pn : List (Addr × Obj)} {e : Expr} {we : WE} {pos : Pos} {n : Str}
theorem xaq (T : XfC X.K C) (hno : PySem.W.findIn X.K (.ref C) n = some none) (hz : Zc cls d oe) (hf : ∃ vs, oe.data = .fields vs) (he : SE (X.suite a ((a, oe) :: pn)) W e we) (hb : attributeBase e n X.env (eval e X.env) = eval e X.env := by rfl) :
    SE (X.suite a ((a, oe) :: pn)) W (.Attribute e n pos) (wUn (dXq a cls d C n) we) := ⟨pe_imp (pe_xf T hno hz hf he.pe hb) fun σ H Q h => by
  obtain ⟨M, Γ, S, Q', E', r, en, h, oq, ox⟩ := h
  refine ⟨M, Γ, S, _, E', r, en, h, ?_, ox⟩
  rintro M1 S1 H1 t1 r1 x u hd ⟨hc, fs, v, rfl, hl, hq⟩
  simp only [Den] at hd
  obtain ⟨rfl, gs, e2, e3, h2⟩ := hd
  obtain ⟨y, h3, h4⟩ := denF_get h2 hl
  cases d with
  | none =>
    rw [e3 rfl] at h3
    cases h3
  | some dd => exact ⟨rfl, hc, dd, gs, y, rfl, (e2 dd rfl).1, h3, oq.at t1 |>.now r1 _ _ h4 hq⟩⟩
theorem oc_isQ {cs : List Addr} {cl : List V} {sub : Addr → V → Bool} (ok : ExOk X.K cs cl sub) (hz : Zc cls d oe) (hf : ∃ vs, oe.data = .fields vs) : OC (X.suite a ((a, oe) :: pn)) (.builtin "isinstance") (rIsQ a cls d cs cl sub) := by
  intro pins s σ H xs us Q I rx q
  obtain ⟨M, S, ds, Q', r, h1, ⟨fs, C, c, rfl, rfl, hc, hl, hq⟩, oq⟩ := q
  obtain ⟨v, u, rfl, hv, hu⟩ := denL_two h1
  simp only [Den] at hu hv
  subst hu
  obtain ⟨rfl, gs, e2, e3, _⟩ := hv
  obtain ⟨u1, u2, rfl, q1, q2⟩ := vals2 rx
  cases (show u1 = Value.ref a from q1)
  obtain ⟨cv, h3, h4⟩ := ok.cc C hc _ hl
  have e5 : u2 = cv := h3.eq q2
  subst e5
  obtain ⟨hget, _⟩ := I.pin (a, oe) (List.mem_append.mpr (.inl List.mem_cons_self))
  obtain ⟨vs, hvs⟩ := hf
  obtain ⟨od, J⟩ : ∃ od, PySem.W.InstAt s.heap a oe C od := by
    have nc : PySem.W.notCls oe = true := by unfold PySem.W.notCls; rw [hvs] <;> rfl
    have hz2 := hz.2
    cases hd : oe.dict with
    | none => exact ⟨none, hget, hz.1, nc, by rw [hd]; exact True.intro⟩
    | some dd =>
      have e : d = some dd := hz2.symm.trans hd
      have hx : ObjOk X.prog X.w H s.heap dd (.xd gs) := I.hok dd _ (e2 dd e).1
      obtain ⟨mA, ⟨o, _, _, e1, _⟩, _⟩ := hx
      exact ⟨some o, hget, hz.1, nc, by rw [hd]; exact e1⟩
  exact PySem.W.kia_one (kitx_excO (ok.kc C hc)) I.kIn J h4 (fun z => nomatch z) fun tk => ⟨.bl (sub C u), H, I.tok tk, rfl, oq.now r _ _ (by simp only [Den]) hq⟩
end
end PL
end
/-! from PLH.lean -/
section
/-! PLH: the head's Hook, with one further test of the written part; sys.modules is in it. -/
namespace PL
open PySem PySem.Spec PyProof.Rows L2
variable [TabCtx]
/-- what is written down: what the module's names reach, and sys.modules -/
def reach (g : Addr → Option Obj) (n : Nat) : List Addr := He.asD g n ++ [sysModules]
def seen (fa : List He.Fa) (fn : List He.DefD) (ex : PySem.W.Frag → Bool) (K : PySem.W.Frag) : He.AlD := (((fa.all fun f => f.ok K) && fn.all fun d => d.ok K) && ex K, fn.map fun d => He.fnW K d.at_)
def seenG (n : Nat) (fa : List He.Fa) (fn : List He.DefD) (ex : PySem.W.Frag → Bool) (g : Addr → Option Obj) : He.AlD := seen fa fn ex (He.frG g (reach g n))
def Seen (fa : List He.Fa) (fn : List He.DefD) (ex : PySem.W.Frag → Bool) (K : PySem.W.Frag) : Prop := seen fa fn ex K = He.valD fn
def hookP (n : Nat) (fa : List He.Fa) (fn : List He.DefD) (ex : PySem.W.Frag → Bool) : PySem.W.Hook where
  α := He.AlD
  obs := fun s => seenG n fa fn ex s.heap.get?
  val := fun _ => He.valD fn
  says := fun _ h => ∃ K : PySem.W.Frag, K.In h ∧ Seen fa fn ex K
  of := fun _ _ e => ⟨_, He.frG_in, e⟩
  keeps := fun _ _ _ ⟨K, inK, c⟩ kp => ⟨K, PySem.W.Frag.In.keeps inK kp, c⟩
theorem seenG_eq {n : Nat} {fa : List He.Fa} {fn : List He.DefD} {ex : PySem.W.Frag → Bool} {g : Addr → Option Obj} {s : Shared} (h : ∀ a, g a = s.heap.get? a) : seenG n fa fn ex g = (hookP n fa fn ex).obs s := by
  obtain rfl : g = s.heap.get? := funext h
  rfl
section
variable {fa : List He.Fa} {fn : List He.DefD} {ex : PySem.W.Frag → Bool} {K : PySem.W.Frag}
theorem Seen.all (c : Seen fa fn ex K) : (((fa.all fun f => f.ok K) && fn.all fun d => d.ok K) && ex K) = true := congrArg (fun z : He.AlD => z.1) c
theorem Seen.extra (c : Seen fa fn ex K) : ex K = true := (He.ba c.all).2
theorem Seen.says (c : Seen fa fn ex K) : He.SaysD fa fn K := by
  have e : He.obsD fa fn K = (((fa.all fun f => f.ok K) && fn.all fun d => d.ok K), fn.map fun d => He.fnW K d.at_) := rfl
  have e2 : fn.map (fun d => He.fnW K d.at_) = fn.map He.DefD.val := congrArg (fun z : He.AlD => z.2) c
  unfold He.SaysD
  rw [e, (He.ba c.all).1, e2]
  rfl
end
/-- sys.modules is a dict -/
def sysB (K : PySem.W.Frag) : Bool := match K.lookup sysModules with
  | some o => (match o.data with
    | .dict _ _ => true
    | _ => false)
  | none => false
theorem sysB_ok {K : PySem.W.Frag} (h : sysB K = true) : SysK K := by
  unfold sysB at h
  split at h
  · rename_i o e
    split at h
    · rename_i es ep d
      exact ⟨o, es, ep, e, d⟩
    · cases h
  · cases h
section
variable {K : PySem.W.Frag} {h : Heap} {mg : Str → Option Value}
theorem gl_int (X : K.In h) (G : h.Ns mainGlobals mg) {x : Str} {i : Int} (c : (He.Fa.int x i).ok K = true) : GlD K mg x (.int i) := by
  obtain ⟨t, e⟩ := He.int_ok X G c
  exact ⟨.int i, _, e, ⟨t, rfl⟩, fun M H => by simp only [Den]⟩
theorem gl_str (X : K.In h) (G : h.Ns mainGlobals mg) {x z : Str} (c : (He.Fa.str x z).ok K = true) : GlD K mg x (.str z) := by
  obtain ⟨t, e⟩ := He.str_ok X G c
  exact ⟨.str z, _, e, ⟨t, rfl⟩, fun M H => by simp only [Den]⟩
theorem gl_tup (X : K.In h) (G : h.Ns mainGlobals mg) {x : Str} {vs : List He.Dv} {ds : List D} (c : (He.Fa.glo x).ok K = true) (t : He.tupB K x vs = true) (hd : ∀ M H, DenL K M H ds (vs.map (He.Dv.v K))) : GlD K mg x (.tup ds) :=
  ⟨.ref (He.ga K x), _, He.glo_ok X G c, rfl, fun M H => by
    simp only [Den]
    exact ⟨_, _, rfl, Or.inr (He.tupB_ok t noH), hd M H⟩⟩
/-- a def's place -/
theorem tx1 (X : K.In h) (G : h.Ns mainGlobals mg) {fa : List He.Fa} {fn : List He.DefD} {ex : PySem.W.Frag → Bool} (c : Seen fa fn ex K) (i j : Nat) {x : Str} {st : Stmt} (hi : fn[i]? = some ⟨(x, none), x, x, defArgs st, defBody st, defScope st, [], []⟩) (hj : fa[j]? = some (.glo x)) : Tx1 K mg x st := by
  obtain ⟨fd, F⟩ := c.says.def_ i hi
  exact ⟨_, fd, He.glo_ok X G (c.says.fact j hj), F⟩
end
end PL
end
/-! from PLXh.lean -/
section
/-! PLXh: the head's hook for own exceptions. -/
namespace PL
open PySem PySem.Spec PyProof.Rows L2
variable [TabCtx]
abbrev IniW : Type := Option (Str × Str × Arguments × FuncBody × Scope × Addr × List Str × Addr)
/-- the class's __init__, as it stands -/
def iniW (K : PySem.W.Frag) (x : Str) : IniW := match K.lookup (He.ma K (He.ga K x) "__init__") with
  | some ⟨_, _, .func fd, _⟩ => some (fd.name, fd.qualname, fd.params, fd.body, fd.scope, fd.globals, fd.closure.map (·.1), fd.builtins)
  | _ => none
structure IniD where
  x : Str
  q : Str
  st : Stmt
def IniD.val (d : IniD) : IniW := some ("__init__", d.q, defArgs d.st, .stmts (defBody d.st), defScope d.st, mainGlobals, [("__class__" : Str)], builtinsNs)
def reachX (g : Addr → Option Obj) (n : Nat) : List Addr := He.asD g n ++ [sysModules, cStatics]
abbrev AlX : Type := He.AlD × List IniW
def seenX (fa : List He.Fa) (fn : List He.DefD) (fi : List IniD) (ex : PySem.W.Frag → Bool) (K : PySem.W.Frag) : AlX := (seen fa fn ex K, fi.map fun d => iniW K d.x)
def valX (fn : List He.DefD) (fi : List IniD) : AlX := (He.valD fn, fi.map IniD.val)
def seenXG (n : Nat) (fa : List He.Fa) (fn : List He.DefD) (fi : List IniD) (ex : PySem.W.Frag → Bool) (g : Addr → Option Obj) : AlX := seenX fa fn fi ex (He.frG g (reachX g n))
def SeenX (fa : List He.Fa) (fn : List He.DefD) (fi : List IniD) (ex : PySem.W.Frag → Bool) (K : PySem.W.Frag) : Prop := seenX fa fn fi ex K = valX fn fi
def hookX (n : Nat) (fa : List He.Fa) (fn : List He.DefD) (fi : List IniD) (ex : PySem.W.Frag → Bool) : PySem.W.Hook where
  α := AlX
  obs := fun s => seenXG n fa fn fi ex s.heap.get?
  val := fun _ => valX fn fi
  says := fun _ h => ∃ K : PySem.W.Frag, K.In h ∧ SeenX fa fn fi ex K
  of := fun _ _ e => ⟨_, He.frG_in, e⟩
  keeps := fun _ _ _ ⟨K, inK, c⟩ kp => ⟨K, PySem.W.Frag.In.keeps inK kp, c⟩
theorem seenXG_eq {n : Nat} {fa : List He.Fa} {fn : List He.DefD} {fi : List IniD} {ex : PySem.W.Frag → Bool} {g : Addr → Option Obj} {s : Shared} (h : ∀ a, g a = s.heap.get? a) : seenXG n fa fn fi ex g = (hookX n fa fn fi ex).obs s := by
  obtain rfl : g = s.heap.get? := funext h
  rfl
section
variable {fa : List He.Fa} {fn : List He.DefD} {fi : List IniD} {ex : PySem.W.Frag → Bool} {K : PySem.W.Frag}
theorem SeenX.seen (c : SeenX fa fn fi ex K) : Seen fa fn ex K := congrArg (fun z : AlX => z.1) c
theorem SeenX.ini (c : SeenX fa fn fi ex K) (i : Nat) {d : IniD} (h : fi[i]? = some d) : iniW K d.x = d.val := by
  have e : (fi.map fun d => iniW K d.x) = fi.map IniD.val := congrArg (fun z : AlX => z.2) c
  have e2 := congrArg (fun l => l[i]?) e
  simp only [List.getElem?_map, h, Option.map_some, Option.some.injEq] at e2
  exact e2
end
/-! ### tests -/
def cdB (P : Program) (K : PySem.W.Frag) : Value → Bool
  | .ref c => (match K.lookup c with
    | some ⟨_, _, .fields vs, _⟩ => (match (vs[2]? : Option Value) with
      | some (.str file _) => (P.main.file : Str) == file
      | _ => false)
    | _ => false)
  | _ => false
def cellB (K : PySem.W.Frag) (C : Addr) : List (Str × Addr) → Bool
  | [(_, cc)] => (match K.lookup cc with
    | some ⟨_, _, .cell (some (.ref D)), _⟩ => decide (D = C)
    | _ => false)
  | _ => false
def noneB : Value → Bool
  | .none => true
  | _ => false
def fnB (P : Program) (K : PySem.W.Frag) (C f : Addr) (q : Str) : Bool := match K.lookup f with
  | some ⟨_, _, .func fd, _⟩ => PySem.W.codeIn K fd.code q && (cdB P K fd.code && (noneB fd.defaults && (noneB fd.kwdefaults && cellB K C fd.closure)))
  | _ => false
def inB (P : Program) (K : PySem.W.Frag) (C : Addr) (a q : Str) : Bool :=
  PySem.W.excInitIn K C veMro "ValueError.__new__" && ((PySem.W.clsIn K C).any (fun cd => PySem.HandSPX.refsVE cd.mro && cd.hasDict) && (He.eqO (PySem.W.findIn K (.ref C) "__setattr__") (some (some (.builtin "object.__setattr__"))) &&
  (decide (PySem.W.subIn K (.ref C) (.type "BaseException") = some true) && (decide (PySem.W.typeIn K (.ref C) = some (.type "type")) && (PySem.W.keepIn K (.ref C) && (decide (PySem.W.mroIn K C (.ref C) = some true) && (decide (PySem.W.subIn K (.ref C) (.type "ValueError") = some true) &&
  (He.eqO (PySem.W.ks_superIn K C C "__init__") (some (some (.builtin "ValueError.__init__"))) && (He.eqO (PySem.W.findIn K (.ref C) a) (some none) && (He.eqO (PySem.W.findIn K (.ref C) "__init__") (some (some (.ref (He.ma K C "__init__")))) &&
  (decide (PySem.W.typeIn K (.ref (He.ma K C "__init__")) = some (.type "function")) && fnB P K C (He.ma K C "__init__") q)))))))))))
theorem exc_obj0 {K : PySem.W.Frag} {C : Addr} {bmB : List Value} {newId : String} (q : PySem.W.excInitIn K C bmB newId = true) : ∃ nm N qn bs bm hdct sn sub ab col dd k0 k1 k2 k3 k5,
    K.lookup C = some (excClassObj nm qn C N bs bm hdct sn sub ab col dd k0 k1 k2 k3 k5 newId) := by
  unfold PySem.W.excInitIn at q
  split at q
  · rename_i dd cd sl ho
    split at q
    · rename_i C' bm k0 k1 k2 k3 n k5 hm hs
      simp only [Bool.and_eq_true, beq_iff_eq, Bool.not_eq_true'] at q
      obtain ⟨⟨⟨rfl, rfl⟩, hdel⟩, ht⟩ := q
      obtain ⟨nm, bs, mro, ns, qn, hd, sn, sub, ab, col, del⟩ := cd
      dsimp only at hm hdel
      subst hm hdel
      have hsl : sl = #[k0, k1, k2, k3, some (.builtin n), k5] := by
        obtain ⟨l⟩ := sl
        simp only at hs
        rw [hs]
      subst hsl
      exact ⟨nm, ns, qn, bs, bm, hd, sn, sub, ab, col, dd, k0, k1, k2, k3, k5, ho⟩
    · cases q
  · cases q
theorem exKl_ok {P : Program} {K : PySem.W.Frag} {x a q : Str} {p0 p1 p2 p3 p4 p5 p6 p7 p8 p9 pa pb : Pos}
    (e : iniW K x = some (("__init__" : Str), q, iniPar a pa pb, .stmts (iniBody a p0 p1 p2 p3 p4 p5 p6 p7 p8 p9), iniScope a, mainGlobals, [("__class__" : Str)], builtinsNs)) (c : inB P K (He.ga K x) a q = true)
    (ops : PySem.W.nsIn K cStatics "thirdparty.any" = some none) (main : (P.main.scope.names.lookup ("super" : Str)).isSome = false) (hpe : (p2.endLine == p4.line) = true) : ∃ f, ExKl P K (He.ga K x) f a := by
  unfold inB at c
  obtain ⟨c1, c⟩ := He.ba c
  obtain ⟨c2, c⟩ := He.ba c
  obtain ⟨c3, c⟩ := He.ba c
  obtain ⟨c4, c⟩ := He.ba c
  obtain ⟨c5, c⟩ := He.ba c
  obtain ⟨c6, c⟩ := He.ba c
  obtain ⟨c7, c⟩ := He.ba c
  obtain ⟨c8, c⟩ := He.ba c
  obtain ⟨c9, c⟩ := He.ba c
  obtain ⟨c10, c⟩ := He.ba c
  obtain ⟨c11, c⟩ := He.ba c
  obtain ⟨c12, c13⟩ := He.ba c
  obtain ⟨cd, hcd, hb⟩ := PySem.W.any_some c2
  obtain ⟨hb1, hb2⟩ := He.ba hb
  obtain ⟨nm, N, qn, bs, bm, hdct, sn, sub, ab, col, dd, k0, k1, k2, k3, k5, hC⟩ := exc_obj0 c1
  have ecd : PySem.W.clsIn K (He.ga K x) = some { name := nm, bases := bs, mro := .ref (He.ga K x) :: bm, ns := N, qualname := qn, hasDict := hdct, slotNames := sn, subclasses := sub, abstract := ab, collection := col, hasDel := false } := by
    unfold PySem.W.clsIn
    rw [hC] <;> rfl
  have ecd2 := ecd
  rw [hcd] at ecd2
  cases ecd2
  have hd : hdct = true := hb2
  subst hd
  refine ⟨He.ma K (He.ga K x) "__init__", ⟨⟨⟨nm, qn, N, bs, bm, sn, sub, ab, col, dd, k0, k1, k2, k3, k5, hC, hb1⟩, He.eqO_ok c3, of_decide_eq_true c4, of_decide_eq_true c5, c6⟩, He.eqO_ok c11, of_decide_eq_true c12, ⟨_, hcd, hb1, rfl⟩, c1, of_decide_eq_true c7, of_decide_eq_true c8, He.eqO_ok c9, ops, He.eqO_ok c10, main, ?_⟩⟩
  unfold iniW at e
  unfold fnB at c13
  cases hf : K.lookup (He.ma K (He.ga K x) "__init__") with
  | none => rw [hf] at e; cases e
  | some o =>
    rw [hf] at e c13
    obtain ⟨oc, od, dt, osl⟩ := o
    cases dt with
    | func fd =>
      obtain ⟨n1, n2, n3, n4, n5, n6, n7, n8, n9, n10, n11, n12, n13, n14, n15⟩ := fd
      have e2 : (some (n1, n2, n3, n4, n5, n6, n7.map (·.1), n15) : IniW) = some (("__init__" : Str), q, iniPar a pa pb, .stmts (iniBody a p0 p1 p2 p3 p4 p5 p6 p7 p8 p9), iniScope a, mainGlobals, [("__class__" : Str)], builtinsNs) := e
      simp only [Option.some.injEq, Prod.mk.injEq] at e2
      obtain ⟨h1, h2, h3, h4, h5, h6, h7, h8⟩ := e2
      subst h1 h2 h3 h4 h5 h6 h8
      have c14 : (PySem.W.codeIn K n13 n2 && (cdB P K n13 && (noneB n8 && (noneB n9 && cellB K (He.ga K x) n7)))) = true := c13
      obtain ⟨d1, c14⟩ := He.ba c14
      obtain ⟨d2, c14⟩ := He.ba c14
      obtain ⟨d3, c14⟩ := He.ba c14
      obtain ⟨d4, d5⟩ := He.ba c14
      have y8 : n8 = .none := by cases n8 <;> first | rfl | cases d3
      have y9 : n9 = .none := by cases n9 <;> first | rfl | cases d4
      subst y8 y9
      match n7, h7, d5 with
      | [(cx, cc)], h7, d5 =>
        have hcx : cx = "__class__" := by simpa using h7
        subst hcx
        unfold cellB at d5
        unfold cdB at d2
        cases n13 with
        | ref cda =>
          simp only at d2 d5
          split at d2
          · rename_i oc2 od2 vs osl2 hco
            split at d2
            · rename_i file tf hvs
              split at d5
              · rename_i oc3 od3 D osl3 hcc
                have eD : D = He.ga K x := of_decide_eq_true d5
                subst eD
                exact ⟨_, _, _, _, _, _, _, _, _, _, _, _, _, _, _, _, _, _, _, _, _, _, _, _, _, _, _, cda, cc, _, file, tf, rfl, d1, hco, hvs, d2, hcc, hpe⟩
              · cases d5
            · cases d2
          · cases d2
        | _ => cases d2
    | _ => cases e
/-! isinstance of exceptions -/
def exCB (K : PySem.W.Frag) (D : Addr) : Bool :=
  He.eqO (PySem.W.findIn K (.ref D) "__getattribute__") (some (some (.builtin "BaseException.__getattribute__"))) && (He.eqO (PySem.W.findIn K (.ref D) "__getattr__") (some none) && (decide (PySem.W.subIn K (.ref D) (.type "BaseException") = some true) && (PySem.W.hasDictIn K D &&
  (He.eqO (PySem.W.findIn K (.ref D) "__class__") (some (some (.builtin "object.__class__"))) && (He.eqO (PySem.W.specialIn K (.builtin "object.__class__") "__get__") (some (some (.builtin "getset_descriptor.__get__"))) && (decide (PySem.W.takesIn K (.builtin "object.__class__") = some true) && decide (PySem.W.mroIn K D (.type "object") = some true)))))))
theorem exCB_ok {K : PySem.W.Frag} {D : Addr} (h : exCB K D = true) : ExcC K D := by
  obtain ⟨h1, h⟩ := He.ba h
  obtain ⟨h2, h⟩ := He.ba h
  obtain ⟨h3, h⟩ := He.ba h
  obtain ⟨h4, h⟩ := He.ba h
  obtain ⟨h5, h⟩ := He.ba h
  obtain ⟨h6, h⟩ := He.ba h
  obtain ⟨h7, h8⟩ := He.ba h
  exact ⟨He.eqO_ok h1, He.eqO_ok h2, of_decide_eq_true h3, h4, He.eqO_ok h5, He.eqO_ok h6, of_decide_eq_true h7, of_decide_eq_true h8⟩
def kcB (K : PySem.W.Frag) (C : Addr) (b : Bool) : V → Bool
  | .ty T => decide (PySem.W.kitOne K (.ref C) (.type T) = some b)
  | .ref D => decide (PySem.W.kitOne K (.ref C) (.ref D) = some b)
  | _ => false
def exOkB (K : PySem.W.Frag) (cs : List Addr) (cl : List V) (sub : Addr → V → Bool) : Bool := cs.all fun C => exCB K C && cl.all fun c => kcB K C (sub C c) c
theorem exOkB_ok {K : PySem.W.Frag} {cs : List Addr} {cl : List V} {sub : Addr → V → Bool} (h : exOkB K cs cl sub = true) : ExOk K cs cl sub := by
  have h2 : ∀ C ∈ cs, exCB K C = true ∧ ∀ c ∈ cl, kcB K C (sub C c) c = true := fun C hC => by
    have := List.all_eq_true.mp h C hC
    obtain ⟨a, b⟩ := He.ba this
    exact ⟨a, fun c hc => List.all_eq_true.mp b c hc⟩
  refine ⟨fun C hC => exCB_ok (h2 C hC).1, fun C hC c hc => ?_⟩
  have k := (h2 C hC).2 c hc
  cases c with
  | ty T => exact ⟨.type T, .ty T, of_decide_eq_true k⟩
  | ref D => exact ⟨.ref D, .own D, of_decide_eq_true k⟩
  | _ => cases k
def xfOkB (K : PySem.W.Frag) (cs : List Addr) (f : Str) : Bool := cs.all fun C => xfB K C && He.eqO (PySem.W.findIn K (.ref C) f) (some none)
theorem xfOkB_ok {K : PySem.W.Frag} {cs : List Addr} {f : Str} (h : xfOkB K cs f = true) : XfOk K cs f := fun C hC => by
  obtain ⟨a, b⟩ := He.ba (List.all_eq_true.mp h C hC)
  exact ⟨xfB_ok a, He.eqO_ok b⟩
end PL
end
/-! from PLXi.lean -/
section
/-! PLXi: == and != of instances of a class with its own __eq__. -/
namespace PL
open PySem PySem.Spec PyProof.Rows L2
variable [TabCtx]
/-- a class of the text with __eq__, without __ne__ -/
def eqClsB (K : PySem.W.Frag) (C f : Addr) : Bool := match K.lookup C with
  | some ⟨.type "type", _, .cls cd, sl⟩ => (match cd.mro, sl.toList with
    | [.ref C', .type "object"], [_, _, _, _, some (.builtin _), _] => C' == C && !cd.hasDel && PySem.W.nsOkIn K cd.ns && He.eqO (PySem.W.nsIn K cd.ns "__eq__") (some (some (.ref f))) && He.eqO (PySem.W.nsIn K cd.ns "__ne__") (some none)
    | _, _ => false)
  | _ => false
structure EqCl (K : PySem.W.Frag) (C f : Addr) : Prop where
  cls : eqClsB K C f = true
  eq : PySem.W.findIn K (.ref C) "__eq__" = some (some (.ref f))
  fn : PySem.W.isFn K (.ref f) = true
  nf : ∀ t ∈ tyNames, PySem.W.notFirst K C (.type t) = true
def eqClB (K : PySem.W.Frag) (C f : Addr) : Bool := eqClsB K C f && (He.eqO (PySem.W.findIn K (.ref C) "__eq__") (some (some (.ref f))) && (PySem.W.isFn K (.ref f) && tyNames.all fun t => PySem.W.notFirst K C (.type t)))
theorem eqClB_ok {K : PySem.W.Frag} {C f : Addr} (h : eqClB K C f = true) : EqCl K C f := by
  obtain ⟨h1, h⟩ := He.ba h
  obtain ⟨h2, h⟩ := He.ba h
  obtain ⟨h3, h4⟩ := He.ba h
  exact ⟨h1, He.eqO_ok h2, h3, fun t ht => List.all_eq_true.mp h4 t ht⟩
theorem nsv_of {K : PySem.W.Frag} {h : Heap} {N : Addr} {mg : Str → Option Value} {n : Str} {v : Value} (X : K.In h) (G : h.Ns N mg) (e : PySem.W.nsIn K N n = some (some v)) : mg n = some v := by
  obtain ⟨o, es, ep, ho, hd, _, hf⟩ := G
  unfold PySem.W.nsIn at e
  split at e
  · rename_i c d es' n' sl q
    obtain rfl := Option.some.inj (ho.symm.trans (X _ _ q))
    cases hd
    cases he : es.toList.find? (·.key.isStr n) with
    | none =>
      rw [he] at e
      simp only at e
      split at e <;> cases e
    | some en =>
      rw [he] at e
      cases e
      rw [← hf]
      unfold nsFind findBy
      rw [← Array.find?_toList, he]
      rfl
  · cases e
theorem ownEq_of {K : PySem.W.Frag} {h : Heap} {C f x : Addr} {ox : Obj} {od : Option Obj} (X : K.In h) (I : PySem.W.InstAt h x ox C od) (T : EqCl K C f) : h.OwnEqNoNe x C f "object" [.type "object"] := by
  have q := T.cls
  unfold eqClsB at q
  split at q
  · rename_i dd cd sl ho
    split at q
    · rename_i C' k0 k1 k2 k3 n k5 hm hs
      simp only [Bool.and_eq_true, beq_iff_eq, Bool.not_eq_true'] at q
      obtain ⟨⟨⟨⟨rfl, hdel⟩, hok⟩, he⟩, hn⟩ := q
      obtain ⟨nm, bs, mro, ns, qn, hd, sn, sub, ab, col, del⟩ := cd
      dsimp only at hm hdel hok he hn
      subst hm hdel
      have hsl : sl = #[k0, k1, k2, k3, some (.builtin n), k5] := by
        obtain ⟨l⟩ := sl
        simp only at hs
        rw [hs]
      subst hsl
      have G : h.Ns ns (h.nsMap ns) := .of_isNs (PySem.W.isNs_of_in X hok)
      obtain ⟨of, hof, hfc⟩ : ∃ of, h.get? f = some of ∧ of.cls = .type "function" := by
        have ht : (K.lookup f).map (·.cls) = some (.type "function") := beq_iff_eq.mp T.fn
        cases z : K.lookup f with
        | none => rw [z] at ht; cases ht
        | some of => rw [z] at ht; exact ⟨of, X _ _ z, Option.some.inj ht⟩
      exact ⟨ox, of, nm, qn, ns, bs, hd, sn, sub, ab, col, dd, k0, k1, k2, k3, k5, n, h.nsMap ns, _, I.at_, I.cls, X _ _ ho, G, nsv_of X G (He.eqO_ok he), hof, hfc, F.cmp_object.mro, F.cmp_object.eq.lookup, PySem.W.ns_none_of X G (He.eqO_ok hn)⟩
    · cases q
  · cases q
/-- x == y, x an instance of C: what __eq__ says -/
def dEqOwn (C : Addr) (sp : PSp) (neg : Bool) : RD := fun x y S Q => (∃ fs, x = .obj C fs) ∧ ((∃ gs, y = .obj C gs) ∨ (neg = false ∧ ∃ t, TyD S y t)) ∧ sp [x, y] S (fun r S' => ∃ b, r = .bl b ∧ Q (.bl (neg != b)) S') (fun _ _ _ => False)
theorem takesNo {X : Cx} : Takes X WNo := fun u s' ⟨a, B, sI, pins, σ, H, cls, d, e, I, nb, up, sky, na, os, ag, w⟩ => w.elim
section
variable {X : Cx} {k : Nat} {C f : Addr} {fd : FuncData} {ps : List Str} {sp : PSp}
theorem obj_at {pins : List (Addr × Obj)} {σ : L2.St} {H : Hp} {s : Shared} {M : Mu} {fs : List (Str × D)} {x : V} (I : Inv X pins σ H s) (h : Den X.K M H (.obj C fs) x) : ∃ a ox od, x = .ref a ∧ PySem.W.InstAt s.heap a ox C od := by
  simp only [Den] at h
  obtain ⟨a, dx, gs, rfl, e1, _⟩ := h
  obtain ⟨mA, ob, _⟩ := ins_get I.hok e1
  obtain ⟨od, J, _⟩ := ob.look
  exact ⟨a, _, _, rfl, J⟩
theorem od_eqOwn (T : EqCl X.K C f) (F : FnOk X.prog X.w X.K X.mg X.base (L2.CX X.prog X.w) k f fd ps (liftSp X.K sp)) (hb : Binds X.K fd ps []) (hr : Room k X.A) : OD X (compareOp .Eq) (dEqOwn C sp false) := by
  intro pins s σ H x y v u Q I rx ry q
  obtain ⟨M, S, d, e, Q', r, h1, h2, ⟨⟨fs, rfl⟩, hy, hsp⟩, oq⟩ := q
  obtain ⟨a, ox, od, rfl, J⟩ := obj_at I h1
  obtain rfl : v = Value.ref a := rx
  obtain ⟨m, fr⟩ := I.fr
  have ty : ∃ tb, PySem.W.Looks (model X.prog X.w) s.heap (typeOf u) tb ∧ PySem.W.notFirst X.K C tb = true := by
    rcases hy with ⟨gs, rfl⟩ | ⟨_, t, ht⟩
    · obtain ⟨b, oy, ody, rfl, J2⟩ := obj_at I h2
      obtain rfl : u = Value.ref b := ry
      exact ⟨.ref C, J2.type, by unfold PySem.W.notFirst; simp⟩
    · obtain ⟨P, Z, hp, _⟩ := kit_of I ry (tyX_den r h2 ht)
      exact ⟨.type t, Z.ty _ _ I.kIn hp, T.nf t (tyD_mem ht)⟩
  obtain ⟨tb, ht1, ht2⟩ := ty
  have run := run_fnS (us := [.ref a, u]) (vs := [.ref a, y]) (E := fun σ => L2.WE WNo σ) F hr hb (fun H s => passAt takesNo σ H s) I (.cons rfl (.cons ry .nil)) (Q := fun w H' => ∃ b, w = .bl b ∧ Q (.bl b) H')
    ⟨M, S, [.obj C fs, e], _, _, r, denL_cons h1 (denL_cons h2 denL_nil), hsp, fun M1 S1 H1 t1 r1 dd w hw hq => by
      obtain ⟨b, rfl, hq⟩ := hq
      simp only [Den] at hw
      exact ⟨b, hw, oq M1 S1 H1 t1 r1 (.bl b) (.bl b) (by simp only [Den]) (by simpa using hq)⟩, fun _ _ _ _ _ _ _ _ _ h => h⟩
  show wpAny _ _ (richCompare .Eq (.ref a) u) _ _ _
  refine PySem.W.cmp_K hr.units0 fr I.ok.mod.kin J ht1 ht2 T.eq T.fn (wpAny_mono run (fun w s' hw => ?_) fun _ _ z => z)
  obtain ⟨ww, H', I', rw', b, rfl, hq⟩ := hw
  obtain rfl : w = Value.bool b := rw'
  exact ⟨.bl b, H', I', rfl, hq⟩
theorem od_neOwn (T : EqCl X.K C f) (F : FnOk X.prog X.w X.K X.mg X.base (L2.CX X.prog X.w) k f fd ps (liftSp X.K sp)) (hb : Binds X.K fd ps []) (hr : Room (k + 1) X.A) : OD X (compareOp .NotEq) (dEqOwn C sp true) := by
  intro pins s σ H x y v u Q I rx ry q
  obtain ⟨M, S, d, e, Q', r, h1, h2, ⟨⟨fs, rfl⟩, hy, hsp⟩, oq⟩ := q
  obtain ⟨a, ox, od, rfl, J⟩ := obj_at I h1
  obtain rfl : v = Value.ref a := rx
  obtain ⟨gs, rfl⟩ : ∃ gs, e = .obj C gs := by
    rcases hy with h | ⟨h, _⟩
    · exact h
    · cases h
  obtain ⟨b2, oy, ody, rfl, J2⟩ := obj_at I h2
  obtain rfl : u = Value.ref b2 := ry
  have hl : (⟨[Value.ref a, Value.ref b2], []⟩ : Args) = ⟨[Value.ref a, Value.ref b2], []⟩ := rfl
  have spx : liftSp X.K sp [.ref a, .ref b2] H (fun w H' => ∃ b, w = .bl b ∧ Q (.bl (!b)) H') (L2.WE WNo σ) := ⟨M, S, [.obj C fs, .obj C gs], _, _, r, denL_cons h1 (denL_cons h2 denL_nil), hsp, fun M1 S1 H1 t1 r1 dd w hw hq => by
      obtain ⟨b, rfl, hq⟩ := hq
      simp only [Den] at hw
      exact ⟨b, hw, oq M1 S1 H1 t1 r1 (.bl (!b)) (.bl (!b)) (by simp only [Den]) (by simpa using hq)⟩, fun _ _ _ _ _ _ _ _ _ h => h⟩
  have len : ([Value.ref a, Value.ref b2]).length = ps.length := (F.len _ _ _ _ spx)
  have bd := hb s [Value.ref a, Value.ref b2] I.kIn (by rw [List.append_nil]; exact len)
  rw [List.append_nil] at bd
  have run : wpAny (model X.prog X.w) X.A.in1 (call (.ref f) [.ref a, .ref b2]) (EP X pins σ fun w H' => ∃ b, w = .bl b ∧ Q (.bl (!b)) H') X.xe s := by
    refine wpAny_call (codeAny_mono (F.run X.A.in1 X.stack s H ⟨[.ref a, .ref b2], []⟩ [.ref a, .ref b2] [.ref a, .ref b2] _ _ hr.in1 I.env0.in1 bd (.cons rfl (.cons rfl .nil)) spx) fun r s' hq => ?_)
    cases r with
    | error e => exact passAt takesNo σ pins H s e s' I hq
    | ok fl =>
      cases fl with
      | ret u => exact I.after hq
      | next => exact False.elim hq
      | brk => exact False.elim hq
      | cont => exact False.elim hq
  have fact := ownEq_of I.kIn J T
  have j2 := J2.at_
  obtain ⟨hp, g, dr, t, os⟩ := s
  refine compareOp_ne_ownEq PySem.F.cmp_object fact j2 J2.cls (by have := hr.units; omega) (wpAny_mono run (fun w s' hw => ?_) fun _ _ z => z)
  obtain ⟨ww, H', I', rw', b, rfl, hq⟩ := hw
  obtain rfl : w = Value.bool b := rw'
  exact ⟨b, rfl, .bl (!b), H', I', rfl, hq⟩
end
end PL
end
/-! from PLXj.lean -/
section
/-! PLXj: a def that makes lambdas; max(i, j); a class's __eq__ by its promise; the walk's end with tables of code objects. -/
namespace PL
open PySem PySem.Spec PyProof.Rows L2 LamX
variable [TabCtx]
/-- a def whose code object is known -/
theorem fn_plC {P : Program} {w : World} {K : PySem.W.Frag} {mg : Str → Option Value} {base : Heap} {x qual : Str} {params : Arguments} {body : List Stmt} {scope : Scope} {f : Addr} {fd : FuncData} {N ps : List Str} {k : Nat} {sp : PSp} {wb : WS} (F : FunD K x qual params body scope [] [] f fd) (S : FnScope N ps scope)
    (len : ∀ ds S Q E, sp ds S Q E → ds.length = ps.length)
    (hbody : ∀ (cd : Value) (A : Around) (outer : List PySem.Env) (s : Shared) (H : Hp) (E : XK), cd = fd.code → Bd (BX P w K mg base N qual scope f cd A outer s H E) (BW E) k → SSs (BX P w K mg base N qual scope f cd A outer s H E) (BW E) body wb)
    (pure : ∀ ds S Q E, sp ds S Q E → wb { nx := fun _ S' => Q .non S', rt := Q } (fun c fs _ S' => E c fs S') (startG N ds) S) : FnOk P w K mg base (L2.CX P w) (k + 1) f fd ps (liftSp K sp) := by
  obtain ⟨oc, od, dV, kV, doc, pm, an, cdv, ct, osl, rfl, lk, hcd, _, _⟩ := F.ex
  refine fn_of lk hcd S (fun vs H Q E h => ?_) (fun A outer s H vs Q E hr h => ⟨liftS K (BW E) wb, (hbody cdv A outer s H E rfl ⟨takes_of rfl rfl rfl rfl, passes_of rfl, hr⟩).ps, ?_⟩)
  · obtain ⟨M, S', ds, Q', E', r, hd, h, _, _⟩ := h
    rw [denL_len hd]
    exact len _ _ _ _ h
  · obtain ⟨M, S', ds, Q', E', r, hd, h, oq, ox⟩ := h
    refine ⟨M, startG N ds, S', _, _, r, envD_start hd, pure ds S' Q' E' h, ⟨?_, oq, fun _ _ _ _ _ _ _ _ h => h, fun _ _ _ _ _ _ _ _ h => h⟩, ?_⟩
    · intro M1 S1 H1 t1 r1 Γ σ e hq
      exact oq M1 S1 H1 t1 r1 _ _ (by simp only [Den]) hq
    · intro M1 S1 H1 t1 r1 c fs dd Γ σ e hx hq
      exact ox M1 S1 H1 t1 r1 c fs dd hx hq
/-- a def of the text by its name, its code object at c -/
def TxC (K : PySem.W.Frag) (mg : Str → Option Value) (x : Str) (st : Stmt) (c : Addr) : Prop := ∃ f fd, mg x = some (.ref f) ∧ FunD K x x (defArgs st) (defBody st) (defScope st) [] [] f fd ∧ fd.code = .ref c
abbrev DvC (P : Program) (w : World) (K : PySem.W.Frag) (mg : Str → Option Value) (base : Heap) (N : List Str) (x : Str) (st : Stmt) (k : Nat) (c : Addr) (wb : WS) : Prop :=
  ∀ (f : Addr) (cd : Value) (A : Around) (outer : List PySem.Env) (s : Shared) (H : Hp) (E : XK), cd = .ref c → Bd (BX P w K mg base N x (defScope st) f cd A outer s H E) (BW E) k → SSs (BX P w K mg base N x (defScope st) f cd A outer s H E) (BW E) (defBody st) wb
section
variable {P : Program} {w : World} {K : PySem.W.Frag} {mg : Str → Option Value} {base : Heap} {k j : Nat} {x : Str} {ps N : List Str} {sp sp' : PSp} {st : Stmt} {wb : WS} {c : Addr}
theorem fn1C (T : TxC K mg x st c) (S : FnScope N ps (defScope st)) (hb : ∀ (fd : FuncData) (f : Addr), FunD K x x (defArgs st) (defBody st) (defScope st) [] [] f fd → Binds K fd ps []) (D : DvC P w K mg base N x st k c wb)
    (len : ∀ ds S Q E, sp ds S Q E → ds.length = ps.length) (pure : ∀ ds S Q E, sp ds S Q E → wb { nx := fun _ S' => End Q .non S', rt := End Q } (fun c fs _ S' => E c fs S') (startG N ds) S) : Fn1 P w K mg base (k + 1) x ps sp := by
  refine Fn1.fin ?_
  obtain ⟨f, fd, hm, F, hc⟩ := T
  refine ⟨f, fd, hm, F.kp, hb fd f F, fn_plC F S (fun ds S Q E ⟨Q0, h, _⟩ => len ds S Q0 E h) (fun cd A outer s H E e b => D f cd A outer s H E (e.trans hc) b) ?_⟩
  rintro ds S Q E ⟨Q0, h, rfl⟩
  exact pure ds S Q0 E h
end
/-- max(i, j) -/
def rMax2 : RC := fun ds S Q => ∃ i j, ds = [.int i, .int j] ∧ Q (.int (if j > i then j else i)) S
theorem oc_max2 {X : Cx} (hc : X.calm = true) : OC X (.builtin "max") rMax2 := oc_of (call_max2 hc) fun M S H ds vs Q' Q r h1 hq oq => by
  obtain ⟨i, j, rfl, hq⟩ := hq
  obtain ⟨v, u, rfl, hv, hu⟩ := denL_two h1
  simp only [Den] at hv hu
  subst hv hu
  exact ⟨i, j, rfl, oq.now r _ _ (by simp only [Den]) hq⟩
/-- == of a dict that nobody writes and itself (none or one int key), or as ever -/
def dEqK2 : RD := fun x y S Q => (∃ kvs, x = .dct kvs ∧ y = .dct kvs ∧ (kvs = [] ∨ ∃ i j, kvs = [(.inl i, .int j)]) ∧ Q (.bl true) S) ∨ ((∀ kvs, x ≠ .dct kvs) ∧ dEq x y S Q)
theorem od_eqK2 {X : Cx} {k : Nat} (hr : Room k X.A) : OD X (compareOp .Eq) dEqK2 := od_or (a := fun x y S Q => ∃ kvs, x = .dct kvs ∧ y = .dct kvs ∧ (kvs = [] ∨ ∃ i j, kvs = [(.inl i, .int j)]) ∧ Q (.bl true) S)
    (od_of (op_eq_dict hr.units0) fun M S H d e x y Q' Q r h1 h2 hq oq => by
      obtain ⟨kvs, rfl, rfl, hk, hq⟩ := hq
      have fin : Q (.bl true) H := oq.now r (.bl true) _ (by simp only [Den]) hq
      rcases hk with rfl | ⟨i, j, rfl⟩
      · simp only [Den, DenK] at h1 h2
        obtain ⟨a, gs, rfl, e1, _, rfl⟩ := h1
        obtain ⟨b, gs, rfl, e2, _, rfl⟩ := h2
        exact ⟨a, b, [], rfl, rfl, e1, e2, by simp, (fun p hp => by cases hp), fin⟩
      · simp only [Den, DenK] at h1 h2
        obtain ⟨a, gs, rfl, e1, _, v, r1, rfl, rfl, rfl⟩ := h1
        obtain ⟨b, gs, rfl, e2, _, v, r2, rfl, rfl, rfl⟩ := h2
        refine ⟨a, b, [(.inl i, .int j)], rfl, rfl, e1, e2, by simp, fun p hp => ?_, fin⟩
        simp only [List.mem_cons, List.not_mem_nil, or_false] at hp
        subst hp
        rfl) (od_eq hr) fun x y S Q h => h.imp id fun z => z.2
/-- the class at C has an __eq__ that keeps sp -/
def EqFn (P : Program) (w : World) (K : PySem.W.Frag) (mg : Str → Option Value) (base : Heap) (k : Nat) (C : Addr) (sp : PSp) : Prop :=
  ∃ f fd, EqCl K C f ∧ Binds K fd ["self", "other"] [] ∧ ∃ j, j + 1 ≤ k ∧ FnOk P w K mg base (L2.CX P w) j f fd ["self", "other"] (liftSp K sp)
section
variable {X : Cx} {k : Nat} {C : Addr} {sp : PSp}
theorem od_eqF (h : EqFn X.prog X.w X.K X.mg X.base k C sp) (hr : Room k X.A) : OD X (compareOp .Eq) (dEqOwn C sp false) := by
  obtain ⟨f, fd, T, hb, j, hj, F⟩ := h
  exact od_eqOwn T F hb (hr.mono (by omega))
theorem od_neF (h : EqFn X.prog X.w X.K X.mg X.base k C sp) (hr : Room k X.A) : OD X (compareOp .NotEq) (dEqOwn C sp true) := by
  obtain ⟨f, fd, T, hb, j, hj, F⟩ := h
  exact od_neOwn T F hb (hr.mono (by omega))
end
end PL
namespace PL
open PySem PySem.Spec PyProof.Rows L2 LamX
/-- THE WALK'S END with tables of code objects -/
theorem walk_plT {l : PySem.W.OpenLaw} {n k : Nat} {q : Program} {loose : List Str} {XP : (Str → Option Value) → Heap → Prop} {YP : World → Heap → Prop} {d : DefRec} {x : Str}
    (hn : l.most = some n) (hn2 : n ≤ sizeLine) (hdf : d.params.defaults = []) (hr : Room k callerA)
    (F : ∀ (w : World) (mg : Str → Option Value) (fa : Addr) (h : Heap), YP w h → h.Ns mainGlobals mg → mg d.name = some (.ref fa) →
      ∃ (K : PySem.W.Frag) (fd : FuncData) (cs : List (Addr × Addr)) (sp : Sp), K.In h ∧ (∀ p ∈ cs, h.get? p.2 = some { cls := .none, data := .fields #[] }) ∧ (∀ p ∈ cs, K.lookup p.2 = none) ∧ (∀ p ∈ cs, PySem.W.CodeHd h p.1 p.2) ∧ (∀ (s : Shared) (u : Value), BindsTo s fd ⟨[u], []⟩ [(x, u)]) ∧
        (∀ (H : Hp) (a : Addr) (ns : List Int), ns.length ≤ n → (∀ z ∈ ns, Builtin.Int.intBits z ≤ 1048576) → (∀ p ∈ cs, H p.2 = some (.tbl #[])) → SqL K H a (ns.map V.int) → sp [.ref a] H (fun v _ => v = .bl true) fun _ _ _ => False) ∧
        ∀ base : Heap, K.In base → base.Ns mainGlobals mg → (∀ p ∈ cs, TabB base mg p.1 p.2) → FnOk l.prog w K mg base (L2.CX l.prog w) k fa fd [x] sp) :
    PySem.W.WalkO q loose XP YP l.row.toRowW d [] (fun f vs => PySem.call f vs) := by
  refine Att.attach_callB hn hdf fun w s₀ s₁ mg mb fa o pm cd doc a vs ns G Y ho hd hcd hmg hobj hints hlen hbits hg => ?_
  obtain ⟨K, fd, cs, sp, Kin, hT, nT, C, hb, hsp, hF⟩ := F w mg fa _ Y G.T.g hmg
  refine law_callTs Kin G.T.g G.T.b G.T.builtins G.T.nolimit hg hT nT C G.T.bmain hobj hints (Nat.le_trans hlen hn2) hr hF hb (fun H hH hS => hsp H a ns hlen hbits hH hS) fun H e s' h => ?_
  obtain ⟨_, _, _, _, _, _, _, _, _, _, _, _, z⟩ := h
  exact z.elim
end PL
end
/-! from K01a.lean -/
section
/-! printed by gen.py -/
namespace K01
open PySem L2 PL
variable [TabCtx]
def top (i : Nat) : Stmt := PySem.Challenge.pw_namedmoments_k01_whole_curves_judged.main.body.getD i (.Pass ⟨0, 0, 0, 0⟩)
def sub (i j : Nat) : Stmt := match top i with
  | .ClassDef _ _ _ b .. => b.getD j (.Pass ⟨0, 0, 0, 0⟩)
  | _ => .Pass ⟨0, 0, 0, 0⟩
abbrev c_MOST_BOTTOM : D := .int 4
abbrev c_MOST_POWER : D := .int 3
abbrev c_MOST_RATE : D := .int 4
abbrev c_MOST_TERMS : D := .int 8
abbrev c_ZERO : D := .tup [(.int 0), (.int 1)]
def subK (kl : Str → Addr) (a b : Addr) : Bool := decide (a = b)
def ecs (kl : Str → Addr) : List Addr := [kl "BadCurve"]
def mtE (kl : Str → Addr) (x : Str) : Value → Option Bool := fun cv => if cv = .ref (kl x) then some true else none
def ecl (kl : Str → Addr) : List V := .ref (kl "CurveError") :: .ty "ValueError" :: (ecs kl).map .ref
def subE (kl : Str → Addr) (C : Addr) : V → Bool | .ref D => decide (C = D) || decide (D = kl "CurveError") | .ty _ => true | _ => false
structure En (w : World) (kl : Str → Addr) (K : PySem.W.Frag) (mg : Str → Option Value) : Prop where
  k_Curve : GlD K mg "Curve" (.raw (.ref (kl "Curve")))
  isi : IsiOk K [kl "Curve"] (subK kl)
  exo : ExOk K (ecs kl) (ecl kl) (subE kl)
  nd : (kl "CurveError" :: ecs kl).Nodup
  k_CurveError : GlD K mg "CurveError" (.raw (.ref (kl "CurveError")))
  m_BadCurve : mg "BadCurve" = some (.ref (kl "BadCurve"))
  mt_BadCurve : ∀ cv b, mtE kl "BadCurve" cv = some b → PySem.W.exmOne K cv (.ref (kl "BadCurve")) = some b
  sx_BadCurve_index : XfC K (kl "BadCurve") ∧ PySem.W.findIn K (.ref (kl "BadCurve")) "index" = some none
  f_terms : FldOk K [kl "Curve"] "terms"
  b_ValueError : mg "ValueError" = none
  b_abs : mg "abs" = none
  b_all : mg "all" = none
  b_bool : mg "bool" = none
  b_enumerate : mg "enumerate" = none
  b_int : mg "int" = none
  b_isinstance : mg "isinstance" = none
  b_len : mg "len" = none
  b_list : mg "list" = none
  b_max : mg "max" = none
  b_range : mg "range" = none
  b_sorted : mg "sorted" = none
  b_sum : mg "sum" = none
  b_super : mg "super" = none
  b_tuple : mg "tuple" = none
  b_zip : mg "zip" = none
  c_MOST_BOTTOM : GlD K mg "MOST_BOTTOM" c_MOST_BOTTOM
  c_MOST_POWER : GlD K mg "MOST_POWER" c_MOST_POWER
  c_MOST_RATE : GlD K mg "MOST_RATE" c_MOST_RATE
  c_MOST_TERMS : GlD K mg "MOST_TERMS" c_MOST_TERMS
  c_ZERO : GlD K mg "ZERO" c_ZERO
variable {P : Program} {w : World} {kl : Str → Addr} {K : PySem.W.Frag} {mg : Str → Option Value} {base : Heap} {k : Nat}
/-! is_integer -/
abbrev st_is_integer : Stmt := (top 4)
theorem sc_is_integer : FnScope ["thing"] ["thing"] (defScope st_is_integer) := ⟨rfl, rfl, rfl, by decide +kernel, rfl, by decide +kernel, by decide +kernel⟩
def wb_is_integer (w : World) (kl : Str → Addr) : WS := (wRet (wAndV (wCB rIsiD (wCons (wVar 0) (wCons (wC (.raw (.ty "int"))) wNil))) (wNotV (wCB rIsiD (wCons (wVar 0) (wCons (wC (.raw (.ty "bool"))) wNil))))))
theorem dv_is_integer (e : En w kl K mg) : Dv P w K mg base ["thing"] "is_integer" st_is_integer k (wb_is_integer w kl) := by
  intro f cd A outer s H E b
  have sc := sc_is_integer
  exact (sss_one (ss_ret (se_and (se_callB oc_isi (by rfl) e.b_isinstance PyProof.Rows.boot_isinstance (sa_cons (xv 0 (Or.inl rfl)) (sa_cons (se_type (by rfl) e.b_int PyProof.Rows.boot_int) sa_nil))) (se_one (se_not (se_callB oc_isi (by rfl) e.b_isinstance PyProof.Rows.boot_isinstance (sa_cons (xv 0 (Or.inl rfl)) (sa_cons (se_type (by rfl) e.b_bool PyProof.Rows.boot_bool) sa_nil))))))))
theorem bd_is_integer (fd : FuncData) (f : Addr) (F : FunD K "is_integer" "is_integer" (defArgs st_is_integer) (defBody st_is_integer) (defScope st_is_integer) [] [] f fd) : Binds K fd ["thing"] [] := F.bindsN fun _ _ _ _ _ _ us hl => match us, hl with | [_], _ => rfl
theorem mk_is_integer {sp : PSp} (e : En w kl K mg) (t : Tx1 K mg "is_integer" st_is_integer) (len : ∀ ds S Q E, sp ds S Q E → ds.length = 1)
    (pure : ∀ ds S Q E, sp ds S Q E → (wb_is_integer w kl) { nx := fun _ S' => End Q .non S', rt := End Q } (fun c fs _ S' => E c fs S') (startG ["thing"] ds) S) : Fn1 P w K mg base (k + 1) "is_integer" ["thing"] sp :=
  fn1E t sc_is_integer (fun fd f F => F.bindsN fun _ _ _ _ _ _ us hl => match us, hl with | [_], _ => rfl) (dv_is_integer e) len pure

/-! is_within -/
abbrev st_is_within : Stmt := (top 5)
theorem sc_is_within : FnScope ["thing", "least", "most"] ["thing", "least", "most"] (defScope st_is_within) := ⟨rfl, rfl, rfl, by decide +kernel, rfl, by decide +kernel, by decide +kernel⟩
def wb_is_within (w : World) (kl : Str → Addr) (sp_is_integer : PSp) : WS := (wRet (wAndV (wCall sp_is_integer (wCons (wVar 0) wNil)) (wChain dLe dLe (wVar 1) (wVar 0) (wVar 2))))
theorem dv_is_within {sp_is_integer : PSp} (e : En w kl K mg) (F_is_integer : Fn1 P w K mg base k "is_integer" ["thing"] sp_is_integer) : Dv P w K mg base ["thing", "least", "most"] "is_within" st_is_within k (wb_is_within w kl sp_is_integer) := by
  intro f cd A outer s H E b
  have sc := sc_is_within
  exact (sss_one (ss_ret (se_and (xf F_is_integer b.hr b.tk (sa_cons (xv 0 (Or.inl rfl)) sa_nil)) (se_one (se_chain od_le od_le (xv 1 (Or.inl rfl)) (xv 0 (Or.inl rfl)) (xv 2 (Or.inl rfl)))))))
theorem bd_is_within (fd : FuncData) (f : Addr) (F : FunD K "is_within" "is_within" (defArgs st_is_within) (defBody st_is_within) (defScope st_is_within) [] [] f fd) : Binds K fd ["thing", "least", "most"] [] := F.bindsN fun _ _ _ _ _ _ us hl => match us, hl with | [_, _, _], _ => rfl
theorem mk_is_within {sp_is_integer : PSp} {sp : PSp} (e : En w kl K mg) (t : Tx1 K mg "is_within" st_is_within) (F_is_integer : Fn1 P w K mg base k "is_integer" ["thing"] sp_is_integer) (len : ∀ ds S Q E, sp ds S Q E → ds.length = 3)
    (pure : ∀ ds S Q E, sp ds S Q E → (wb_is_within w kl sp_is_integer) { nx := fun _ S' => End Q .non S', rt := End Q } (fun c fs _ S' => E c fs S') (startG ["thing", "least", "most"] ds) S) : Fn1 P w K mg base (k + 1) "is_within" ["thing", "least", "most"] sp :=
  fn1E t sc_is_within (fun fd f F => F.bindsN fun _ _ _ _ _ _ us hl => match us, hl with | [_, _, _], _ => rfl) (dv_is_within e F_is_integer) len pure

/-! divisor_of -/
abbrev st_divisor_of : Stmt := (top 8)
theorem sc_divisor_of : FnScope ["one", "other"] ["one", "other"] (defScope st_divisor_of) := ⟨rfl, rfl, rfl, by decide +kernel, rfl, by decide +kernel, by decide +kernel⟩
def wb_divisor_of (w : World) (kl : Str → Addr) : WS := (wSeq (wPar 0 1 (wCons (wCB rAbsD (wCons (wVar 0) wNil)) (wCons (wCB rAbsD (wCons (wVar 1) wNil)) wNil)))
  (wSeq (wWhile (wTest (wBin dGt (wVar 1) (wC (.int 0))))
  (wPar 0 1 (wCons (wVar 1) (wCons (wBin dMod (wVar 0) (wVar 1)) wNil))))
  (wRet (wVar 0))))
theorem dv_divisor_of (e : En w kl K mg) : Dv P w K mg base ["one", "other"] "divisor_of" st_divisor_of k (wb_divisor_of w kl) := by
  intro f cd A outer s H E b
  have sc := sc_divisor_of
  exact (sss_cons (ss_par (i := 0) (j := 1) rfl sc.nd rfl rfl (by decide) rfl rfl (sa_cons (se_callB oc_abs (by rfl) e.b_abs PyProof.Rows.boot_abs (sa_cons (xv 0 (Or.inl rfl)) sa_nil)) (sa_cons (se_callB oc_abs (by rfl) e.b_abs PyProof.Rows.boot_abs (sa_cons (xv 1 (Or.inl rfl)) sa_nil)) sa_nil)) rfl)
    (sss_cons (ss_while b.pa (st_cmp od_gt (xv 1 (Or.inl rfl)) se_int (nomark _)) (sss_one (ss_par (i := 0) (j := 1) rfl sc.nd rfl rfl (by decide) rfl rfl (sa_cons (xv 1 (Or.inl rfl)) (sa_cons (se_bin od_mod (xv 0 (Or.inl rfl)) (xv 1 (Or.inl rfl))) sa_nil)) rfl)))
    (sss_one (ss_ret (xv 0 (Or.inl rfl))))))
theorem bd_divisor_of (fd : FuncData) (f : Addr) (F : FunD K "divisor_of" "divisor_of" (defArgs st_divisor_of) (defBody st_divisor_of) (defScope st_divisor_of) [] [] f fd) : Binds K fd ["one", "other"] [] := F.bindsN fun _ _ _ _ _ _ us hl => match us, hl with | [_, _], _ => rfl
theorem mk_divisor_of {sp : PSp} (e : En w kl K mg) (t : Tx1 K mg "divisor_of" st_divisor_of) (len : ∀ ds S Q E, sp ds S Q E → ds.length = 2)
    (pure : ∀ ds S Q E, sp ds S Q E → (wb_divisor_of w kl) { nx := fun _ S' => End Q .non S', rt := End Q } (fun c fs _ S' => E c fs S') (startG ["one", "other"] ds) S) : Fn1 P w K mg base (k + 1) "divisor_of" ["one", "other"] sp :=
  fn1E t sc_divisor_of (fun fd f F => F.bindsN fun _ _ _ _ _ _ us hl => match us, hl with | [_, _], _ => rfl) (dv_divisor_of e) len pure

/-! is_fraction -/
abbrev st_is_fraction : Stmt := (top 9)
theorem sc_is_fraction : FnScope ["thing"] ["thing"] (defScope st_is_fraction) := ⟨rfl, rfl, rfl, by decide +kernel, rfl, by decide +kernel, by decide +kernel⟩
def wb_is_fraction_0 (w : World) (kl : Str → Addr) (sp_is_integer : PSp) (sp_divisor_of : PSp) : WS := (wRet (wAndV (wBin dGt (wBin (dIxA w) (wVar 0) (wC (.int 1))) (wC (.int 0))) (wBin dEq (wCall sp_divisor_of (wCons (wBin (dIxA w) (wVar 0) (wC (.int 0))) (wCons (wBin (dIxA w) (wVar 0) (wC (.int 1))) wNil))) (wC (.int 1)))))
def wb_is_fraction (w : World) (kl : Str → Addr) (sp_is_integer : PSp) (sp_divisor_of : PSp) : WS := (wSeq (wIfS (wOr (wNot (wTest (wCB rIsiD (wCons (wVar 0) (wCons (wC (.raw (.ty "tuple"))) wNil))))) (wOr (wTest (wBin dNe (wCB rLenD (wCons (wVar 0) wNil)) (wC (.int 2)))) (wOr (wNot (wTest (wCall sp_is_integer (wCons (wBin (dIxA w) (wVar 0) (wC (.int 0))) wNil)))) (wNot (wTest (wCall sp_is_integer (wCons (wBin (dIxA w) (wVar 0) (wC (.int 1))) wNil)))))))
  (wRet (wC (.bl false)))
  wNext)
  (wb_is_fraction_0 w kl sp_is_integer sp_divisor_of))
theorem dv_is_fraction {sp_is_integer : PSp} {sp_divisor_of : PSp} (e : En w kl K mg) (F_is_integer : Fn1 P w K mg base k "is_integer" ["thing"] sp_is_integer) (F_divisor_of : Fn1 P w K mg base k "divisor_of" ["one", "other"] sp_divisor_of) : Dv P w K mg base ["thing"] "is_fraction" st_is_fraction k (wb_is_fraction w kl sp_is_integer sp_divisor_of) := by
  intro f cd A outer s H E b
  have sc := sc_is_fraction
  exact (sss_cons (ss_if (SW.st (sw_or (st_not (st_val (se_callB oc_isi (by rfl) e.b_isinstance PyProof.Rows.boot_isinstance (sa_cons (xv 0 (Or.inl rfl)) (sa_cons (se_type (by rfl) e.b_tuple PyProof.Rows.boot_tuple) sa_nil))))) (sw_or (st_cmp (od_ne b.hr) (se_callB oc_len (by rfl) e.b_len PySem.boot_len (sa_cons (xv 0 (Or.inl rfl)) sa_nil)) se_int (nomark _)) (sw_or (st_not (st_val (xf F_is_integer b.hr b.tk (sa_cons (se_ix (oixA b.hr) (xv 0 (Or.inl rfl)) se_int) sa_nil)))) (sw_or1 (st_not (st_val (xf F_is_integer b.hr b.tk (sa_cons (se_ix (oixA b.hr) (xv 0 (Or.inl rfl)) se_int) sa_nil))))))))) (sss_one (ss_ret se_bl)) sss_nil)
    (sss_one (ss_ret (se_and (se_cmp od_gt (se_ix (oixA b.hr) (xv 0 (Or.inl rfl)) se_int) se_int (nomark _)) (se_one (se_cmp (od_eq b.hr) (xf F_divisor_of b.hr b.tk (sa_cons (se_ix (oixA b.hr) (xv 0 (Or.inl rfl)) se_int) (sa_cons (se_ix (oixA b.hr) (xv 0 (Or.inl rfl)) se_int) sa_nil))) se_int (nomark _)))))))
theorem bd_is_fraction (fd : FuncData) (f : Addr) (F : FunD K "is_fraction" "is_fraction" (defArgs st_is_fraction) (defBody st_is_fraction) (defScope st_is_fraction) [] [] f fd) : Binds K fd ["thing"] [] := F.bindsN fun _ _ _ _ _ _ us hl => match us, hl with | [_], _ => rfl
theorem mk_is_fraction {sp_is_integer : PSp} {sp_divisor_of : PSp} {sp : PSp} (e : En w kl K mg) (t : Tx1 K mg "is_fraction" st_is_fraction) (F_is_integer : Fn1 P w K mg base k "is_integer" ["thing"] sp_is_integer) (F_divisor_of : Fn1 P w K mg base k "divisor_of" ["one", "other"] sp_divisor_of) (len : ∀ ds S Q E, sp ds S Q E → ds.length = 1)
    (pure : ∀ ds S Q E, sp ds S Q E → (wb_is_fraction w kl sp_is_integer sp_divisor_of) { nx := fun _ S' => End Q .non S', rt := End Q } (fun c fs _ S' => E c fs S') (startG ["thing"] ds) S) : Fn1 P w K mg base (k + 1) "is_fraction" ["thing"] sp :=
  fn1E t sc_is_fraction (fun fd f F => F.bindsN fun _ _ _ _ _ _ us hl => match us, hl with | [_], _ => rfl) (dv_is_fraction e F_is_integer F_divisor_of) len pure

/-! is_less -/
abbrev st_is_less : Stmt := (top 10)
theorem sc_is_less : FnScope ["one", "other"] ["one", "other"] (defScope st_is_less) := ⟨rfl, rfl, rfl, by decide +kernel, rfl, by decide +kernel, by decide +kernel⟩
def wb_is_less (w : World) (kl : Str → Addr) : WS := (wRet (wBin dLt (wBin dMul (wBin (dIxA w) (wVar 0) (wC (.int 0))) (wBin (dIxA w) (wVar 1) (wC (.int 1)))) (wBin dMul (wBin (dIxA w) (wVar 1) (wC (.int 0))) (wBin (dIxA w) (wVar 0) (wC (.int 1))))))
theorem dv_is_less (e : En w kl K mg) : Dv P w K mg base ["one", "other"] "is_less" st_is_less k (wb_is_less w kl) := by
  intro f cd A outer s H E b
  have sc := sc_is_less
  exact (sss_one (ss_ret (se_cmp od_lt (se_bin od_mul (se_ix (oixA b.hr) (xv 0 (Or.inl rfl)) se_int) (se_ix (oixA b.hr) (xv 1 (Or.inl rfl)) se_int)) (se_bin od_mul (se_ix (oixA b.hr) (xv 1 (Or.inl rfl)) se_int) (se_ix (oixA b.hr) (xv 0 (Or.inl rfl)) se_int)) (nomark _))))
theorem bd_is_less (fd : FuncData) (f : Addr) (F : FunD K "is_less" "is_less" (defArgs st_is_less) (defBody st_is_less) (defScope st_is_less) [] [] f fd) : Binds K fd ["one", "other"] [] := F.bindsN fun _ _ _ _ _ _ us hl => match us, hl with | [_, _], _ => rfl
theorem mk_is_less {sp : PSp} (e : En w kl K mg) (t : Tx1 K mg "is_less" st_is_less) (len : ∀ ds S Q E, sp ds S Q E → ds.length = 2)
    (pure : ∀ ds S Q E, sp ds S Q E → (wb_is_less w kl) { nx := fun _ S' => End Q .non S', rt := End Q } (fun c fs _ S' => E c fs S') (startG ["one", "other"] ds) S) : Fn1 P w K mg base (k + 1) "is_less" ["one", "other"] sp :=
  fn1E t sc_is_less (fun fd f F => F.bindsN fun _ _ _ _ _ _ us hl => match us, hl with | [_, _], _ => rfl) (dv_is_less e) len pure

/-! is_from_to -/
abbrev st_is_from_to : Stmt := (top 11)
theorem sc_is_from_to : FnScope ["thing", "least", "most"] ["thing", "least", "most"] (defScope st_is_from_to) := ⟨rfl, rfl, rfl, by decide +kernel, rfl, by decide +kernel, by decide +kernel⟩
def wb_is_from_to (w : World) (kl : Str → Addr) (sp_is_fraction : PSp) : WS := (wRet (wAndV (wCall sp_is_fraction (wCons (wVar 0) wNil)) (wChain dLe dLe (wBin dMul (wVar 1) (wBin (dIxA w) (wVar 0) (wC (.int 1)))) (wBin (dIxA w) (wVar 0) (wC (.int 0))) (wBin dMul (wVar 2) (wBin (dIxA w) (wVar 0) (wC (.int 1)))))))
theorem dv_is_from_to {sp_is_fraction : PSp} (e : En w kl K mg) (F_is_fraction : Fn1 P w K mg base k "is_fraction" ["thing"] sp_is_fraction) : Dv P w K mg base ["thing", "least", "most"] "is_from_to" st_is_from_to k (wb_is_from_to w kl sp_is_fraction) := by
  intro f cd A outer s H E b
  have sc := sc_is_from_to
  exact (sss_one (ss_ret (se_and (xf F_is_fraction b.hr b.tk (sa_cons (xv 0 (Or.inl rfl)) sa_nil)) (se_one (se_chain od_le od_le (se_bin od_mul (xv 1 (Or.inl rfl)) (se_ix (oixA b.hr) (xv 0 (Or.inl rfl)) se_int)) (se_ix (oixA b.hr) (xv 0 (Or.inl rfl)) se_int) (se_bin od_mul (xv 2 (Or.inl rfl)) (se_ix (oixA b.hr) (xv 0 (Or.inl rfl)) se_int)))))))
theorem bd_is_from_to (fd : FuncData) (f : Addr) (F : FunD K "is_from_to" "is_from_to" (defArgs st_is_from_to) (defBody st_is_from_to) (defScope st_is_from_to) [] [] f fd) : Binds K fd ["thing", "least", "most"] [] := F.bindsN fun _ _ _ _ _ _ us hl => match us, hl with | [_, _, _], _ => rfl
theorem mk_is_from_to {sp_is_fraction : PSp} {sp : PSp} (e : En w kl K mg) (t : Tx1 K mg "is_from_to" st_is_from_to) (F_is_fraction : Fn1 P w K mg base k "is_fraction" ["thing"] sp_is_fraction) (len : ∀ ds S Q E, sp ds S Q E → ds.length = 3)
    (pure : ∀ ds S Q E, sp ds S Q E → (wb_is_from_to w kl sp_is_fraction) { nx := fun _ S' => End Q .non S', rt := End Q } (fun c fs _ S' => E c fs S') (startG ["thing", "least", "most"] ds) S) : Fn1 P w K mg base (k + 1) "is_from_to" ["thing", "least", "most"] sp :=
  fn1E t sc_is_from_to (fun fd f F => F.bindsN fun _ _ _ _ _ _ us hl => match us, hl with | [_, _, _], _ => rfl) (dv_is_from_to e F_is_fraction) len pure

/-! is_term -/
abbrev st_is_term : Stmt := (top 17)
theorem sc_is_term : FnScope ["thing"] ["thing"] (defScope st_is_term) := ⟨rfl, rfl, rfl, by decide +kernel, rfl, by decide +kernel, by decide +kernel⟩
def wb_is_term_0 (w : World) (kl : Str → Addr) (sp_is_fraction : PSp) (sp_is_within : PSp) (sp_is_from_to : PSp) : WS := (wRet (wAndV (wCall sp_is_from_to (wCons (wBin (dIxA w) (wVar 0) (wC (.int 2))) (wCons (wUn dNeg (wC c_MOST_RATE)) (wCons (wC c_MOST_RATE) wNil)))) (wBin dLe (wBin (dIxA w) (wBin (dIxA w) (wVar 0) (wC (.int 2))) (wC (.int 1))) (wC c_MOST_BOTTOM))))
def wb_is_term_1 (w : World) (kl : Str → Addr) (sp_is_fraction : PSp) (sp_is_within : PSp) (sp_is_from_to : PSp) : WS := (wSeq (wIfS (wNot (wTest (wCall sp_is_within (wCons (wBin (dIxA w) (wVar 0) (wC (.int 1))) (wCons (wC (.int 0)) (wCons (wC c_MOST_POWER) wNil))))))
  (wRet (wC (.bl false)))
  wNext)
  (wb_is_term_0 w kl sp_is_fraction sp_is_within sp_is_from_to))
def wb_is_term (w : World) (kl : Str → Addr) (sp_is_fraction : PSp) (sp_is_within : PSp) (sp_is_from_to : PSp) : WS := (wSeq (wIfS (wOr (wNot (wTest (wCB rIsiD (wCons (wVar 0) (wCons (wC (.raw (.ty "tuple"))) wNil))))) (wOr (wTest (wBin dNe (wCB rLenD (wCons (wVar 0) wNil)) (wC (.int 3)))) (wOr (wNot (wTest (wCall sp_is_fraction (wCons (wBin (dIxA w) (wVar 0) (wC (.int 0))) wNil)))) (wTest (wBin dEq (wBin (dIxA w) (wVar 0) (wC (.int 0))) (wC c_ZERO))))))
  (wRet (wC (.bl false)))
  wNext)
  (wb_is_term_1 w kl sp_is_fraction sp_is_within sp_is_from_to))
theorem dv_is_term {sp_is_fraction : PSp} {sp_is_within : PSp} {sp_is_from_to : PSp} (e : En w kl K mg) (F_is_fraction : Fn1 P w K mg base k "is_fraction" ["thing"] sp_is_fraction) (F_is_within : Fn1 P w K mg base k "is_within" ["thing", "least", "most"] sp_is_within) (F_is_from_to : Fn1 P w K mg base k "is_from_to" ["thing", "least", "most"] sp_is_from_to) : Dv P w K mg base ["thing"] "is_term" st_is_term k (wb_is_term w kl sp_is_fraction sp_is_within sp_is_from_to) := by
  intro f cd A outer s H E b
  have sc := sc_is_term
  exact (sss_cons (ss_if (SW.st (sw_or (st_not (st_val (se_callB oc_isi (by rfl) e.b_isinstance PyProof.Rows.boot_isinstance (sa_cons (xv 0 (Or.inl rfl)) (sa_cons (se_type (by rfl) e.b_tuple PyProof.Rows.boot_tuple) sa_nil))))) (sw_or (st_cmp (od_ne b.hr) (se_callB oc_len (by rfl) e.b_len PySem.boot_len (sa_cons (xv 0 (Or.inl rfl)) sa_nil)) se_int (nomark _)) (sw_or (st_not (st_val (xf F_is_fraction b.hr b.tk (sa_cons (se_ix (oixA b.hr) (xv 0 (Or.inl rfl)) se_int) sa_nil)))) (sw_or1 (st_cmp (od_eq b.hr) (se_ix (oixA b.hr) (xv 0 (Or.inl rfl)) se_int) (xg e.c_ZERO) (nomark _))))))) (sss_one (ss_ret se_bl)) sss_nil)
    (sss_cons (ss_if (st_not (st_val (xf F_is_within b.hr b.tk (sa_cons (se_ix (oixA b.hr) (xv 0 (Or.inl rfl)) se_int) (sa_cons se_int (sa_cons (xg e.c_MOST_POWER) sa_nil)))))) (sss_one (ss_ret se_bl)) sss_nil)
    (sss_one (ss_ret (se_and (xf F_is_from_to b.hr b.tk (sa_cons (se_ix (oixA b.hr) (xv 0 (Or.inl rfl)) se_int) (sa_cons (se_neg (xg e.c_MOST_RATE)) (sa_cons (xg e.c_MOST_RATE) sa_nil)))) (se_one (se_cmp od_le (se_ix (oixA b.hr) (se_ix (oixA b.hr) (xv 0 (Or.inl rfl)) se_int) se_int) (xg e.c_MOST_BOTTOM) (nomark _))))))))
theorem bd_is_term (fd : FuncData) (f : Addr) (F : FunD K "is_term" "is_term" (defArgs st_is_term) (defBody st_is_term) (defScope st_is_term) [] [] f fd) : Binds K fd ["thing"] [] := F.bindsN fun _ _ _ _ _ _ us hl => match us, hl with | [_], _ => rfl
theorem mk_is_term {sp_is_fraction : PSp} {sp_is_within : PSp} {sp_is_from_to : PSp} {sp : PSp} (e : En w kl K mg) (t : Tx1 K mg "is_term" st_is_term) (F_is_fraction : Fn1 P w K mg base k "is_fraction" ["thing"] sp_is_fraction) (F_is_within : Fn1 P w K mg base k "is_within" ["thing", "least", "most"] sp_is_within) (F_is_from_to : Fn1 P w K mg base k "is_from_to" ["thing", "least", "most"] sp_is_from_to) (len : ∀ ds S Q E, sp ds S Q E → ds.length = 1)
    (pure : ∀ ds S Q E, sp ds S Q E → (wb_is_term w kl sp_is_fraction sp_is_within sp_is_from_to) { nx := fun _ S' => End Q .non S', rt := End Q } (fun c fs _ S' => E c fs S') (startG ["thing"] ds) S) : Fn1 P w K mg base (k + 1) "is_term" ["thing"] sp :=
  fn1E t sc_is_term (fun fd f F => F.bindsN fun _ _ _ _ _ _ us hl => match us, hl with | [_], _ => rfl) (dv_is_term e F_is_fraction F_is_within F_is_from_to) len pure

/-! is_ahead -/
abbrev st_is_ahead : Stmt := (top 18)
theorem sc_is_ahead : FnScope ["one", "other"] ["one", "other"] (defScope st_is_ahead) := ⟨rfl, rfl, rfl, by decide +kernel, rfl, by decide +kernel, by decide +kernel⟩
def wb_is_ahead (w : World) (kl : Str → Addr) (sp_is_less : PSp) : WS := (wSeq (wIfS (wTest (wBin dEq (wBin (dIxA w) (wVar 0) (wC (.int 2))) (wBin (dIxA w) (wVar 1) (wC (.int 2)))))
  (wRet (wBin dLt (wBin (dIxA w) (wVar 0) (wC (.int 1))) (wBin (dIxA w) (wVar 1) (wC (.int 1)))))
  wNext)
  (wRet (wCall sp_is_less (wCons (wBin (dIxA w) (wVar 0) (wC (.int 2))) (wCons (wBin (dIxA w) (wVar 1) (wC (.int 2))) wNil)))))
theorem dv_is_ahead {sp_is_less : PSp} (e : En w kl K mg) (F_is_less : Fn1 P w K mg base k "is_less" ["one", "other"] sp_is_less) : Dv P w K mg base ["one", "other"] "is_ahead" st_is_ahead k (wb_is_ahead w kl sp_is_less) := by
  intro f cd A outer s H E b
  have sc := sc_is_ahead
  exact (sss_cons (ss_if (st_cmp (od_eq b.hr) (se_ix (oixA b.hr) (xv 0 (Or.inl rfl)) se_int) (se_ix (oixA b.hr) (xv 1 (Or.inl rfl)) se_int) (nomark _)) (sss_one (ss_ret (se_cmp od_lt (se_ix (oixA b.hr) (xv 0 (Or.inl rfl)) se_int) (se_ix (oixA b.hr) (xv 1 (Or.inl rfl)) se_int) (nomark _)))) sss_nil)
    (sss_one (ss_ret (xf F_is_less b.hr b.tk (sa_cons (se_ix (oixA b.hr) (xv 0 (Or.inl rfl)) se_int) (sa_cons (se_ix (oixA b.hr) (xv 1 (Or.inl rfl)) se_int) sa_nil))))))
theorem bd_is_ahead (fd : FuncData) (f : Addr) (F : FunD K "is_ahead" "is_ahead" (defArgs st_is_ahead) (defBody st_is_ahead) (defScope st_is_ahead) [] [] f fd) : Binds K fd ["one", "other"] [] := F.bindsN fun _ _ _ _ _ _ us hl => match us, hl with | [_, _], _ => rfl
theorem mk_is_ahead {sp_is_less : PSp} {sp : PSp} (e : En w kl K mg) (t : Tx1 K mg "is_ahead" st_is_ahead) (F_is_less : Fn1 P w K mg base k "is_less" ["one", "other"] sp_is_less) (len : ∀ ds S Q E, sp ds S Q E → ds.length = 2)
    (pure : ∀ ds S Q E, sp ds S Q E → (wb_is_ahead w kl sp_is_less) { nx := fun _ S' => End Q .non S', rt := End Q } (fun c fs _ S' => E c fs S') (startG ["one", "other"] ds) S) : Fn1 P w K mg base (k + 1) "is_ahead" ["one", "other"] sp :=
  fn1E t sc_is_ahead (fun fd f F => F.bindsN fun _ _ _ _ _ _ us hl => match us, hl with | [_, _], _ => rfl) (dv_is_ahead e F_is_less) len pure

/-! Curve.__init__ -/
abbrev st_Curve_init : Stmt := (sub 19 0)
theorem sc_Curve_init : FnScope ["self", "terms", "index", "term"] ["self", "terms"] (defScope st_Curve_init) := ⟨rfl, rfl, rfl, by decide +kernel, rfl, by decide +kernel, by decide +kernel⟩
def wb_Curve_init_0 (w : World) (kl : Str → Addr) (sp_is_ahead : PSp) (sp_is_term : PSp) : WS := (wSetFld [kl "Curve"] "terms" (wVar 1) (wVar 0))
def wb_Curve_init_1 (w : World) (kl : Str → Addr) (sp_is_ahead : PSp) (sp_is_term : PSp) : WS := (wSeq (wFor (wiE (wVar 1)) (wgTup 2 (wgCons (wName 2) (wgCons (wName 3) wgNil)))
  (wIfS (wOr (wNot (wTest (wCall sp_is_term (wCons (wVar 3) wNil)))) (wAnd (wTest (wBin dGt (wVar 2) (wC (.int 0)))) (wNot (wTest (wCall sp_is_ahead (wCons (wBin (dIxA w) (wVar 1) (wBin dSub (wVar 2) (wC (.int 1)))) (wCons (wVar 3) wNil)))))))
  (wRaiseI (kl "BadCurve") "index" (wVar 2))
  wNext))
  (wb_Curve_init_0 w kl sp_is_ahead sp_is_term))
def wb_Curve_init (w : World) (kl : Str → Addr) (sp_is_ahead : PSp) (sp_is_term : PSp) : WS := (wSeq (wIfS (wOr (wNot (wTest (wCB rIsiD (wCons (wVar 1) (wCons (wC (.raw (.ty "tuple"))) wNil))))) (wTest (wBin dGt (wCB rLenD (wCons (wVar 1) wNil)) (wC c_MOST_TERMS))))
  (wRaiseI (kl "BadCurve") "index" (wUn dNeg (wC (.int 1))))
  wNext)
  (wb_Curve_init_1 w kl sp_is_ahead sp_is_term))
theorem dv_Curve_init {sp_is_ahead : PSp} {sp_is_term : PSp} (e : En w kl K mg) (F_BadCurve : ∃ f, ExKl P K (kl "BadCurve") f "index") (F_is_ahead : Fn1 P w K mg base k "is_ahead" ["one", "other"] sp_is_ahead) (F_is_term : Fn1 P w K mg base k "is_term" ["thing"] sp_is_term) : Dv P w K mg base ["self", "terms", "index", "term"] "Curve.__init__" st_Curve_init k (wb_Curve_init w kl sp_is_ahead sp_is_term) := by
  intro f cd A outer s H E b
  have sc := sc_Curve_init
  exact (sss_cons (ss_if (SW.st (sw_or (st_not (st_val (se_callB oc_isi (by rfl) e.b_isinstance PyProof.Rows.boot_isinstance (sa_cons (xv 1 (Or.inl rfl)) (sa_cons (se_type (by rfl) e.b_tuple PyProof.Rows.boot_tuple) sa_nil))))) (sw_or1 (st_cmp od_gt (se_callB oc_len (by rfl) e.b_len PySem.boot_len (sa_cons (xv 1 (Or.inl rfl)) sa_nil)) (xg e.c_MOST_TERMS) (nomark _))))) (sss_one (ss_raiseI F_BadCurve.choose_spec iniN_index e.b_super b.hr e.m_BadCurve rfl b.tk (se_neg se_int))) sss_nil)
    (sss_cons (ss_for b.pa rfl (si_enum (by rfl) e.b_enumerate (xv 1 (Or.inl rfl))) (sg_tup rfl (sgs_cons (sg_name (i := 2) sc.nd rfl (Or.inl rfl)) (sgs_cons (sg_name (i := 3) sc.nd rfl (Or.inl rfl)) sgs_nil))) (sss_one (ss_if (SW.st (sw_or (st_not (st_val (xf F_is_term b.hr b.tk (sa_cons (xv 3 (Or.inl rfl)) sa_nil)))) (sw_or1 (SW.st (sw_and (st_cmp od_gt (xv 2 (Or.inl rfl)) se_int (nomark _)) (sw_and1 (st_not (st_val (xf F_is_ahead b.hr b.tk (sa_cons (se_ix (oixA b.hr) (xv 1 (Or.inl rfl)) (se_bin od_sub (xv 2 (Or.inl rfl)) se_int)) (sa_cons (xv 3 (Or.inl rfl)) sa_nil))))))))))) (sss_one (ss_raiseI F_BadCurve.choose_spec iniN_index e.b_super b.hr e.m_BadCurve rfl b.tk (xv 2 (Or.inl rfl)))) sss_nil)) (fun _ _ _ hi hg hb => ps_for b.pa rfl hi hg hb))
    (sss_one (ss_fld e.f_terms (xv 1 (Or.inl rfl)) (xv 0 (Or.inl rfl))))))
theorem bd_Curve_init (fd : FuncData) (f : Addr) (F : FunD K "__init__" "Curve.__init__" (defArgs st_Curve_init) (defBody st_Curve_init) (defScope st_Curve_init) [] [] f fd) : Binds K fd ["self", "terms"] [] := F.bindsN fun _ _ _ _ _ _ us hl => match us, hl with | [_, _], _ => rfl
theorem mk_Curve_init {sp_is_ahead : PSp} {sp_is_term : PSp} {cs : CSp} {f : Addr} {fd : FuncData} (e : En w kl K mg) (hm : mg "Curve" = some (.ref (kl "Curve"))) (m : Mk K (kl "Curve") f) (F : FunD K "__init__" "Curve.__init__" (defArgs st_Curve_init) (defBody st_Curve_init) (defScope st_Curve_init) [] [] f fd) (F_BadCurve : ∃ f, ExKl P K (kl "BadCurve") f "index") (F_is_ahead : Fn1 P w K mg base k "is_ahead" ["one", "other"] sp_is_ahead) (F_is_term : Fn1 P w K mg base k "is_term" ["thing"] sp_is_term) (len : ∀ ds S Q E, initSp (kl "Curve") cs ds S Q E → ds.length = 2)
    (pure : ∀ ds S Q E, initSp (kl "Curve") cs ds S Q E → (wb_Curve_init w kl sp_is_ahead sp_is_term) { nx := fun _ S' => Q .non S', rt := Q } (fun c fs _ S' => E c fs S') (startG ["self", "terms", "index", "term"] ds) S) : Kl1 P w K mg base (k + 1) "Curve" (kl "Curve") ["terms"] cs :=
  ⟨f, fd, hm, m, bd_Curve_init fd f F, fn_pl F sc_Curve_init len (fun cd A outer s H E b => dv_Curve_init e F_BadCurve F_is_ahead F_is_term f cd A outer s H E b) pure⟩

/-! Curve.__eq__ -/
abbrev st_Curve_eq : Stmt := (sub 19 1)
theorem sc_Curve_eq : FnScope ["self", "other"] ["self", "other"] (defScope st_Curve_eq) := ⟨rfl, rfl, rfl, by decide +kernel, rfl, by decide +kernel, by decide +kernel⟩
def wb_Curve_eq (w : World) (kl : Str → Addr) : WS := (wRet (wAndV (wCB (rIsiC [kl "Curve"] (subK kl)) (wCons (wVar 1) (wCons (wC (.raw (.ref (kl "Curve")))) wNil))) (wBin dEq (wUn (dFld [kl "Curve"] "terms") (wVar 0)) (wUn (dFld [kl "Curve"] "terms") (wVar 1)))))
theorem dv_Curve_eq (e : En w kl K mg) : Dv P w K mg base ["self", "other"] "Curve.__eq__" st_Curve_eq k (wb_Curve_eq w kl) := by
  intro f cd A outer s H E b
  have sc := sc_Curve_eq
  exact (sss_one (ss_ret (se_and (se_callB (oc_isiC e.isi) (by rfl) e.b_isinstance PyProof.Rows.boot_isinstance (sa_cons (xv 1 (Or.inl rfl)) (sa_cons (xg e.k_Curve) sa_nil))) (se_one (se_cmp (od_eq b.hr) (xa e.f_terms (xv 0 (Or.inl rfl))) (xa e.f_terms (xv 1 (Or.inl rfl))) (nomark _))))))
theorem bd_Curve_eq (fd : FuncData) (f : Addr) (F : FunD K "__eq__" "Curve.__eq__" (defArgs st_Curve_eq) (defBody st_Curve_eq) (defScope st_Curve_eq) [] [] f fd) : Binds K fd ["self", "other"] [] := F.bindsN fun _ _ _ _ _ _ us hl => match us, hl with | [_, _], _ => rfl
theorem mk_Curve_eq {sp : PSp} {f : Addr} {fd : FuncData} (e : En w kl K mg) (F : FunD K "__eq__" "Curve.__eq__" (defArgs st_Curve_eq) (defBody st_Curve_eq) (defScope st_Curve_eq) [] [] f fd) (len : ∀ ds S Q E, sp ds S Q E → ds.length = 2)
    (pure : ∀ ds S Q E, sp ds S Q E → (wb_Curve_eq w kl) { nx := fun _ S' => Q .non S', rt := Q } (fun c fs _ S' => E c fs S') (startG ["self", "other"] ds) S) : FnOk P w K mg base (L2.CX P w) (k + 1) f fd ["self", "other"] (liftSp K sp) :=
  fn_pl F sc_Curve_eq len (fun cd A outer s H E b => dv_Curve_eq e f cd A outer s H E b) pure

/-! _law_bag -/
abbrev st_law_bag : Stmt := (top 21)
theorem sc_law_bag : FnScope ["_law_script", "_law_seed", "_law_cell", "_law_great", "_law_always"] ["_law_script"] (defScope st_law_bag) := ⟨rfl, rfl, rfl, by decide +kernel, rfl, by decide +kernel, by decide +kernel⟩
def wb_law_bag_0 (w : World) (kl : Str → Addr) : WS := (wRet (wLstM (wCons (wVar 1) (wCons (wC (.int 1)) (wCons (wVar 3) (wCons (wVar 4) wNil))))))
def wb_law_bag_1 (w : World) (kl : Str → Addr) : WS := (wSeq (wSet 3 (wLcM (wiL (wSl dSl (wVar 0) wNo (wPart (wC (.int 63))))) (wName 2) (wTest (wBin dGe (wCB rAbsD (wCons (wCB rIntD (wCons (wVar 2) wNil)) wNil)) (wBin dPow (wC (.int 10)) (wC (.int 18))))) (wCB rAbsD (wCons (wCB rIntD (wCons (wVar 2) wNil)) wNil)) [2]))
  (wSeq (wSet 4 (wC .non))
  (wSeq (wIfS (wAnd (wTest (wBin dLt (wCB rLenD (wCons (wVar 0) wNil)) (wC (.int 2)))) (wTest (wBin dEq (wCB rLenD (wCons (wVar 3) wNil)) (wC (.int 0)))))
  (wSet 4 (wCB rAbsD (wCons (wCB rSumD (wCons (wLc (wiL (wVar 0)) (wName 2) wYes (wCB rIntD (wCons (wVar 2) wNil)) [2]) wNil)) wNil)))
  wNext)
  (wb_law_bag_0 w kl))))
def wb_law_bag (w : World) (kl : Str → Addr) : WS := (wSeq (wSet 1 (wBin dAdd (wC (.int 71)) (wCB rLenD (wCons (wVar 0) wNil))))
  (wSeq (wFor (wiL (wSl dSl (wVar 0) wNo (wPart (wC (.int 63))))) (wName 2)
  (wSet 1 (wBin dMod (wCB rIntD (wCons (wBin dAdd (wBin dAdd (wBin dMul (wVar 1) (wC (.int 69621))) (wBin dMod (wCB rIntD (wCons (wVar 2) wNil)) (wC (.int 1000003)))) (wC (.int 7))) wNil)) (wC (.int 2147483647)))))
  (wb_law_bag_1 w kl)))
theorem dv_law_bag (e : En w kl K mg) : Dv P w K mg base ["_law_script", "_law_seed", "_law_cell", "_law_great", "_law_always"] "_law_bag" st_law_bag k (wb_law_bag w kl) := by
  intro f cd A outer s H E b
  have sc := sc_law_bag
  exact (sss_cons (ss_set (i := 1) sc.nd rfl (Or.inl rfl) (se_bin od_add se_int (se_callB oc_len (by rfl) e.b_len PySem.boot_len (sa_cons (xv 0 (Or.inl rfl)) sa_nil))))
    (sss_cons (ss_for b.pa rfl (si_lst (se_slice osl (xv 0 (Or.inl rfl)) so_none (so_some se_int))) (sg_name (i := 2) sc.nd rfl (Or.inl rfl)) (sss_one (ss_set (i := 1) sc.nd rfl (Or.inl rfl) (se_bin od_mod (se_callTy oc_int (by rfl) e.b_int PyProof.Rows.boot_int (sa_cons (se_bin od_add (se_bin od_add (se_bin od_mul (xv 1 (Or.inl rfl)) se_int) (se_bin od_mod (se_callTy oc_int (by rfl) e.b_int PyProof.Rows.boot_int (sa_cons (xv 2 (Or.inl rfl)) sa_nil)) se_int)) se_int) sa_nil)) se_int))) (fun _ _ _ hi hg hb => ps_for b.pa rfl hi hg hb))
    (sss_cons (ss_setLcM (i := 3) (own := [("_law_cell", 2)]) rfl sc.nd rfl rfl (sw_true rfl rfl rfl (by decide +kernel)) (si_lst (se_slice osl (xv 0 (Or.inl rfl)) so_none (so_some se_int))) (blkOk_by (by kernel_rfl)) (by decide) (fun _ _ _ _ _ => (sg_name (i := 2) sc.nd rfl (Or.inl rfl))) (fun _ _ _ _ _ => (sts_one (st_cmp od_ge (se_callB oc_abs (by rfl) e.b_abs PyProof.Rows.boot_abs (sa_cons (se_callTy oc_int (by rfl) e.b_int PyProof.Rows.boot_int (sa_cons (xv 2 (Or.inl rfl)) sa_nil)) sa_nil)) (se_bin od_pow se_int se_int) (nomark _)))) (fun _ _ _ _ _ => (se_callB oc_abs (by rfl) e.b_abs PyProof.Rows.boot_abs (sa_cons (se_callTy oc_int (by rfl) e.b_int PyProof.Rows.boot_int (sa_cons (xv 2 (Or.inl rfl)) sa_nil)) sa_nil))))
    (sss_cons (ss_set (i := 4) sc.nd rfl (Or.inl rfl) se_non)
    (sss_cons (ss_if (SW.st (sw_and (st_cmp od_lt (se_callB oc_len (by rfl) e.b_len PySem.boot_len (sa_cons (xv 0 (Or.inl rfl)) sa_nil)) se_int (nomark _)) (sw_and1 (st_cmp (od_eq b.hr) (se_callB oc_len (by rfl) e.b_len PySem.boot_len (sa_cons (xv 3 (Or.inl rfl)) sa_nil)) se_int (nomark _))))) (sss_one (ss_set (i := 4) sc.nd rfl (Or.inl rfl) (se_callB oc_abs (by rfl) e.b_abs PyProof.Rows.boot_abs (sa_cons (se_callB (oc_sum rfl) (by rfl) e.b_sum PyProof.Rows.boot_sum (sa_cons (se_lc (own := [("_law_cell", 2)]) rfl sc.nd (si_lst (xv 0 (Or.inl rfl))) (blkOk_by (by kernel_rfl)) (by decide) (fun _ _ _ _ _ => (sg_name (i := 2) sc.nd rfl (Or.inl rfl))) (fun _ _ _ _ _ => sts_nil) (fun _ _ _ _ _ => (se_callTy oc_int (by rfl) e.b_int PyProof.Rows.boot_int (sa_cons (xv 2 (Or.inl rfl)) sa_nil)))) sa_nil)) sa_nil)))) sss_nil)
    (sss_one (ss_ret (se_lstM (sa_cons (xv 1 (Or.inl rfl)) (sa_cons se_int (sa_cons (xv 3 (Or.inl rfl)) (sa_cons (xv 4 (Or.inl rfl)) sa_nil))))))))))))
theorem bd_law_bag (fd : FuncData) (f : Addr) (F : FunD K "_law_bag" "_law_bag" (defArgs st_law_bag) (defBody st_law_bag) (defScope st_law_bag) [] [] f fd) : Binds K fd ["_law_script"] [] := F.bindsN fun _ _ _ _ _ _ us hl => match us, hl with | [_], _ => rfl
theorem mk_law_bag {sp : PSp} (e : En w kl K mg) (t : Tx1 K mg "_law_bag" st_law_bag) (len : ∀ ds S Q E, sp ds S Q E → ds.length = 1)
    (pure : ∀ ds S Q E, sp ds S Q E → (wb_law_bag w kl) { nx := fun _ S' => End Q .non S', rt := End Q } (fun c fs _ S' => E c fs S') (startG ["_law_script", "_law_seed", "_law_cell", "_law_great", "_law_always"] ds) S) : Fn1 P w K mg base (k + 1) "_law_bag" ["_law_script"] sp :=
  fn1E t sc_law_bag (fun fd f F => F.bindsN fun _ _ _ _ _ _ us hl => match us, hl with | [_], _ => rfl) (dv_law_bag e) len pure

/-! _law_pick -/
abbrev st_law_pick : Stmt := (top 22)
theorem sc_law_pick : FnScope ["_law_bag_here", "_law_many", "_law_great", "_law_number", "_law_digit"] ["_law_bag_here", "_law_many"] (defScope st_law_pick) := ⟨rfl, rfl, rfl, by decide +kernel, rfl, by decide +kernel, by decide +kernel⟩
def wb_law_pick_0 (w : World) (kl : Str → Addr) : WS := (wRet (wVar 4))
def wb_law_pick_1 (w : World) (kl : Str → Addr) : WS := (wSeq (wSet 3 (wBin dMod (wCB rIntD (wCons (wBin dMul (wBin dAdd (wBin (dIxA w) (wVar 0) (wC (.int 0))) (wBin dMul (wC (.int 7919)) (wBin (dIxA w) (wVar 0) (wC (.int 1))))) (wC (.int 48271))) wNil)) (wC (.int 2147483647))))
  (wSeq (wSet 3 (wBin dMod (wCB rIntD (wCons (wBin dMul (wVar 3) (wBin dAdd (wBin dDiv (wVar 3) (wC (.int 1009))) (wC (.int 69621)))) wNil)) (wC (.int 2147483647))))
  (wSeq (wSet 3 (wBin dMod (wCB rIntD (wCons (wBin dMul (wVar 3) (wBin dAdd (wBin dDiv (wVar 3) (wC (.int 2003))) (wC (.int 40692)))) wNil)) (wC (.int 2147483399))))
  (wRet (wBin dMod (wCB rIntD (wCons (wBin dDiv (wVar 3) (wC (.int 16))) wNil)) (wVar 1))))))
def wb_law_pick_2 (w : World) (kl : Str → Addr) : WS := (wSeq (wSetIx (rSetA w) (wBin dAdd (wBin (dIxA w) (wVar 0) (wC (.int 1))) (wC (.int 1))) (wVar 0) (wC (.int 1)))
  (wSeq (wSet 2 (wBin (dIxA w) (wVar 0) (wC (.int 2))))
  (wSeq (wIfS (wTest (wBin dGt (wCB rLenD (wCons (wVar 2) wNil)) (wC (.int 0))))
  (wSeq (wSet 4 (wBin dMod (wCB rIntD (wCons (wBin (dIxA w) (wVar 2) (wC (.int 0))) wNil)) (wVar 1)))
  (wSeq (wSetIx (rSetA w) (wBin dDiv (wCB rIntD (wCons (wBin (dIxA w) (wVar 2) (wC (.int 0))) wNil)) (wVar 1)) (wVar 2) (wC (.int 0)))
  (wSeq (wIfS (wTest (wBin dEq (wBin (dIxA w) (wVar 2) (wC (.int 0))) (wC (.int 0))))
  (wDrop (wBM "list" rPopAtD (wVar 2) (wCons (wC (.int 0)) wNil)))
  wNext)
  (wb_law_pick_0 w kl))))
  wNext)
  (wb_law_pick_1 w kl))))
def wb_law_pick (w : World) (kl : Str → Addr) : WS := (wSeq (wIfS (wTest (wBin dNotN (wBin (dIxA w) (wVar 0) (wC (.int 3))) (wC .non)))
  (wRet (wBin dMod (wCB rIntD (wCons (wBin (dIxA w) (wVar 0) (wC (.int 3))) wNil)) (wVar 1)))
  wNext)
  (wb_law_pick_2 w kl))
theorem dv_law_pick (e : En w kl K mg) : Dv P w K mg base ["_law_bag_here", "_law_many", "_law_great", "_law_number", "_law_digit"] "_law_pick" st_law_pick k (wb_law_pick w kl) := by
  intro f cd A outer s H E b
  have sc := sc_law_pick
  exact (sss_cons (ss_if (st_cmp od_notN (se_ix (oixA b.hr) (xv 0 (Or.inl rfl)) se_int) se_non (nomark _)) (sss_one (ss_ret (se_bin od_mod (se_callTy oc_int (by rfl) e.b_int PyProof.Rows.boot_int (sa_cons (se_ix (oixA b.hr) (xv 0 (Or.inl rfl)) se_int) sa_nil)) (xv 1 (Or.inl rfl))))) sss_nil)
    (sss_cons (ss_setix (se_bin od_add (se_ix (oixA b.hr) (xv 0 (Or.inl rfl)) se_int) se_int) (xv 0 (Or.inl rfl)) se_int (osetA b.hr))
    (sss_cons (ss_set (i := 2) sc.nd rfl (Or.inl rfl) (se_ix (oixA b.hr) (xv 0 (Or.inl rfl)) se_int))
    (sss_cons (ss_if (st_cmp od_gt (se_callB oc_len (by rfl) e.b_len PySem.boot_len (sa_cons (xv 2 (Or.inl rfl)) sa_nil)) se_int (nomark _)) (sss_cons (ss_set (i := 4) sc.nd rfl (Or.inl rfl) (se_bin od_mod (se_callTy oc_int (by rfl) e.b_int PyProof.Rows.boot_int (sa_cons (se_ix (oixA b.hr) (xv 2 (Or.inl rfl)) se_int) sa_nil)) (xv 1 (Or.inl rfl))))
    (sss_cons (ss_setix (se_bin od_div (se_callTy oc_int (by rfl) e.b_int PyProof.Rows.boot_int (sa_cons (se_ix (oixA b.hr) (xv 2 (Or.inl rfl)) se_int) sa_nil)) (xv 1 (Or.inl rfl))) (xv 2 (Or.inl rfl)) se_int (osetA b.hr))
    (sss_cons (ss_if (st_cmp (od_eq b.hr) (se_ix (oixA b.hr) (xv 2 (Or.inl rfl)) se_int) se_int (nomark _)) (sss_one (ss_expr (se_bm PySem.F.plainAttrs_list PySem.F.slot_list_pop PySem.F.type_list_pop om_popAt (xv 2 (Or.inl rfl)) (sa_cons se_int sa_nil)))) sss_nil)
    (sss_one (ss_ret (xv 4 (Or.inl rfl))))))) sss_nil)
    (sss_cons (ss_set (i := 3) sc.nd rfl (Or.inl rfl) (se_bin od_mod (se_callTy oc_int (by rfl) e.b_int PyProof.Rows.boot_int (sa_cons (se_bin od_mul (se_bin od_add (se_ix (oixA b.hr) (xv 0 (Or.inl rfl)) se_int) (se_bin od_mul se_int (se_ix (oixA b.hr) (xv 0 (Or.inl rfl)) se_int))) se_int) sa_nil)) se_int))
    (sss_cons (ss_set (i := 3) sc.nd rfl (Or.inl rfl) (se_bin od_mod (se_callTy oc_int (by rfl) e.b_int PyProof.Rows.boot_int (sa_cons (se_bin od_mul (xv 3 (Or.inl rfl)) (se_bin od_add (se_bin od_div (xv 3 (Or.inl rfl)) se_int) se_int)) sa_nil)) se_int))
    (sss_cons (ss_set (i := 3) sc.nd rfl (Or.inl rfl) (se_bin od_mod (se_callTy oc_int (by rfl) e.b_int PyProof.Rows.boot_int (sa_cons (se_bin od_mul (xv 3 (Or.inl rfl)) (se_bin od_add (se_bin od_div (xv 3 (Or.inl rfl)) se_int) se_int)) sa_nil)) se_int))
    (sss_one (ss_ret (se_bin od_mod (se_callTy oc_int (by rfl) e.b_int PyProof.Rows.boot_int (sa_cons (se_bin od_div (xv 3 (Or.inl rfl)) se_int) sa_nil)) (xv 1 (Or.inl rfl))))))))))))
theorem bd_law_pick (fd : FuncData) (f : Addr) (F : FunD K "_law_pick" "_law_pick" (defArgs st_law_pick) (defBody st_law_pick) (defScope st_law_pick) [] [] f fd) : Binds K fd ["_law_bag_here", "_law_many"] [] := F.bindsN fun _ _ _ _ _ _ us hl => match us, hl with | [_, _], _ => rfl
theorem mk_law_pick {sp : PSp} (e : En w kl K mg) (t : Tx1 K mg "_law_pick" st_law_pick) (len : ∀ ds S Q E, sp ds S Q E → ds.length = 2)
    (pure : ∀ ds S Q E, sp ds S Q E → (wb_law_pick w kl) { nx := fun _ S' => End Q .non S', rt := End Q } (fun c fs _ S' => E c fs S') (startG ["_law_bag_here", "_law_many", "_law_great", "_law_number", "_law_digit"] ds) S) : Fn1 P w K mg base (k + 1) "_law_pick" ["_law_bag_here", "_law_many"] sp :=
  fn1E t sc_law_pick (fun fd f F => F.bindsN fun _ _ _ _ _ _ us hl => match us, hl with | [_, _], _ => rfl) (dv_law_pick e) len pure

/-! _law_some -/
abbrev st_law_some : Stmt := (top 23)
theorem sc_law_some : FnScope ["_law_bag_here", "_law_things"] ["_law_bag_here", "_law_things"] (defScope st_law_some) := ⟨rfl, rfl, rfl, by decide +kernel, rfl, by decide +kernel, by decide +kernel⟩
def wb_law_some (w : World) (kl : Str → Addr) (sp_law_pick : PSp) : WS := (wRet (wBin (dIxA w) (wVar 1) (wCall sp_law_pick (wCons (wVar 0) (wCons (wCB rLenD (wCons (wVar 1) wNil)) wNil)))))
theorem dv_law_some {sp_law_pick : PSp} (e : En w kl K mg) (F_law_pick : Fn1 P w K mg base k "_law_pick" ["_law_bag_here", "_law_many"] sp_law_pick) : Dv P w K mg base ["_law_bag_here", "_law_things"] "_law_some" st_law_some k (wb_law_some w kl sp_law_pick) := by
  intro f cd A outer s H E b
  have sc := sc_law_some
  exact (sss_one (ss_ret (se_ix (oixA b.hr) (xv 1 (Or.inl rfl)) (xf F_law_pick b.hr b.tk (sa_cons (xv 0 (Or.inl rfl)) (sa_cons (se_callB oc_len (by rfl) e.b_len PySem.boot_len (sa_cons (xv 1 (Or.inl rfl)) sa_nil)) sa_nil))))))
theorem bd_law_some (fd : FuncData) (f : Addr) (F : FunD K "_law_some" "_law_some" (defArgs st_law_some) (defBody st_law_some) (defScope st_law_some) [] [] f fd) : Binds K fd ["_law_bag_here", "_law_things"] [] := F.bindsN fun _ _ _ _ _ _ us hl => match us, hl with | [_, _], _ => rfl
theorem mk_law_some {sp_law_pick : PSp} {sp : PSp} (e : En w kl K mg) (t : Tx1 K mg "_law_some" st_law_some) (F_law_pick : Fn1 P w K mg base k "_law_pick" ["_law_bag_here", "_law_many"] sp_law_pick) (len : ∀ ds S Q E, sp ds S Q E → ds.length = 2)
    (pure : ∀ ds S Q E, sp ds S Q E → (wb_law_some w kl sp_law_pick) { nx := fun _ S' => End Q .non S', rt := End Q } (fun c fs _ S' => E c fs S') (startG ["_law_bag_here", "_law_things"] ds) S) : Fn1 P w K mg base (k + 1) "_law_some" ["_law_bag_here", "_law_things"] sp :=
  fn1E t sc_law_some (fun fd f F => F.bindsN fun _ _ _ _ _ _ us hl => match us, hl with | [_, _], _ => rfl) (dv_law_some e F_law_pick) len pure

/-! _law_is -/
abbrev st_law_is : Stmt := (top 24)
theorem sc_law_is : FnScope ["_law_thing", "_law_due_here", "_law_one", "_law_other"] ["_law_thing", "_law_due_here"] (defScope st_law_is) := ⟨rfl, rfl, rfl, by decide +kernel, rfl, by decide +kernel, by decide +kernel⟩
def wb_law_is (w : World) (kl : Str → Addr) (sp_law_is : PSp) : WS := (wSeq (wIfS (wTest (wCB rIsiTD (wCons (wVar 1) (wCons (wTup (wCons (wC (.raw (.ty "tuple"))) (wCons (wC (.raw (.ty "list"))) wNil))) wNil))))
  (wSeq (wIfS (wOr (wTest (wBin dNe (wCB rIsiD (wCons (wVar 0) (wCons (wC (.raw (.ty "tuple"))) wNil))) (wCB rIsiD (wCons (wVar 1) (wCons (wC (.raw (.ty "tuple"))) wNil))))) (wTest (wBin dNe (wCB rIsiD (wCons (wVar 0) (wCons (wC (.raw (.ty "list"))) wNil))) (wCB rIsiD (wCons (wVar 1) (wCons (wC (.raw (.ty "list"))) wNil))))))
  (wRet (wC (.bl false)))
  wNext)
  (wRet (wAndV (wBin dEq (wCB rLenD (wCons (wVar 0) wNil)) (wCB rLenD (wCons (wVar 1) wNil))) (wCB rAllD (wCons (wLc (wiZ (wCons (wVar 0) (wCons (wVar 1) wNil))) (wgTup 2 (wgCons (wName 2) (wgCons (wName 3) wgNil))) wYes (wCall sp_law_is (wCons (wVar 2) (wCons (wVar 3) wNil))) [2, 3]) wNil)))))
  wNext)
  (wRet (wAndV (wBin dEq (wCB rIsiD (wCons (wVar 0) (wCons (wC (.raw (.ty "bool"))) wNil))) (wCB rIsiD (wCons (wVar 1) (wCons (wC (.raw (.ty "bool"))) wNil)))) (wBin dEqK2 (wVar 0) (wVar 1)))))
theorem dv_law_is {sp_law_is : PSp} (e : En w kl K mg) (F_law_is : Fn1 P w K mg base k "_law_is" ["_law_thing", "_law_due_here"] sp_law_is) : Dv P w K mg base ["_law_thing", "_law_due_here", "_law_one", "_law_other"] "_law_is" st_law_is k (wb_law_is w kl sp_law_is) := by
  intro f cd A outer s H E b
  have sc := sc_law_is
  exact (sss_cons (ss_if (st_val (se_callB oc_isiT (by rfl) e.b_isinstance PyProof.Rows.boot_isinstance (sa_cons (xv 1 (Or.inl rfl)) (sa_cons (se_tup (sa_cons (se_type (by rfl) e.b_tuple PyProof.Rows.boot_tuple) (sa_cons (se_type (by rfl) e.b_list PyProof.Rows.boot_list) sa_nil))) sa_nil)))) (sss_cons (ss_if (SW.st (sw_or (st_cmp (od_ne b.hr) (se_callB oc_isi (by rfl) e.b_isinstance PyProof.Rows.boot_isinstance (sa_cons (xv 0 (Or.inl rfl)) (sa_cons (se_type (by rfl) e.b_tuple PyProof.Rows.boot_tuple) sa_nil))) (se_callB oc_isi (by rfl) e.b_isinstance PyProof.Rows.boot_isinstance (sa_cons (xv 1 (Or.inl rfl)) (sa_cons (se_type (by rfl) e.b_tuple PyProof.Rows.boot_tuple) sa_nil))) (nomark _)) (sw_or1 (st_cmp (od_ne b.hr) (se_callB oc_isi (by rfl) e.b_isinstance PyProof.Rows.boot_isinstance (sa_cons (xv 0 (Or.inl rfl)) (sa_cons (se_type (by rfl) e.b_list PyProof.Rows.boot_list) sa_nil))) (se_callB oc_isi (by rfl) e.b_isinstance PyProof.Rows.boot_isinstance (sa_cons (xv 1 (Or.inl rfl)) (sa_cons (se_type (by rfl) e.b_list PyProof.Rows.boot_list) sa_nil))) (nomark _))))) (sss_one (ss_ret se_bl)) sss_nil)
    (sss_one (ss_ret (se_and (se_cmp (od_eq b.hr) (se_callB oc_len (by rfl) e.b_len PySem.boot_len (sa_cons (xv 0 (Or.inl rfl)) sa_nil)) (se_callB oc_len (by rfl) e.b_len PySem.boot_len (sa_cons (xv 1 (Or.inl rfl)) sa_nil)) (nomark _)) (se_one (se_callB (oc_all rfl) (by rfl) e.b_all PyProof.Rows.boot_all (sa_cons (se_lc (own := [("_law_one", 2), ("_law_other", 3)]) rfl sc.nd (si_zip (by rfl) e.b_zip (sa_cons (xv 0 (Or.inl rfl)) (sa_cons (xv 1 (Or.inl rfl)) sa_nil))) (blkOk_by (by kernel_rfl)) (by decide) (fun _ _ _ _ _ => (sg_tup rfl (sgs_cons (sg_name (i := 2) sc.nd rfl (Or.inl rfl)) (sgs_cons (sg_name (i := 3) sc.nd rfl (Or.inl rfl)) sgs_nil)))) (fun _ _ _ _ _ => sts_nil) (fun _ _ _ _ _ => (xf F_law_is b.hr takes0 (sa_cons (xv 2 (Or.inl rfl)) (sa_cons (xv 3 (Or.inl rfl)) sa_nil))))) sa_nil))))))) sss_nil)
    (sss_one (ss_ret (se_and (se_cmp (od_eq b.hr) (se_callB oc_isi (by rfl) e.b_isinstance PyProof.Rows.boot_isinstance (sa_cons (xv 0 (Or.inl rfl)) (sa_cons (se_type (by rfl) e.b_bool PyProof.Rows.boot_bool) sa_nil))) (se_callB oc_isi (by rfl) e.b_isinstance PyProof.Rows.boot_isinstance (sa_cons (xv 1 (Or.inl rfl)) (sa_cons (se_type (by rfl) e.b_bool PyProof.Rows.boot_bool) sa_nil))) (nomark _)) (se_one (se_cmp (od_eqK2 b.hr) (xv 0 (Or.inl rfl)) (xv 1 (Or.inl rfl)) (nomark _)))))))
theorem bd_law_is (fd : FuncData) (f : Addr) (F : FunD K "_law_is" "_law_is" (defArgs st_law_is) (defBody st_law_is) (defScope st_law_is) [] [] f fd) : Binds K fd ["_law_thing", "_law_due_here"] [] := F.bindsN fun _ _ _ _ _ _ us hl => match us, hl with | [_, _], _ => rfl
theorem mk_law_is {sp_law_is : PSp} {sp : PSp} (e : En w kl K mg) (t : Tx1 K mg "_law_is" st_law_is) (F_law_is : Fn1 P w K mg base k "_law_is" ["_law_thing", "_law_due_here"] sp_law_is) (len : ∀ ds S Q E, sp ds S Q E → ds.length = 2)
    (pure : ∀ ds S Q E, sp ds S Q E → (wb_law_is w kl sp_law_is) { nx := fun _ S' => End Q .non S', rt := End Q } (fun c fs _ S' => E c fs S') (startG ["_law_thing", "_law_due_here", "_law_one", "_law_other"] ds) S) : Fn1 P w K mg base (k + 1) "_law_is" ["_law_thing", "_law_due_here"] sp :=
  fn1E t sc_law_is (fun fd f F => F.bindsN fun _ _ _ _ _ _ us hl => match us, hl with | [_, _], _ => rfl) (dv_law_is e F_law_is) len pure

/-! _law_is_int -/
abbrev st_law_is_int : Stmt := (top 25)
theorem sc_law_is_int : FnScope ["_law_thing", "_law_least", "_law_most"] ["_law_thing", "_law_least", "_law_most"] (defScope st_law_is_int) := ⟨rfl, rfl, rfl, by decide +kernel, rfl, by decide +kernel, by decide +kernel⟩
def wb_law_is_int (w : World) (kl : Str → Addr) : WS := (wRet (wAndV (wCB rIsiD (wCons (wVar 0) (wCons (wC (.raw (.ty "int"))) wNil))) (wAndV (wNotV (wCB rIsiD (wCons (wVar 0) (wCons (wC (.raw (.ty "bool"))) wNil)))) (wChain dLe dLe (wVar 1) (wVar 0) (wVar 2)))))
theorem dv_law_is_int (e : En w kl K mg) : Dv P w K mg base ["_law_thing", "_law_least", "_law_most"] "_law_is_int" st_law_is_int k (wb_law_is_int w kl) := by
  intro f cd A outer s H E b
  have sc := sc_law_is_int
  exact (sss_one (ss_ret (se_and (se_callB oc_isi (by rfl) e.b_isinstance PyProof.Rows.boot_isinstance (sa_cons (xv 0 (Or.inl rfl)) (sa_cons (se_type (by rfl) e.b_int PyProof.Rows.boot_int) sa_nil))) (se_and (se_not (se_callB oc_isi (by rfl) e.b_isinstance PyProof.Rows.boot_isinstance (sa_cons (xv 0 (Or.inl rfl)) (sa_cons (se_type (by rfl) e.b_bool PyProof.Rows.boot_bool) sa_nil)))) (se_one (se_chain od_le od_le (xv 1 (Or.inl rfl)) (xv 0 (Or.inl rfl)) (xv 2 (Or.inl rfl))))))))
theorem bd_law_is_int (fd : FuncData) (f : Addr) (F : FunD K "_law_is_int" "_law_is_int" (defArgs st_law_is_int) (defBody st_law_is_int) (defScope st_law_is_int) [] [] f fd) : Binds K fd ["_law_thing", "_law_least", "_law_most"] [] := F.bindsN fun _ _ _ _ _ _ us hl => match us, hl with | [_, _, _], _ => rfl
theorem mk_law_is_int {sp : PSp} (e : En w kl K mg) (t : Tx1 K mg "_law_is_int" st_law_is_int) (len : ∀ ds S Q E, sp ds S Q E → ds.length = 3)
    (pure : ∀ ds S Q E, sp ds S Q E → (wb_law_is_int w kl) { nx := fun _ S' => End Q .non S', rt := End Q } (fun c fs _ S' => E c fs S') (startG ["_law_thing", "_law_least", "_law_most"] ds) S) : Fn1 P w K mg base (k + 1) "_law_is_int" ["_law_thing", "_law_least", "_law_most"] sp :=
  fn1E t sc_law_is_int (fun fd f F => F.bindsN fun _ _ _ _ _ _ us hl => match us, hl with | [_, _, _], _ => rfl) (dv_law_is_int e) len pure

/-! _law_deep -/
abbrev st_law_deep : Stmt := (top 26)
theorem sc_law_deep : FnScope ["_law_thing", "_law_turn"] [] (defScope st_law_deep) := ⟨rfl, rfl, rfl, by decide +kernel, rfl, by decide +kernel, by decide +kernel⟩
def wb_law_deep (w : World) (kl : Str → Addr) : WS := (wSeq (wSet 0 (wTup wNil))
  (wSeq (wFor (wiR1 (wCons (wC (.int 11)) wNil)) (wName 1)
  (wSet 0 (wLst (wCons (wTup (wCons (wVar 0) wNil)) wNil))))
  (wRet (wVar 0))))
theorem dv_law_deep (e : En w kl K mg) : Dv P w K mg base ["_law_thing", "_law_turn"] "_law_deep" st_law_deep k (wb_law_deep w kl) := by
  intro f cd A outer s H E b
  have sc := sc_law_deep
  exact (sss_cons (ss_set (i := 0) sc.nd rfl (Or.inl rfl) (se_tup sa_nil))
    (sss_cons (ss_for b.pa rfl (si_range1 (by rfl) e.b_range (sa_cons se_int sa_nil)) (sg_name (i := 1) sc.nd rfl (Or.inl rfl)) (sss_one (ss_set (i := 0) sc.nd rfl (Or.inl rfl) (se_lst (sa_cons (se_tup (sa_cons (xv 0 (Or.inl rfl)) sa_nil)) sa_nil)))) (fun _ _ _ hi hg hb => ps_for b.pa rfl hi hg hb))
    (sss_one (ss_ret (xv 0 (Or.inl rfl))))))
theorem bd_law_deep (fd : FuncData) (f : Addr) (F : FunD K "_law_deep" "_law_deep" (defArgs st_law_deep) (defBody st_law_deep) (defScope st_law_deep) [] [] f fd) : Binds K fd [] [] := F.bindsN fun _ _ _ _ _ _ us hl => match us, hl with | [], _ => rfl
theorem mk_law_deep {sp : PSp} (e : En w kl K mg) (t : Tx1 K mg "_law_deep" st_law_deep) (len : ∀ ds S Q E, sp ds S Q E → ds.length = 0)
    (pure : ∀ ds S Q E, sp ds S Q E → (wb_law_deep w kl) { nx := fun _ S' => End Q .non S', rt := End Q } (fun c fs _ S' => E c fs S') (startG ["_law_thing", "_law_turn"] ds) S) : Fn1 P w K mg base (k + 1) "_law_deep" [] sp :=
  fn1E t sc_law_deep (fun fd f F => F.bindsN fun _ _ _ _ _ _ us hl => match us, hl with | [], _ => rfl) (dv_law_deep e) len pure

/-! _law_common -/
abbrev st_law_common : Stmt := (top 27)
theorem sc_law_common : FnScope ["_law_one", "_law_other"] ["_law_one", "_law_other"] (defScope st_law_common) := ⟨rfl, rfl, rfl, by decide +kernel, rfl, by decide +kernel, by decide +kernel⟩
def wb_law_common (w : World) (kl : Str → Addr) : WS := (wSeq (wPar 0 1 (wCons (wCB rAbsD (wCons (wVar 0) wNil)) (wCons (wCB rAbsD (wCons (wVar 1) wNil)) wNil)))
  (wSeq (wWhile (wTest (wBin dGt (wVar 1) (wC (.int 0))))
  (wPar 0 1 (wCons (wVar 1) (wCons (wBin dMod (wCB rIntD (wCons (wVar 0) wNil)) (wVar 1)) wNil))))
  (wRet (wVar 0))))
theorem dv_law_common (e : En w kl K mg) : Dv P w K mg base ["_law_one", "_law_other"] "_law_common" st_law_common k (wb_law_common w kl) := by
  intro f cd A outer s H E b
  have sc := sc_law_common
  exact (sss_cons (ss_par (i := 0) (j := 1) rfl sc.nd rfl rfl (by decide) rfl rfl (sa_cons (se_callB oc_abs (by rfl) e.b_abs PyProof.Rows.boot_abs (sa_cons (xv 0 (Or.inl rfl)) sa_nil)) (sa_cons (se_callB oc_abs (by rfl) e.b_abs PyProof.Rows.boot_abs (sa_cons (xv 1 (Or.inl rfl)) sa_nil)) sa_nil)) rfl)
    (sss_cons (ss_while b.pa (st_cmp od_gt (xv 1 (Or.inl rfl)) se_int (nomark _)) (sss_one (ss_par (i := 0) (j := 1) rfl sc.nd rfl rfl (by decide) rfl rfl (sa_cons (xv 1 (Or.inl rfl)) (sa_cons (se_bin od_mod (se_callTy oc_int (by rfl) e.b_int PyProof.Rows.boot_int (sa_cons (xv 0 (Or.inl rfl)) sa_nil)) (xv 1 (Or.inl rfl))) sa_nil)) rfl)))
    (sss_one (ss_ret (xv 0 (Or.inl rfl))))))
theorem bd_law_common (fd : FuncData) (f : Addr) (F : FunD K "_law_common" "_law_common" (defArgs st_law_common) (defBody st_law_common) (defScope st_law_common) [] [] f fd) : Binds K fd ["_law_one", "_law_other"] [] := F.bindsN fun _ _ _ _ _ _ us hl => match us, hl with | [_, _], _ => rfl
theorem mk_law_common {sp : PSp} (e : En w kl K mg) (t : Tx1 K mg "_law_common" st_law_common) (len : ∀ ds S Q E, sp ds S Q E → ds.length = 2)
    (pure : ∀ ds S Q E, sp ds S Q E → (wb_law_common w kl) { nx := fun _ S' => End Q .non S', rt := End Q } (fun c fs _ S' => E c fs S') (startG ["_law_one", "_law_other"] ds) S) : Fn1 P w K mg base (k + 1) "_law_common" ["_law_one", "_law_other"] sp :=
  fn1E t sc_law_common (fun fd f F => F.bindsN fun _ _ _ _ _ _ us hl => match us, hl with | [_, _], _ => rfl) (dv_law_common e) len pure

/-! _law_frac -/
abbrev st_law_frac : Stmt := (top 28)
theorem sc_law_frac : FnScope ["_law_top", "_law_bottom", "_law_many"] ["_law_top", "_law_bottom"] (defScope st_law_frac) := ⟨rfl, rfl, rfl, by decide +kernel, rfl, by decide +kernel, by decide +kernel⟩
def wb_law_frac (w : World) (kl : Str → Addr) (sp_law_common : PSp) : WS := (wSeq (wIfS (wTest (wBin dLt (wVar 1) (wC (.int 0))))
  (wPar 0 1 (wCons (wUn dNeg (wVar 0)) (wCons (wUn dNeg (wVar 1)) wNil)))
  wNext)
  (wSeq (wSet 2 (wCB rMax2 (wCons (wC (.int 1)) (wCons (wCall sp_law_common (wCons (wVar 0) (wCons (wVar 1) wNil))) wNil))))
  (wRet (wTup (wCons (wBin dDiv (wVar 0) (wVar 2)) (wCons (wBin dDiv (wVar 1) (wVar 2)) wNil))))))
theorem dv_law_frac {sp_law_common : PSp} (e : En w kl K mg) (F_law_common : Fn1 P w K mg base k "_law_common" ["_law_one", "_law_other"] sp_law_common) : Dv P w K mg base ["_law_top", "_law_bottom", "_law_many"] "_law_frac" st_law_frac k (wb_law_frac w kl sp_law_common) := by
  intro f cd A outer s H E b
  have sc := sc_law_frac
  exact (sss_cons (ss_if (st_cmp od_lt (xv 1 (Or.inl rfl)) se_int (nomark _)) (sss_one (ss_par (i := 0) (j := 1) rfl sc.nd rfl rfl (by decide) rfl rfl (sa_cons (se_neg (xv 0 (Or.inl rfl))) (sa_cons (se_neg (xv 1 (Or.inl rfl))) sa_nil)) rfl)) sss_nil)
    (sss_cons (ss_set (i := 2) sc.nd rfl (Or.inl rfl) (se_callB (oc_max2 rfl) (by rfl) e.b_max PyProof.Rows.boot_max (sa_cons se_int (sa_cons (xf F_law_common b.hr b.tk (sa_cons (xv 0 (Or.inl rfl)) (sa_cons (xv 1 (Or.inl rfl)) sa_nil))) sa_nil))))
    (sss_one (ss_ret (se_tup (sa_cons (se_bin od_div (xv 0 (Or.inl rfl)) (xv 2 (Or.inl rfl))) (sa_cons (se_bin od_div (xv 1 (Or.inl rfl)) (xv 2 (Or.inl rfl))) sa_nil)))))))
theorem bd_law_frac (fd : FuncData) (f : Addr) (F : FunD K "_law_frac" "_law_frac" (defArgs st_law_frac) (defBody st_law_frac) (defScope st_law_frac) [] [] f fd) : Binds K fd ["_law_top", "_law_bottom"] [] := F.bindsN fun _ _ _ _ _ _ us hl => match us, hl with | [_, _], _ => rfl
theorem mk_law_frac {sp_law_common : PSp} {sp : PSp} (e : En w kl K mg) (t : Tx1 K mg "_law_frac" st_law_frac) (F_law_common : Fn1 P w K mg base k "_law_common" ["_law_one", "_law_other"] sp_law_common) (len : ∀ ds S Q E, sp ds S Q E → ds.length = 2)
    (pure : ∀ ds S Q E, sp ds S Q E → (wb_law_frac w kl sp_law_common) { nx := fun _ S' => End Q .non S', rt := End Q } (fun c fs _ S' => E c fs S') (startG ["_law_top", "_law_bottom", "_law_many"] ds) S) : Fn1 P w K mg base (k + 1) "_law_frac" ["_law_top", "_law_bottom"] sp :=
  fn1E t sc_law_frac (fun fd f F => F.bindsN fun _ _ _ _ _ _ us hl => match us, hl with | [_, _], _ => rfl) (dv_law_frac e F_law_common) len pure

/-! _law_less -/
abbrev st_law_less : Stmt := (top 29)
theorem sc_law_less : FnScope ["_law_one", "_law_other"] ["_law_one", "_law_other"] (defScope st_law_less) := ⟨rfl, rfl, rfl, by decide +kernel, rfl, by decide +kernel, by decide +kernel⟩
def wb_law_less (w : World) (kl : Str → Addr) : WS := (wRet (wBin dLt (wBin dMul (wBin (dIxA w) (wVar 0) (wC (.int 0))) (wBin (dIxA w) (wVar 1) (wC (.int 1)))) (wBin dMul (wBin (dIxA w) (wVar 1) (wC (.int 0))) (wBin (dIxA w) (wVar 0) (wC (.int 1))))))
theorem dv_law_less (e : En w kl K mg) : Dv P w K mg base ["_law_one", "_law_other"] "_law_less" st_law_less k (wb_law_less w kl) := by
  intro f cd A outer s H E b
  have sc := sc_law_less
  exact (sss_one (ss_ret (se_cmp od_lt (se_bin od_mul (se_ix (oixA b.hr) (xv 0 (Or.inl rfl)) se_int) (se_ix (oixA b.hr) (xv 1 (Or.inl rfl)) se_int)) (se_bin od_mul (se_ix (oixA b.hr) (xv 1 (Or.inl rfl)) se_int) (se_ix (oixA b.hr) (xv 0 (Or.inl rfl)) se_int)) (nomark _))))
theorem bd_law_less (fd : FuncData) (f : Addr) (F : FunD K "_law_less" "_law_less" (defArgs st_law_less) (defBody st_law_less) (defScope st_law_less) [] [] f fd) : Binds K fd ["_law_one", "_law_other"] [] := F.bindsN fun _ _ _ _ _ _ us hl => match us, hl with | [_, _], _ => rfl
theorem mk_law_less {sp : PSp} (e : En w kl K mg) (t : Tx1 K mg "_law_less" st_law_less) (len : ∀ ds S Q E, sp ds S Q E → ds.length = 2)
    (pure : ∀ ds S Q E, sp ds S Q E → (wb_law_less w kl) { nx := fun _ S' => End Q .non S', rt := End Q } (fun c fs _ S' => E c fs S') (startG ["_law_one", "_law_other"] ds) S) : Fn1 P w K mg base (k + 1) "_law_less" ["_law_one", "_law_other"] sp :=
  fn1E t sc_law_less (fun fd f F => F.bindsN fun _ _ _ _ _ _ us hl => match us, hl with | [_, _], _ => rfl) (dv_law_less e) len pure

/-! _law_ordered -/
abbrev st_law_ordered : Stmt := (top 30)
theorem sc_law_ordered : FnScope ["_law_keys", "_law_every", "_law_q_here", "_law_k"] ["_law_keys"] (defScope st_law_ordered) := ⟨rfl, rfl, rfl, by decide +kernel, rfl, by decide +kernel, by decide +kernel⟩
def wb_law_ordered (w : World) (kl : Str → Addr) (sp_law_common : PSp) : WS := (wSeq (wSet 1 (wC (.int 1)))
  (wSeq (wFor (wiL (wVar 0)) (wgTup 2 (wgCons (wName 2) (wgCons (wName 3) wgNil)))
  (wSet 1 (wBin dDiv (wBin dMul (wVar 1) (wBin (dIxA w) (wVar 2) (wC (.int 1)))) (wCall sp_law_common (wCons (wVar 1) (wCons (wBin (dIxA w) (wVar 2) (wC (.int 1))) wNil))))))
  (wRet (wSortL 1 (wVar 0)))))
theorem dv_law_ordered {sp_law_common : PSp} (e : En w kl K mg) {c Pt : Addr} (TB : LamX.TabB base mg c Pt) (hT : (Pt, fun _ _ => ("_law_ordered.<locals>.<lambda>" : Str)) ∈ TabCtx.T) (hTu : ∀ p ∈ TabCtx.T, p.1 = Pt → p.2 = fun _ _ => ("_law_ordered.<locals>.<lambda>" : Str)) (F_law_common : Fn1 P w K mg base k "_law_common" ["_law_one", "_law_other"] sp_law_common) : DvC P w K mg base ["_law_keys", "_law_every", "_law_q_here", "_law_k"] "_law_ordered" st_law_ordered k c (wb_law_ordered w kl sp_law_common) := by
  intro f cd A outer s H E hcd b
  have sc := sc_law_ordered
  exact (sss_cons (ss_set (i := 1) sc.nd rfl (Or.inr rfl) se_int)
    (sss_cons (ss_for b.pa rfl (si_lst (xv 0 (Or.inl rfl))) (sg_tup rfl (sgs_cons (sg_name (i := 2) sc.nd rfl (Or.inl rfl)) (sgs_cons (sg_name (i := 3) sc.nd rfl (Or.inl rfl)) sgs_nil))) (sss_one (ss_set (i := 1) sc.nd rfl (Or.inr rfl) (se_bin od_div (se_bin od_mul (xv 1 (Or.inr (Or.inl rfl))) (se_ix (oixA b.hr) (xv 2 (Or.inl rfl)) se_int)) (xf F_law_common b.hr b.tk (sa_cons (xv 1 (Or.inr (Or.inl rfl))) (sa_cons (se_ix (oixA b.hr) (xv 2 (Or.inl rfl)) se_int) sa_nil)))))) (fun _ _ _ hi hg hb => ps_for b.pa rfl hi hg hb))
    (sss_one (ss_ret (se_sortL (y := "_law_key") (z := "_law_every") (jz := 1) ⟨rfl, rfl, by decide, by decide, by decide, fun _ _ _ _ _ _ _ _ => rfl⟩ TB hcd rfl hT hTu b.hr rfl e.b_sorted rfl rfl (xv 0 (Or.inl rfl)))))))
theorem bd_law_ordered (fd : FuncData) (f : Addr) (F : FunD K "_law_ordered" "_law_ordered" (defArgs st_law_ordered) (defBody st_law_ordered) (defScope st_law_ordered) [] [] f fd) : Binds K fd ["_law_keys"] [] := F.bindsN fun _ _ _ _ _ _ us hl => match us, hl with | [_], _ => rfl
theorem mk_law_ordered {sp_law_common : PSp} {sp : PSp} (e : En w kl K mg)  {c Pt : Addr} (TB : LamX.TabB base mg c Pt) (hT : (Pt, fun _ _ => ("_law_ordered.<locals>.<lambda>" : Str)) ∈ TabCtx.T) (hTu : ∀ p ∈ TabCtx.T, p.1 = Pt → p.2 = fun _ _ => ("_law_ordered.<locals>.<lambda>" : Str)) (F_law_common : Fn1 P w K mg base k "_law_common" ["_law_one", "_law_other"] sp_law_common) (t : TxC K mg "_law_ordered" st_law_ordered c) (len : ∀ ds S Q E, sp ds S Q E → ds.length = 1)
    (pure : ∀ ds S Q E, sp ds S Q E → (wb_law_ordered w kl sp_law_common) { nx := fun _ S' => End Q .non S', rt := End Q } (fun c fs _ S' => E c fs S') (startG ["_law_keys", "_law_every", "_law_q_here", "_law_k"] ds) S) : Fn1 P w K mg base (k + 1) "_law_ordered" ["_law_keys"] sp :=
  fn1C t sc_law_ordered (fun fd f F => F.bindsN fun _ _ _ _ _ _ us hl => match us, hl with | [_], _ => rfl) (dv_law_ordered e TB hT hTu F_law_common) len pure

/-! _law_terms -/
abbrev st_law_terms : Stmt := (top 31)
theorem sc_law_terms : FnScope ["_law_parts", "_law_left", "_law_key"] ["_law_parts"] (defScope st_law_terms) := ⟨rfl, rfl, rfl, by decide +kernel, rfl, by decide +kernel, by decide +kernel⟩
def wb_law_terms (w : World) (kl : Str → Addr) (sp_law_ordered : PSp) : WS := (wSeq (wSet 1 (wLc (wiN w (wVar 0)) (wName 2) (wTest (wBin dNe (wBin (dIxA w) (wBin (dIxA w) (wVar 0) (wVar 2)) (wC (.int 0))) (wC (.int 0)))) (wVar 2) [2]))
  (wRet (wCB rTupD (wCons (wLc (wiL (wCall sp_law_ordered (wCons (wVar 1) wNil))) (wName 2) wYes (wTup (wCons (wBin (dIxA w) (wVar 0) (wVar 2)) (wCons (wBin (dIxA w) (wVar 2) (wC (.int 1))) (wCons (wBin (dIxA w) (wVar 2) (wC (.int 0))) wNil)))) [2]) wNil))))
theorem dv_law_terms {sp_law_ordered : PSp} (e : En w kl K mg) (F_law_ordered : Fn1 P w K mg base k "_law_ordered" ["_law_keys"] sp_law_ordered) : Dv P w K mg base ["_law_parts", "_law_left", "_law_key"] "_law_terms" st_law_terms k (wb_law_terms w kl sp_law_ordered) := by
  intro f cd A outer s H E b
  have sc := sc_law_terms
  exact (sss_cons (ss_setLc (i := 1) (own := [("_law_key", 2)]) rfl sc.nd rfl rfl (sw_true rfl rfl rfl (by decide +kernel)) (si_nkeys (xv 0 (Or.inr (Or.inl rfl)))) (blkOk_by (by kernel_rfl)) (by decide) (fun _ _ _ _ _ => (sg_name (i := 2) sc.nd rfl (Or.inl rfl))) (fun _ _ _ _ _ => (sts_one (st_cmp (od_ne b.hr) (se_ix (oixA b.hr) (se_ix (oixA b.hr) (xv 0 (Or.inr (Or.inl rfl))) (xv 2 (Or.inl rfl))) se_int) se_int (nomark _)))) (fun _ _ _ _ _ => (xv 2 (Or.inl rfl))))
    (sss_one (ss_ret (se_callTy oc_tup (by rfl) e.b_tuple PyProof.Rows.boot_tuple (sa_cons (se_lc (own := [("_law_key", 2)]) rfl sc.nd (si_lst (xf F_law_ordered b.hr b.tk (sa_cons (xv 1 (Or.inl rfl)) sa_nil))) (blkOk_by (by kernel_rfl)) (by decide) (fun _ _ _ _ _ => (sg_name (i := 2) sc.nd rfl (Or.inl rfl))) (fun _ _ _ _ _ => sts_nil) (fun _ _ _ _ _ => (se_tup (sa_cons (se_ix (oixA b.hr) (xv 0 (Or.inr (Or.inl rfl))) (xv 2 (Or.inl rfl))) (sa_cons (se_ix (oixA b.hr) (xv 2 (Or.inl rfl)) se_int) (sa_cons (se_ix (oixA b.hr) (xv 2 (Or.inl rfl)) se_int) sa_nil)))))) sa_nil)))))
theorem bd_law_terms (fd : FuncData) (f : Addr) (F : FunD K "_law_terms" "_law_terms" (defArgs st_law_terms) (defBody st_law_terms) (defScope st_law_terms) [] [] f fd) : Binds K fd ["_law_parts"] [] := F.bindsN fun _ _ _ _ _ _ us hl => match us, hl with | [_], _ => rfl
theorem mk_law_terms {sp_law_ordered : PSp} {sp : PSp} (e : En w kl K mg) (t : Tx1 K mg "_law_terms" st_law_terms) (F_law_ordered : Fn1 P w K mg base k "_law_ordered" ["_law_keys"] sp_law_ordered) (len : ∀ ds S Q E, sp ds S Q E → ds.length = 1)
    (pure : ∀ ds S Q E, sp ds S Q E → (wb_law_terms w kl sp_law_ordered) { nx := fun _ S' => End Q .non S', rt := End Q } (fun c fs _ S' => E c fs S') (startG ["_law_parts", "_law_left", "_law_key"] ds) S) : Fn1 P w K mg base (k + 1) "_law_terms" ["_law_parts"] sp :=
  fn1E t sc_law_terms (fun fd f F => F.bindsN fun _ _ _ _ _ _ us hl => match us, hl with | [_], _ => rfl) (dv_law_terms e F_law_ordered) len pure

/-! _law_is_fraction -/
abbrev st_law_is_fraction : Stmt := (top 32)
theorem sc_law_is_fraction : FnScope ["_law_thing", "_law_one"] ["_law_thing"] (defScope st_law_is_fraction) := ⟨rfl, rfl, rfl, by decide +kernel, rfl, by decide +kernel, by decide +kernel⟩
def wb_law_is_fraction_0 (w : World) (kl : Str → Addr) (sp_law_is_int : PSp) (sp_law_common : PSp) : WS := (wRet (wAndV (wBin dGt (wBin (dIxA w) (wVar 0) (wC (.int 1))) (wC (.int 0))) (wBin dEq (wCall sp_law_common (wCons (wBin (dIxA w) (wVar 0) (wC (.int 0))) (wCons (wBin (dIxA w) (wVar 0) (wC (.int 1))) wNil))) (wC (.int 1)))))
def wb_law_is_fraction_1 (w : World) (kl : Str → Addr) (sp_law_is_int : PSp) (sp_law_common : PSp) : WS := (wSeq (wIfS (wNot (wTest (wCB rAllD (wCons (wLc (wiT (wVar 0)) (wName 1) wYes (wCall sp_law_is_int (wCons (wVar 1) (wCons (wUn dNeg (wBin dPow (wC (.int 10)) (wC (.int 60)))) (wCons (wBin dPow (wC (.int 10)) (wC (.int 60))) wNil)))) [1]) wNil))))
  (wRet (wC (.bl false)))
  wNext)
  (wb_law_is_fraction_0 w kl sp_law_is_int sp_law_common))
def wb_law_is_fraction (w : World) (kl : Str → Addr) (sp_law_is_int : PSp) (sp_law_common : PSp) : WS := (wSeq (wIfS (wOr (wNot (wTest (wCB rIsiD (wCons (wVar 0) (wCons (wC (.raw (.ty "tuple"))) wNil))))) (wTest (wBin dNe (wCB rLenD (wCons (wVar 0) wNil)) (wC (.int 2)))))
  (wRet (wC (.bl false)))
  wNext)
  (wb_law_is_fraction_1 w kl sp_law_is_int sp_law_common))
theorem dv_law_is_fraction {sp_law_is_int : PSp} {sp_law_common : PSp} (e : En w kl K mg) (F_law_is_int : Fn1 P w K mg base k "_law_is_int" ["_law_thing", "_law_least", "_law_most"] sp_law_is_int) (F_law_common : Fn1 P w K mg base k "_law_common" ["_law_one", "_law_other"] sp_law_common) : Dv P w K mg base ["_law_thing", "_law_one"] "_law_is_fraction" st_law_is_fraction k (wb_law_is_fraction w kl sp_law_is_int sp_law_common) := by
  intro f cd A outer s H E b
  have sc := sc_law_is_fraction
  exact (sss_cons (ss_if (SW.st (sw_or (st_not (st_val (se_callB oc_isi (by rfl) e.b_isinstance PyProof.Rows.boot_isinstance (sa_cons (xv 0 (Or.inl rfl)) (sa_cons (se_type (by rfl) e.b_tuple PyProof.Rows.boot_tuple) sa_nil))))) (sw_or1 (st_cmp (od_ne b.hr) (se_callB oc_len (by rfl) e.b_len PySem.boot_len (sa_cons (xv 0 (Or.inl rfl)) sa_nil)) se_int (nomark _))))) (sss_one (ss_ret se_bl)) sss_nil)
    (sss_cons (ss_if (st_not (st_val (se_callB (oc_all rfl) (by rfl) e.b_all PyProof.Rows.boot_all (sa_cons (se_lc (own := [("_law_one", 1)]) rfl sc.nd (si_tup (xv 0 (Or.inl rfl))) (blkOk_by (by kernel_rfl)) (by decide) (fun _ _ _ _ _ => (sg_name (i := 1) sc.nd rfl (Or.inl rfl))) (fun _ _ _ _ _ => sts_nil) (fun _ _ _ _ _ => (xf F_law_is_int b.hr takes0 (sa_cons (xv 1 (Or.inl rfl)) (sa_cons (se_neg (se_bin od_pow se_int se_int)) (sa_cons (se_bin od_pow se_int se_int) sa_nil)))))) sa_nil)))) (sss_one (ss_ret se_bl)) sss_nil)
    (sss_one (ss_ret (se_and (se_cmp od_gt (se_ix (oixA b.hr) (xv 0 (Or.inl rfl)) se_int) se_int (nomark _)) (se_one (se_cmp (od_eq b.hr) (xf F_law_common b.hr b.tk (sa_cons (se_ix (oixA b.hr) (xv 0 (Or.inl rfl)) se_int) (sa_cons (se_ix (oixA b.hr) (xv 0 (Or.inl rfl)) se_int) sa_nil))) se_int (nomark _))))))))
theorem bd_law_is_fraction (fd : FuncData) (f : Addr) (F : FunD K "_law_is_fraction" "_law_is_fraction" (defArgs st_law_is_fraction) (defBody st_law_is_fraction) (defScope st_law_is_fraction) [] [] f fd) : Binds K fd ["_law_thing"] [] := F.bindsN fun _ _ _ _ _ _ us hl => match us, hl with | [_], _ => rfl
theorem mk_law_is_fraction {sp_law_is_int : PSp} {sp_law_common : PSp} {sp : PSp} (e : En w kl K mg) (t : Tx1 K mg "_law_is_fraction" st_law_is_fraction) (F_law_is_int : Fn1 P w K mg base k "_law_is_int" ["_law_thing", "_law_least", "_law_most"] sp_law_is_int) (F_law_common : Fn1 P w K mg base k "_law_common" ["_law_one", "_law_other"] sp_law_common) (len : ∀ ds S Q E, sp ds S Q E → ds.length = 1)
    (pure : ∀ ds S Q E, sp ds S Q E → (wb_law_is_fraction w kl sp_law_is_int sp_law_common) { nx := fun _ S' => End Q .non S', rt := End Q } (fun c fs _ S' => E c fs S') (startG ["_law_thing", "_law_one"] ds) S) : Fn1 P w K mg base (k + 1) "_law_is_fraction" ["_law_thing"] sp :=
  fn1E t sc_law_is_fraction (fun fd f F => F.bindsN fun _ _ _ _ _ _ us hl => match us, hl with | [_], _ => rfl) (dv_law_is_fraction e F_law_is_int F_law_common) len pure

/-! _law_is_term -/
abbrev st_law_is_term : Stmt := (top 33)
theorem sc_law_is_term : FnScope ["_law_thing"] ["_law_thing"] (defScope st_law_is_term) := ⟨rfl, rfl, rfl, by decide +kernel, rfl, by decide +kernel, by decide +kernel⟩
def wb_law_is_term_0 (w : World) (kl : Str → Addr) (sp_law_is_fraction : PSp) (sp_law_is_int : PSp) : WS := (wRet (wAndV (wBin dLe (wBin (dIxA w) (wBin (dIxA w) (wVar 0) (wC (.int 2))) (wC (.int 1))) (wC (.int 4))) (wBin dLe (wCB rAbsD (wCons (wBin (dIxA w) (wBin (dIxA w) (wVar 0) (wC (.int 2))) (wC (.int 0))) wNil)) (wBin dMul (wC (.int 4)) (wBin (dIxA w) (wBin (dIxA w) (wVar 0) (wC (.int 2))) (wC (.int 1)))))))
def wb_law_is_term_1 (w : World) (kl : Str → Addr) (sp_law_is_fraction : PSp) (sp_law_is_int : PSp) : WS := (wSeq (wIfS (wOr (wNot (wTest (wCall sp_law_is_int (wCons (wBin (dIxA w) (wVar 0) (wC (.int 1))) (wCons (wC (.int 0)) (wCons (wC (.int 3)) wNil)))))) (wNot (wTest (wCall sp_law_is_fraction (wCons (wBin (dIxA w) (wVar 0) (wC (.int 2))) wNil)))))
  (wRet (wC (.bl false)))
  wNext)
  (wb_law_is_term_0 w kl sp_law_is_fraction sp_law_is_int))
def wb_law_is_term (w : World) (kl : Str → Addr) (sp_law_is_fraction : PSp) (sp_law_is_int : PSp) : WS := (wSeq (wIfS (wOr (wNot (wTest (wCB rIsiD (wCons (wVar 0) (wCons (wC (.raw (.ty "tuple"))) wNil))))) (wOr (wTest (wBin dNe (wCB rLenD (wCons (wVar 0) wNil)) (wC (.int 3)))) (wOr (wNot (wTest (wCall sp_law_is_fraction (wCons (wBin (dIxA w) (wVar 0) (wC (.int 0))) wNil)))) (wTest (wBin dEq (wBin (dIxA w) (wBin (dIxA w) (wVar 0) (wC (.int 0))) (wC (.int 0))) (wC (.int 0)))))))
  (wRet (wC (.bl false)))
  wNext)
  (wb_law_is_term_1 w kl sp_law_is_fraction sp_law_is_int))
theorem dv_law_is_term {sp_law_is_fraction : PSp} {sp_law_is_int : PSp} (e : En w kl K mg) (F_law_is_fraction : Fn1 P w K mg base k "_law_is_fraction" ["_law_thing"] sp_law_is_fraction) (F_law_is_int : Fn1 P w K mg base k "_law_is_int" ["_law_thing", "_law_least", "_law_most"] sp_law_is_int) : Dv P w K mg base ["_law_thing"] "_law_is_term" st_law_is_term k (wb_law_is_term w kl sp_law_is_fraction sp_law_is_int) := by
  intro f cd A outer s H E b
  have sc := sc_law_is_term
  exact (sss_cons (ss_if (SW.st (sw_or (st_not (st_val (se_callB oc_isi (by rfl) e.b_isinstance PyProof.Rows.boot_isinstance (sa_cons (xv 0 (Or.inl rfl)) (sa_cons (se_type (by rfl) e.b_tuple PyProof.Rows.boot_tuple) sa_nil))))) (sw_or (st_cmp (od_ne b.hr) (se_callB oc_len (by rfl) e.b_len PySem.boot_len (sa_cons (xv 0 (Or.inl rfl)) sa_nil)) se_int (nomark _)) (sw_or (st_not (st_val (xf F_law_is_fraction b.hr b.tk (sa_cons (se_ix (oixA b.hr) (xv 0 (Or.inl rfl)) se_int) sa_nil)))) (sw_or1 (st_cmp (od_eq b.hr) (se_ix (oixA b.hr) (se_ix (oixA b.hr) (xv 0 (Or.inl rfl)) se_int) se_int) se_int (nomark _))))))) (sss_one (ss_ret se_bl)) sss_nil)
    (sss_cons (ss_if (SW.st (sw_or (st_not (st_val (xf F_law_is_int b.hr b.tk (sa_cons (se_ix (oixA b.hr) (xv 0 (Or.inl rfl)) se_int) (sa_cons se_int (sa_cons se_int sa_nil)))))) (sw_or1 (st_not (st_val (xf F_law_is_fraction b.hr b.tk (sa_cons (se_ix (oixA b.hr) (xv 0 (Or.inl rfl)) se_int) sa_nil))))))) (sss_one (ss_ret se_bl)) sss_nil)
    (sss_one (ss_ret (se_and (se_cmp od_le (se_ix (oixA b.hr) (se_ix (oixA b.hr) (xv 0 (Or.inl rfl)) se_int) se_int) se_int (nomark _)) (se_one (se_cmp od_le (se_callB oc_abs (by rfl) e.b_abs PyProof.Rows.boot_abs (sa_cons (se_ix (oixA b.hr) (se_ix (oixA b.hr) (xv 0 (Or.inl rfl)) se_int) se_int) sa_nil)) (se_bin od_mul se_int (se_ix (oixA b.hr) (se_ix (oixA b.hr) (xv 0 (Or.inl rfl)) se_int) se_int)) (nomark _))))))))
theorem bd_law_is_term (fd : FuncData) (f : Addr) (F : FunD K "_law_is_term" "_law_is_term" (defArgs st_law_is_term) (defBody st_law_is_term) (defScope st_law_is_term) [] [] f fd) : Binds K fd ["_law_thing"] [] := F.bindsN fun _ _ _ _ _ _ us hl => match us, hl with | [_], _ => rfl
theorem mk_law_is_term {sp_law_is_fraction : PSp} {sp_law_is_int : PSp} {sp : PSp} (e : En w kl K mg) (t : Tx1 K mg "_law_is_term" st_law_is_term) (F_law_is_fraction : Fn1 P w K mg base k "_law_is_fraction" ["_law_thing"] sp_law_is_fraction) (F_law_is_int : Fn1 P w K mg base k "_law_is_int" ["_law_thing", "_law_least", "_law_most"] sp_law_is_int) (len : ∀ ds S Q E, sp ds S Q E → ds.length = 1)
    (pure : ∀ ds S Q E, sp ds S Q E → (wb_law_is_term w kl sp_law_is_fraction sp_law_is_int) { nx := fun _ S' => End Q .non S', rt := End Q } (fun c fs _ S' => E c fs S') (startG ["_law_thing"] ds) S) : Fn1 P w K mg base (k + 1) "_law_is_term" ["_law_thing"] sp :=
  fn1E t sc_law_is_term (fun fd f F => F.bindsN fun _ _ _ _ _ _ us hl => match us, hl with | [_], _ => rfl) (dv_law_is_term e F_law_is_fraction F_law_is_int) len pure

/-! _law_is_behind -/
abbrev st_law_is_behind : Stmt := (top 34)
theorem sc_law_is_behind : FnScope ["_law_ahead", "_law_term"] ["_law_ahead", "_law_term"] (defScope st_law_is_behind) := ⟨rfl, rfl, rfl, by decide +kernel, rfl, by decide +kernel, by decide +kernel⟩
def wb_law_is_behind (w : World) (kl : Str → Addr) (sp_law_less : PSp) : WS := (wSeq (wIfS (wTest (wBin dEq (wBin (dIxA w) (wVar 0) (wC (.int 2))) (wBin (dIxA w) (wVar 1) (wC (.int 2)))))
  (wRet (wBin dLt (wBin (dIxA w) (wVar 0) (wC (.int 1))) (wBin (dIxA w) (wVar 1) (wC (.int 1)))))
  wNext)
  (wRet (wCall sp_law_less (wCons (wBin (dIxA w) (wVar 0) (wC (.int 2))) (wCons (wBin (dIxA w) (wVar 1) (wC (.int 2))) wNil)))))
theorem dv_law_is_behind {sp_law_less : PSp} (e : En w kl K mg) (F_law_less : Fn1 P w K mg base k "_law_less" ["_law_one", "_law_other"] sp_law_less) : Dv P w K mg base ["_law_ahead", "_law_term"] "_law_is_behind" st_law_is_behind k (wb_law_is_behind w kl sp_law_less) := by
  intro f cd A outer s H E b
  have sc := sc_law_is_behind
  exact (sss_cons (ss_if (st_cmp (od_eq b.hr) (se_ix (oixA b.hr) (xv 0 (Or.inl rfl)) se_int) (se_ix (oixA b.hr) (xv 1 (Or.inl rfl)) se_int) (nomark _)) (sss_one (ss_ret (se_cmp od_lt (se_ix (oixA b.hr) (xv 0 (Or.inl rfl)) se_int) (se_ix (oixA b.hr) (xv 1 (Or.inl rfl)) se_int) (nomark _)))) sss_nil)
    (sss_one (ss_ret (xf F_law_less b.hr b.tk (sa_cons (se_ix (oixA b.hr) (xv 0 (Or.inl rfl)) se_int) (sa_cons (se_ix (oixA b.hr) (xv 1 (Or.inl rfl)) se_int) sa_nil))))))
theorem bd_law_is_behind (fd : FuncData) (f : Addr) (F : FunD K "_law_is_behind" "_law_is_behind" (defArgs st_law_is_behind) (defBody st_law_is_behind) (defScope st_law_is_behind) [] [] f fd) : Binds K fd ["_law_ahead", "_law_term"] [] := F.bindsN fun _ _ _ _ _ _ us hl => match us, hl with | [_, _], _ => rfl
theorem mk_law_is_behind {sp_law_less : PSp} {sp : PSp} (e : En w kl K mg) (t : Tx1 K mg "_law_is_behind" st_law_is_behind) (F_law_less : Fn1 P w K mg base k "_law_less" ["_law_one", "_law_other"] sp_law_less) (len : ∀ ds S Q E, sp ds S Q E → ds.length = 2)
    (pure : ∀ ds S Q E, sp ds S Q E → (wb_law_is_behind w kl sp_law_less) { nx := fun _ S' => End Q .non S', rt := End Q } (fun c fs _ S' => E c fs S') (startG ["_law_ahead", "_law_term"] ds) S) : Fn1 P w K mg base (k + 1) "_law_is_behind" ["_law_ahead", "_law_term"] sp :=
  fn1E t sc_law_is_behind (fun fd f F => F.bindsN fun _ _ _ _ _ _ us hl => match us, hl with | [_, _], _ => rfl) (dv_law_is_behind e F_law_less) len pure

/-! _law_q -/
abbrev st_law_q : Stmt := (top 35)
theorem sc_law_q : FnScope ["_law_bag_here", "_law_bottom"] ["_law_bag_here"] (defScope st_law_q) := ⟨rfl, rfl, rfl, by decide +kernel, rfl, by decide +kernel, by decide +kernel⟩
def wb_law_q (w : World) (kl : Str → Addr) (sp_law_some : PSp) (sp_law_pick : PSp) (sp_law_frac : PSp) : WS := (wSeq (wSet 1 (wCall sp_law_some (wCons (wVar 0) (wCons (wLst (wCons (wC (.int 1)) (wCons (wC (.int 1)) (wCons (wC (.int 1)) (wCons (wC (.int 2)) (wCons (wC (.int 3)) (wCons (wC (.int 4)) wNil))))))) wNil))))
  (wRet (wIf (wTest (wBin dGt (wCall sp_law_pick (wCons (wVar 0) (wCons (wC (.int 3)) wNil))) (wC (.int 0)))) (wCall sp_law_frac (wCons (wBin dSub (wCall sp_law_pick (wCons (wVar 0) (wCons (wBin dAdd (wBin dMul (wC (.int 8)) (wVar 1)) (wC (.int 1))) wNil))) (wBin dMul (wC (.int 4)) (wVar 1))) (wCons (wVar 1) wNil))) (wTup (wCons (wC (.int 0)) (wCons (wC (.int 1)) wNil))))))
theorem dv_law_q {sp_law_some : PSp} {sp_law_pick : PSp} {sp_law_frac : PSp} (e : En w kl K mg) (F_law_some : Fn1 P w K mg base k "_law_some" ["_law_bag_here", "_law_things"] sp_law_some) (F_law_pick : Fn1 P w K mg base k "_law_pick" ["_law_bag_here", "_law_many"] sp_law_pick) (F_law_frac : Fn1 P w K mg base k "_law_frac" ["_law_top", "_law_bottom"] sp_law_frac) : Dv P w K mg base ["_law_bag_here", "_law_bottom"] "_law_q" st_law_q k (wb_law_q w kl sp_law_some sp_law_pick sp_law_frac) := by
  intro f cd A outer s H E b
  have sc := sc_law_q
  exact (sss_cons (ss_set (i := 1) sc.nd rfl (Or.inl rfl) (xf F_law_some b.hr b.tk (sa_cons (xv 0 (Or.inl rfl)) (sa_cons (se_lst (sa_cons se_int (sa_cons se_int (sa_cons se_int (sa_cons se_int (sa_cons se_int (sa_cons se_int sa_nil))))))) sa_nil))))
    (sss_one (ss_ret (se_if (st_cmp od_gt (xf F_law_pick b.hr b.tk (sa_cons (xv 0 (Or.inl rfl)) (sa_cons se_int sa_nil))) se_int (nomark _)) (xf F_law_frac b.hr b.tk (sa_cons (se_bin od_sub (xf F_law_pick b.hr b.tk (sa_cons (xv 0 (Or.inl rfl)) (sa_cons (se_bin od_add (se_bin od_mul se_int (xv 1 (Or.inl rfl))) se_int) sa_nil))) (se_bin od_mul se_int (xv 1 (Or.inl rfl)))) (sa_cons (xv 1 (Or.inl rfl)) sa_nil))) (se_tup (sa_cons se_int (sa_cons se_int sa_nil)))))))
theorem bd_law_q (fd : FuncData) (f : Addr) (F : FunD K "_law_q" "_law_q" (defArgs st_law_q) (defBody st_law_q) (defScope st_law_q) [] [] f fd) : Binds K fd ["_law_bag_here"] [] := F.bindsN fun _ _ _ _ _ _ us hl => match us, hl with | [_], _ => rfl
theorem mk_law_q {sp_law_some : PSp} {sp_law_pick : PSp} {sp_law_frac : PSp} {sp : PSp} (e : En w kl K mg) (t : Tx1 K mg "_law_q" st_law_q) (F_law_some : Fn1 P w K mg base k "_law_some" ["_law_bag_here", "_law_things"] sp_law_some) (F_law_pick : Fn1 P w K mg base k "_law_pick" ["_law_bag_here", "_law_many"] sp_law_pick) (F_law_frac : Fn1 P w K mg base k "_law_frac" ["_law_top", "_law_bottom"] sp_law_frac) (len : ∀ ds S Q E, sp ds S Q E → ds.length = 1)
    (pure : ∀ ds S Q E, sp ds S Q E → (wb_law_q w kl sp_law_some sp_law_pick sp_law_frac) { nx := fun _ S' => End Q .non S', rt := End Q } (fun c fs _ S' => E c fs S') (startG ["_law_bag_here", "_law_bottom"] ds) S) : Fn1 P w K mg base (k + 1) "_law_q" ["_law_bag_here"] sp :=
  fn1E t sc_law_q (fun fd f F => F.bindsN fun _ _ _ _ _ _ us hl => match us, hl with | [_], _ => rfl) (dv_law_q e F_law_some F_law_pick F_law_frac) len pure

/-! _law_c -/
abbrev st_law_c : Stmt := (top 36)
theorem sc_law_c : FnScope ["_law_bag_here", "_law_great", "_law_top", "_law_bottom"] ["_law_bag_here"] (defScope st_law_c) := ⟨rfl, rfl, rfl, by decide +kernel, rfl, by decide +kernel, by decide +kernel⟩
def wb_law_c (w : World) (kl : Str → Addr) (sp_law_some : PSp) (sp_law_pick : PSp) (sp_law_frac : PSp) : WS := (wSeq (wSet 1 (wCall sp_law_some (wCons (wVar 0) (wCons (wLst (wCons (wC (.int 9)) (wCons (wC (.int 3)) (wCons (wC (.int 30)) (wCons (wC (.int 9)) (wCons (wC (.int 3)) (wCons (wBin dPow (wC (.int 10)) (wC (.int 15))) (wCons (wC (.int 9)) (wCons (wBin dPow (wC (.int 10)) (wC (.int 30))) wNil))))))))) wNil))))
  (wSeq (wSet 2 (wBin dAdd (wC (.int 1)) (wCall sp_law_pick (wCons (wVar 0) (wCons (wBin dSub (wVar 1) (wC (.int 1))) wNil)))))
  (wSeq (wSet 3 (wBin dAdd (wC (.int 1)) (wCall sp_law_pick (wCons (wVar 0) (wCons (wCall sp_law_some (wCons (wVar 0) (wCons (wLst (wCons (wC (.int 1)) (wCons (wC (.int 1)) (wCons (wC (.int 1)) (wCons (wC (.int 4)) (wCons (wC (.int 12)) (wCons (wBin dSub (wVar 1) (wC (.int 1))) wNil))))))) wNil))) wNil)))))
  (wRet (wCall sp_law_frac (wCons (wIf (wTest (wBin dEq (wCall sp_law_pick (wCons (wVar 0) (wCons (wC (.int 2)) wNil))) (wC (.int 0)))) (wVar 2) (wUn dNeg (wVar 2))) (wCons (wVar 3) wNil)))))))
theorem dv_law_c {sp_law_some : PSp} {sp_law_pick : PSp} {sp_law_frac : PSp} (e : En w kl K mg) (F_law_some : Fn1 P w K mg base k "_law_some" ["_law_bag_here", "_law_things"] sp_law_some) (F_law_pick : Fn1 P w K mg base k "_law_pick" ["_law_bag_here", "_law_many"] sp_law_pick) (F_law_frac : Fn1 P w K mg base k "_law_frac" ["_law_top", "_law_bottom"] sp_law_frac) : Dv P w K mg base ["_law_bag_here", "_law_great", "_law_top", "_law_bottom"] "_law_c" st_law_c k (wb_law_c w kl sp_law_some sp_law_pick sp_law_frac) := by
  intro f cd A outer s H E b
  have sc := sc_law_c
  exact (sss_cons (ss_set (i := 1) sc.nd rfl (Or.inl rfl) (xf F_law_some b.hr b.tk (sa_cons (xv 0 (Or.inl rfl)) (sa_cons (se_lst (sa_cons se_int (sa_cons se_int (sa_cons se_int (sa_cons se_int (sa_cons se_int (sa_cons (se_bin od_pow se_int se_int) (sa_cons se_int (sa_cons (se_bin od_pow se_int se_int) sa_nil))))))))) sa_nil))))
    (sss_cons (ss_set (i := 2) sc.nd rfl (Or.inl rfl) (se_bin od_add se_int (xf F_law_pick b.hr b.tk (sa_cons (xv 0 (Or.inl rfl)) (sa_cons (se_bin od_sub (xv 1 (Or.inl rfl)) se_int) sa_nil)))))
    (sss_cons (ss_set (i := 3) sc.nd rfl (Or.inl rfl) (se_bin od_add se_int (xf F_law_pick b.hr b.tk (sa_cons (xv 0 (Or.inl rfl)) (sa_cons (xf F_law_some b.hr b.tk (sa_cons (xv 0 (Or.inl rfl)) (sa_cons (se_lst (sa_cons se_int (sa_cons se_int (sa_cons se_int (sa_cons se_int (sa_cons se_int (sa_cons (se_bin od_sub (xv 1 (Or.inl rfl)) se_int) sa_nil))))))) sa_nil))) sa_nil)))))
    (sss_one (ss_ret (xf F_law_frac b.hr b.tk (sa_cons (se_if (st_cmp (od_eq b.hr) (xf F_law_pick b.hr b.tk (sa_cons (xv 0 (Or.inl rfl)) (sa_cons se_int sa_nil))) se_int (nomark _)) (xv 2 (Or.inl rfl)) (se_neg (xv 2 (Or.inl rfl)))) (sa_cons (xv 3 (Or.inl rfl)) sa_nil))))))))
theorem bd_law_c (fd : FuncData) (f : Addr) (F : FunD K "_law_c" "_law_c" (defArgs st_law_c) (defBody st_law_c) (defScope st_law_c) [] [] f fd) : Binds K fd ["_law_bag_here"] [] := F.bindsN fun _ _ _ _ _ _ us hl => match us, hl with | [_], _ => rfl
theorem mk_law_c {sp_law_some : PSp} {sp_law_pick : PSp} {sp_law_frac : PSp} {sp : PSp} (e : En w kl K mg) (t : Tx1 K mg "_law_c" st_law_c) (F_law_some : Fn1 P w K mg base k "_law_some" ["_law_bag_here", "_law_things"] sp_law_some) (F_law_pick : Fn1 P w K mg base k "_law_pick" ["_law_bag_here", "_law_many"] sp_law_pick) (F_law_frac : Fn1 P w K mg base k "_law_frac" ["_law_top", "_law_bottom"] sp_law_frac) (len : ∀ ds S Q E, sp ds S Q E → ds.length = 1)
    (pure : ∀ ds S Q E, sp ds S Q E → (wb_law_c w kl sp_law_some sp_law_pick sp_law_frac) { nx := fun _ S' => End Q .non S', rt := End Q } (fun c fs _ S' => E c fs S') (startG ["_law_bag_here", "_law_great", "_law_top", "_law_bottom"] ds) S) : Fn1 P w K mg base (k + 1) "_law_c" ["_law_bag_here"] sp :=
  fn1E t sc_law_c (fun fd f F => F.bindsN fun _ _ _ _ _ _ us hl => match us, hl with | [_], _ => rfl) (dv_law_c e F_law_some F_law_pick F_law_frac) len pure

/-! _law_curve -/
abbrev st_law_curve : Stmt := (top 37)
theorem sc_law_curve : FnScope ["_law_bag_here", "_law_size", "_law_turn", "_law_parts", "_law_few", "_law_q_here"] ["_law_bag_here", "_law_size"] (defScope st_law_curve) := ⟨rfl, rfl, rfl, by decide +kernel, rfl, by decide +kernel, by decide +kernel⟩
def wb_law_curve_0 (w : World) (kl : Str → Addr) (sp_law_q : PSp) (sp_law_pick : PSp) (sp_law_some : PSp) (sp_law_c : PSp) (sp_law_terms : PSp) : WS := (wRet (wCall sp_law_terms (wCons (wVar 3) wNil)))
def wb_law_curve (w : World) (kl : Str → Addr) (sp_law_q : PSp) (sp_law_pick : PSp) (sp_law_some : PSp) (sp_law_c : PSp) (sp_law_terms : PSp) : WS := (wSeq (wPar 3 4 (wCons (wNNew w) (wCons (wLst (wCons (wCall sp_law_q (wCons (wVar 0) wNil)) (wCons (wCall sp_law_q (wCons (wVar 0) wNil)) (wCons (wTup (wCons (wC (.int 0)) (wCons (wC (.int 1)) wNil))) wNil)))) wNil)))
  (wSeq (wFor (wiR1 (wCons (wCall sp_law_pick (wCons (wVar 0) (wCons (wBin dAdd (wVar 1) (wC (.int 1))) wNil))) wNil)) (wName 2)
  (wSeq (wSet 5 (wIf (wTest (wBin dGt (wCall sp_law_pick (wCons (wVar 0) (wCons (wC (.int 3)) wNil))) (wC (.int 0)))) (wCall sp_law_some (wCons (wVar 0) (wCons (wVar 4) wNil))) (wCall sp_law_q (wCons (wVar 0) wNil))))
  (wSetIx (rSetA w) (wCall sp_law_c (wCons (wVar 0) wNil)) (wVar 3) (wTup (wCons (wVar 5) (wCons (wCall sp_law_pick (wCons (wVar 0) (wCons (wC (.int 4)) wNil))) wNil))))))
  (wb_law_curve_0 w kl sp_law_q sp_law_pick sp_law_some sp_law_c sp_law_terms)))
theorem dv_law_curve {sp_law_q : PSp} {sp_law_pick : PSp} {sp_law_some : PSp} {sp_law_c : PSp} {sp_law_terms : PSp} (e : En w kl K mg) (F_law_q : Fn1 P w K mg base k "_law_q" ["_law_bag_here"] sp_law_q) (F_law_pick : Fn1 P w K mg base k "_law_pick" ["_law_bag_here", "_law_many"] sp_law_pick) (F_law_some : Fn1 P w K mg base k "_law_some" ["_law_bag_here", "_law_things"] sp_law_some) (F_law_c : Fn1 P w K mg base k "_law_c" ["_law_bag_here"] sp_law_c) (F_law_terms : Fn1 P w K mg base k "_law_terms" ["_law_parts"] sp_law_terms) : Dv P w K mg base ["_law_bag_here", "_law_size", "_law_turn", "_law_parts", "_law_few", "_law_q_here"] "_law_curve" st_law_curve k (wb_law_curve w kl sp_law_q sp_law_pick sp_law_some sp_law_c sp_law_terms) := by
  intro f cd A outer s H E b
  have sc := sc_law_curve
  exact (sss_cons (ss_par (i := 3) (j := 4) rfl sc.nd rfl rfl (by decide) rfl rfl (sa_cons se_nnew (sa_cons (se_lst (sa_cons (xf F_law_q b.hr b.tk (sa_cons (xv 0 (Or.inl rfl)) sa_nil)) (sa_cons (xf F_law_q b.hr b.tk (sa_cons (xv 0 (Or.inl rfl)) sa_nil)) (sa_cons (se_tup (sa_cons se_int (sa_cons se_int sa_nil))) sa_nil)))) sa_nil)) rfl)
    (sss_cons (ss_for b.pa rfl (si_range1 (by rfl) e.b_range (sa_cons (xf F_law_pick b.hr b.tk (sa_cons (xv 0 (Or.inl rfl)) (sa_cons (se_bin od_add (xv 1 (Or.inl rfl)) se_int) sa_nil))) sa_nil)) (sg_name (i := 2) sc.nd rfl (Or.inl rfl)) (sss_cons (ss_set (i := 5) sc.nd rfl (Or.inl rfl) (se_if (st_cmp od_gt (xf F_law_pick b.hr b.tk (sa_cons (xv 0 (Or.inl rfl)) (sa_cons se_int sa_nil))) se_int (nomark _)) (xf F_law_some b.hr b.tk (sa_cons (xv 0 (Or.inl rfl)) (sa_cons (xv 4 (Or.inl rfl)) sa_nil))) (xf F_law_q b.hr b.tk (sa_cons (xv 0 (Or.inl rfl)) sa_nil))))
    (sss_one (ss_setix (xf F_law_c b.hr b.tk (sa_cons (xv 0 (Or.inl rfl)) sa_nil)) (xv 3 (Or.inl rfl)) (se_tup (sa_cons (xv 5 (Or.inl rfl)) (sa_cons (xf F_law_pick b.hr b.tk (sa_cons (xv 0 (Or.inl rfl)) (sa_cons se_int sa_nil))) sa_nil))) (osetA b.hr)))) (fun _ _ _ hi hg hb => ps_for b.pa rfl hi hg hb))
    (sss_one (ss_ret (xf F_law_terms b.hr b.tk (sa_cons (xv 3 (Or.inl rfl)) sa_nil))))))
theorem bd_law_curve (fd : FuncData) (f : Addr) (F : FunD K "_law_curve" "_law_curve" (defArgs st_law_curve) (defBody st_law_curve) (defScope st_law_curve) [] [] f fd) : Binds K fd ["_law_bag_here", "_law_size"] [] := F.bindsN fun _ _ _ _ _ _ us hl => match us, hl with | [_, _], _ => rfl
theorem mk_law_curve {sp_law_q : PSp} {sp_law_pick : PSp} {sp_law_some : PSp} {sp_law_c : PSp} {sp_law_terms : PSp} {sp : PSp} (e : En w kl K mg) (t : Tx1 K mg "_law_curve" st_law_curve) (F_law_q : Fn1 P w K mg base k "_law_q" ["_law_bag_here"] sp_law_q) (F_law_pick : Fn1 P w K mg base k "_law_pick" ["_law_bag_here", "_law_many"] sp_law_pick) (F_law_some : Fn1 P w K mg base k "_law_some" ["_law_bag_here", "_law_things"] sp_law_some) (F_law_c : Fn1 P w K mg base k "_law_c" ["_law_bag_here"] sp_law_c) (F_law_terms : Fn1 P w K mg base k "_law_terms" ["_law_parts"] sp_law_terms) (len : ∀ ds S Q E, sp ds S Q E → ds.length = 2)
    (pure : ∀ ds S Q E, sp ds S Q E → (wb_law_curve w kl sp_law_q sp_law_pick sp_law_some sp_law_c sp_law_terms) { nx := fun _ S' => End Q .non S', rt := End Q } (fun c fs _ S' => E c fs S') (startG ["_law_bag_here", "_law_size", "_law_turn", "_law_parts", "_law_few", "_law_q_here"] ds) S) : Fn1 P w K mg base (k + 1) "_law_curve" ["_law_bag_here", "_law_size"] sp :=
  fn1E t sc_law_curve (fun fd f F => F.bindsN fun _ _ _ _ _ _ us hl => match us, hl with | [_, _], _ => rfl) (dv_law_curve e F_law_q F_law_pick F_law_some F_law_c F_law_terms) len pure

/-! _law_due -/
abbrev st_law_due : Stmt := (top 38)
theorem sc_law_due : FnScope ["_law_terms_here", "_law_index", "_law_term"] ["_law_terms_here"] (defScope st_law_due) := ⟨rfl, rfl, rfl, by decide +kernel, rfl, by decide +kernel, by decide +kernel⟩
def wb_law_due_0 (w : World) (kl : Str → Addr) (sp_law_is_behind : PSp) (sp_law_is_term : PSp) : WS := (wRet (wTup (wCons (wC (.str "told")) (wCons (wVar 0) wNil))))
def wb_law_due_1 (w : World) (kl : Str → Addr) (sp_law_is_behind : PSp) (sp_law_is_term : PSp) : WS := (wSeq (wFor (wiE (wVar 0)) (wgTup 2 (wgCons (wName 1) (wgCons (wName 2) wgNil)))
  (wIfS (wOr (wNot (wTest (wCall sp_law_is_term (wCons (wVar 2) wNil)))) (wAnd (wTest (wBin dGt (wVar 1) (wC (.int 0)))) (wNot (wTest (wCall sp_law_is_behind (wCons (wBin (dIxA w) (wVar 0) (wBin dSub (wVar 1) (wC (.int 1)))) (wCons (wVar 2) wNil)))))))
  (wRet (wVar 1))
  wNext))
  (wb_law_due_0 w kl sp_law_is_behind sp_law_is_term))
def wb_law_due (w : World) (kl : Str → Addr) (sp_law_is_behind : PSp) (sp_law_is_term : PSp) : WS := (wSeq (wIfS (wOr (wNot (wTest (wCB rIsiD (wCons (wVar 0) (wCons (wC (.raw (.ty "tuple"))) wNil))))) (wTest (wBin dGt (wCB rLenD (wCons (wVar 0) wNil)) (wC (.int 8)))))
  (wRet (wUn dNeg (wC (.int 1))))
  wNext)
  (wb_law_due_1 w kl sp_law_is_behind sp_law_is_term))
theorem dv_law_due {sp_law_is_behind : PSp} {sp_law_is_term : PSp} (e : En w kl K mg) (F_law_is_behind : Fn1 P w K mg base k "_law_is_behind" ["_law_ahead", "_law_term"] sp_law_is_behind) (F_law_is_term : Fn1 P w K mg base k "_law_is_term" ["_law_thing"] sp_law_is_term) : Dv P w K mg base ["_law_terms_here", "_law_index", "_law_term"] "_law_due" st_law_due k (wb_law_due w kl sp_law_is_behind sp_law_is_term) := by
  intro f cd A outer s H E b
  have sc := sc_law_due
  exact (sss_cons (ss_if (SW.st (sw_or (st_not (st_val (se_callB oc_isi (by rfl) e.b_isinstance PyProof.Rows.boot_isinstance (sa_cons (xv 0 (Or.inl rfl)) (sa_cons (se_type (by rfl) e.b_tuple PyProof.Rows.boot_tuple) sa_nil))))) (sw_or1 (st_cmp od_gt (se_callB oc_len (by rfl) e.b_len PySem.boot_len (sa_cons (xv 0 (Or.inl rfl)) sa_nil)) se_int (nomark _))))) (sss_one (ss_ret (se_neg se_int))) sss_nil)
    (sss_cons (ss_for b.pa rfl (si_enum (by rfl) e.b_enumerate (xv 0 (Or.inl rfl))) (sg_tup rfl (sgs_cons (sg_name (i := 1) sc.nd rfl (Or.inl rfl)) (sgs_cons (sg_name (i := 2) sc.nd rfl (Or.inl rfl)) sgs_nil))) (sss_one (ss_if (SW.st (sw_or (st_not (st_val (xf F_law_is_term b.hr b.tk (sa_cons (xv 2 (Or.inl rfl)) sa_nil)))) (sw_or1 (SW.st (sw_and (st_cmp od_gt (xv 1 (Or.inl rfl)) se_int (nomark _)) (sw_and1 (st_not (st_val (xf F_law_is_behind b.hr b.tk (sa_cons (se_ix (oixA b.hr) (xv 0 (Or.inl rfl)) (se_bin od_sub (xv 1 (Or.inl rfl)) se_int)) (sa_cons (xv 2 (Or.inl rfl)) sa_nil))))))))))) (sss_one (ss_ret (xv 1 (Or.inl rfl)))) sss_nil)) (fun _ _ _ hi hg hb => ps_for b.pa rfl hi hg hb))
    (sss_one (ss_ret (se_tup (sa_cons se_str (sa_cons (xv 0 (Or.inl rfl)) sa_nil)))))))
theorem bd_law_due (fd : FuncData) (f : Addr) (F : FunD K "_law_due" "_law_due" (defArgs st_law_due) (defBody st_law_due) (defScope st_law_due) [] [] f fd) : Binds K fd ["_law_terms_here"] [] := F.bindsN fun _ _ _ _ _ _ us hl => match us, hl with | [_], _ => rfl
theorem mk_law_due {sp_law_is_behind : PSp} {sp_law_is_term : PSp} {sp : PSp} (e : En w kl K mg) (t : Tx1 K mg "_law_due" st_law_due) (F_law_is_behind : Fn1 P w K mg base k "_law_is_behind" ["_law_ahead", "_law_term"] sp_law_is_behind) (F_law_is_term : Fn1 P w K mg base k "_law_is_term" ["_law_thing"] sp_law_is_term) (len : ∀ ds S Q E, sp ds S Q E → ds.length = 1)
    (pure : ∀ ds S Q E, sp ds S Q E → (wb_law_due w kl sp_law_is_behind sp_law_is_term) { nx := fun _ S' => End Q .non S', rt := End Q } (fun c fs _ S' => E c fs S') (startG ["_law_terms_here", "_law_index", "_law_term"] ds) S) : Fn1 P w K mg base (k + 1) "_law_due" ["_law_terms_here"] sp :=
  fn1E t sc_law_due (fun fd f F => F.bindsN fun _ _ _ _ _ _ us hl => match us, hl with | [_], _ => rfl) (dv_law_due e F_law_is_behind F_law_is_term) len pure

/-! _law_told -/
abbrev st_law_told : Stmt := (top 39)
theorem sc_law_told : FnScope ["_law_terms_here", "_law_told_here", "e"] ["_law_terms_here"] (defScope st_law_told) := ⟨rfl, rfl, rfl, by decide +kernel, rfl, by decide +kernel, by decide +kernel⟩
def wb_law_told (w : World) (kl : Str → Addr) (sp_Curve : CSp) : WS := (wSeq (wSet 1 (wC (.str "other")))
  (wSeq (wTryAs (mtE kl "BadCurve") 2 (fun a cls d => (wSet 1 (wIf (wAnd (wTest (wCB (rIsQ a cls d (ecs kl) (ecl kl) (subE kl)) (wCons (wVar 2) (wCons (wC (.raw (.ref (kl "CurveError")))) wNil)))) (wTest (wCB (rIsQ a cls d (ecs kl) (ecl kl) (subE kl)) (wCons (wVar 2) (wCons (wC (.raw (.ty "ValueError"))) wNil))))) (wUn (dXq a cls d (kl "BadCurve") "index") (wVar 2)) (wC (.str "other"))))) (wSet 1 (wTup (wCons (wC (.str "told")) (wCons (wUn (dFld [kl "Curve"] "terms") (wCall (cSp (kl "Curve") sp_Curve) (wCons (wVar 0) wNil))) wNil)))))
  (wRet (wVar 1))))
theorem dv_law_told {sp_Curve : CSp} (e : En w kl K mg) (F_Curve : KlU P w K mg base k "Curve" (kl "Curve") ["terms"] sp_Curve) : Dv P w K mg base ["_law_terms_here", "_law_told_here", "e"] "_law_told" st_law_told k (wb_law_told w kl sp_Curve) := by
  intro f cd A outer s H E b
  have sc := sc_law_told
  exact (sss_cons (ss_set (i := 1) sc.nd rfl (Or.inl rfl) se_str)
    (sss_cons (ss_try_as (i := 2) rfl rfl sc.nd rfl rfl ⟨rfl, by decide, Or.inl e.m_BadCurve⟩ b.tk e.mt_BadCurve (fun W pn xe tk pa => (sss_one (ss_set (i := 1) sc.nd rfl (Or.inl rfl) (se_tup (sa_cons se_str (sa_cons (xa e.f_terms (xku F_Curve b.hr tk (sa_cons (xv 0 (Or.inl rfl)) sa_nil))) sa_nil)))))) (fun a oe cls d pn hz hv => (sss_one (ss_set (i := 1) sc.nd rfl (Or.inl rfl) (se_if (SW.st (sw_and (st_val (se_callB (oc_isQ e.exo hz hv) (by rfl) e.b_isinstance PyProof.Rows.boot_isinstance (sa_cons (xv 2 (Or.inl rfl)) (sa_cons (xg e.k_CurveError) sa_nil)))) (sw_and1 (st_val (se_callB (oc_isQ e.exo hz hv) (by rfl) e.b_isinstance PyProof.Rows.boot_isinstance (sa_cons (xv 2 (Or.inl rfl)) (sa_cons (se_type (by rfl) e.b_ValueError PyProof.Rows.Boot.«ValueError») sa_nil))))))) (xaq e.sx_BadCurve_index.1 e.sx_BadCurve_index.2 hz hv (xv 2 (Or.inl rfl))) se_str)))))
    (sss_one (ss_ret (xv 1 (Or.inl rfl))))))
theorem bd_law_told (fd : FuncData) (f : Addr) (F : FunD K "_law_told" "_law_told" (defArgs st_law_told) (defBody st_law_told) (defScope st_law_told) [] [] f fd) : Binds K fd ["_law_terms_here"] [] := F.bindsN fun _ _ _ _ _ _ us hl => match us, hl with | [_], _ => rfl
theorem mk_law_told {sp_Curve : CSp} {sp : PSp} (e : En w kl K mg) (t : Tx1 K mg "_law_told" st_law_told) (F_Curve : KlU P w K mg base k "Curve" (kl "Curve") ["terms"] sp_Curve) (len : ∀ ds S Q E, sp ds S Q E → ds.length = 1)
    (pure : ∀ ds S Q E, sp ds S Q E → (wb_law_told w kl sp_Curve) { nx := fun _ S' => End Q .non S', rt := End Q } (fun c fs _ S' => E c fs S') (startG ["_law_terms_here", "_law_told_here", "e"] ds) S) : Fn1 P w K mg base (k + 1) "_law_told" ["_law_terms_here"] sp :=
  fn1E t sc_law_told (fun fd f F => F.bindsN fun _ _ _ _ _ _ us hl => match us, hl with | [_], _ => rfl) (dv_law_told e F_Curve) len pure

/-! _law_odd -/
abbrev st_law_odd : Stmt := (top 40)
theorem sc_law_odd : FnScope ["_law_bag_here", "_law_odd_here"] ["_law_bag_here"] (defScope st_law_odd) := ⟨rfl, rfl, rfl, by decide +kernel, rfl, by decide +kernel, by decide +kernel⟩
def wb_law_odd (w : World) (kl : Str → Addr) (sp_law_deep : PSp) (sp_law_some : PSp) : WS := (wSeq (wSet 1 (wLst (wCons (wC .non) (wCons (wC (.bl true)) (wCons (wC (.int 0)) (wCons (wUn dNeg (wC (.int 1))) (wCons (wC (.int 4)) (wCons (wC (.str "1")) (wCons (wTup wNil) (wCons (wLst wNil) (wCons wDct0 (wCons (wTup (wCons (wC (.int 1)) (wCons (wC (.int 1)) wNil))) (wCons (wTup (wCons (wC (.int 0)) (wCons (wC (.int 1)) wNil))) (wCons (wTup (wCons (wC (.int 2)) (wCons (wC (.int 2)) wNil))) (wCons (wTup (wCons (wC (.int 1)) (wCons (wUn dNeg (wC (.int 1))) wNil))) (wCons (wTup (wCons (wC (.int 1)) (wCons (wC (.int 0)) wNil))) (wCons (wTup (wCons (wC (.int 9)) (wCons (wC (.int 2)) wNil))) (wCons (wTup (wCons (wC (.int 1)) (wCons (wC (.int 5)) wNil))) (wCons (wTup (wCons (wUn dNeg (wC (.int 9))) (wCons (wC (.int 2)) wNil))) wNil)))))))))))))))))))
  (wSeq (wSet 1 (wBin dAdd (wVar 1) (wLst (wCons (wTup (wCons (wC (.int 4)) (wCons (wC (.int 1)) wNil))) (wCons (wTup (wCons (wC (.int 1)) wNil)) (wCons (wLst (wCons (wC (.int 1)) (wCons (wC (.int 1)) wNil))) (wCons (wTup (wCons (wC (.bl true)) (wCons (wC (.int 1)) wNil))) (wCons (wTup (wCons (wC (.int 1)) (wCons (wC (.int 2)) (wCons (wC (.int 3)) wNil)))) (wCons (wCall sp_law_deep wNil) (wCons (wTup (wCons (wTup (wCons (wC (.int 1)) (wCons (wC (.int 1)) wNil))) (wCons (wC (.int 0)) (wCons (wTup (wCons (wC (.int 0)) (wCons (wC (.int 1)) wNil))) wNil)))) (wCons (wBin dPow (wC (.int 10)) (wC (.int 29))) (wCons (wTup (wCons (wUn dNeg (wC (.int 4))) (wCons (wC (.int 1)) wNil))) wNil))))))))))))
  (wRet (wCall sp_law_some (wCons (wVar 0) (wCons (wVar 1) wNil))))))
theorem dv_law_odd {sp_law_deep : PSp} {sp_law_some : PSp} (e : En w kl K mg) (F_law_deep : Fn1 P w K mg base k "_law_deep" [] sp_law_deep) (F_law_some : Fn1 P w K mg base k "_law_some" ["_law_bag_here", "_law_things"] sp_law_some) : Dv P w K mg base ["_law_bag_here", "_law_odd_here"] "_law_odd" st_law_odd k (wb_law_odd w kl sp_law_deep sp_law_some) := by
  intro f cd A outer s H E b
  have sc := sc_law_odd
  exact (sss_cons (ss_set (i := 1) sc.nd rfl (Or.inl rfl) (se_lst (sa_cons se_non (sa_cons se_bl (sa_cons se_int (sa_cons (se_neg se_int) (sa_cons se_int (sa_cons se_str (sa_cons (se_tup sa_nil) (sa_cons (se_lst sa_nil) (sa_cons se_dct0 (sa_cons (se_tup (sa_cons se_int (sa_cons se_int sa_nil))) (sa_cons (se_tup (sa_cons se_int (sa_cons se_int sa_nil))) (sa_cons (se_tup (sa_cons se_int (sa_cons se_int sa_nil))) (sa_cons (se_tup (sa_cons se_int (sa_cons (se_neg se_int) sa_nil))) (sa_cons (se_tup (sa_cons se_int (sa_cons se_int sa_nil))) (sa_cons (se_tup (sa_cons se_int (sa_cons se_int sa_nil))) (sa_cons (se_tup (sa_cons se_int (sa_cons se_int sa_nil))) (sa_cons (se_tup (sa_cons (se_neg se_int) (sa_cons se_int sa_nil))) sa_nil)))))))))))))))))))
    (sss_cons (ss_set (i := 1) sc.nd rfl (Or.inl rfl) (se_bin od_add (xv 1 (Or.inl rfl)) (se_lst (sa_cons (se_tup (sa_cons se_int (sa_cons se_int sa_nil))) (sa_cons (se_tup (sa_cons se_int sa_nil)) (sa_cons (se_lst (sa_cons se_int (sa_cons se_int sa_nil))) (sa_cons (se_tup (sa_cons se_bl (sa_cons se_int sa_nil))) (sa_cons (se_tup (sa_cons se_int (sa_cons se_int (sa_cons se_int sa_nil)))) (sa_cons (xf0 F_law_deep b.hr b.tk) (sa_cons (se_tup (sa_cons (se_tup (sa_cons se_int (sa_cons se_int sa_nil))) (sa_cons se_int (sa_cons (se_tup (sa_cons se_int (sa_cons se_int sa_nil))) sa_nil)))) (sa_cons (se_bin od_pow se_int se_int) (sa_cons (se_tup (sa_cons (se_neg se_int) (sa_cons se_int sa_nil))) sa_nil))))))))))))
    (sss_one (ss_ret (xf F_law_some b.hr b.tk (sa_cons (xv 0 (Or.inl rfl)) (sa_cons (xv 1 (Or.inl rfl)) sa_nil)))))))
theorem bd_law_odd (fd : FuncData) (f : Addr) (F : FunD K "_law_odd" "_law_odd" (defArgs st_law_odd) (defBody st_law_odd) (defScope st_law_odd) [] [] f fd) : Binds K fd ["_law_bag_here"] [] := F.bindsN fun _ _ _ _ _ _ us hl => match us, hl with | [_], _ => rfl
theorem mk_law_odd {sp_law_deep : PSp} {sp_law_some : PSp} {sp : PSp} (e : En w kl K mg) (t : Tx1 K mg "_law_odd" st_law_odd) (F_law_deep : Fn1 P w K mg base k "_law_deep" [] sp_law_deep) (F_law_some : Fn1 P w K mg base k "_law_some" ["_law_bag_here", "_law_things"] sp_law_some) (len : ∀ ds S Q E, sp ds S Q E → ds.length = 1)
    (pure : ∀ ds S Q E, sp ds S Q E → (wb_law_odd w kl sp_law_deep sp_law_some) { nx := fun _ S' => End Q .non S', rt := End Q } (fun c fs _ S' => E c fs S') (startG ["_law_bag_here", "_law_odd_here"] ds) S) : Fn1 P w K mg base (k + 1) "_law_odd" ["_law_bag_here"] sp :=
  fn1E t sc_law_odd (fun fd f F => F.bindsN fun _ _ _ _ _ _ us hl => match us, hl with | [_], _ => rfl) (dv_law_odd e F_law_deep F_law_some) len pure

/-! _law_bent -/
abbrev st_law_bent : Stmt := (top 41)
theorem sc_law_bent : FnScope ["_law_bag_here", "_law_terms_here", "_law_at", "_law_way", "_law_other", "_law_term", "_law_part"] ["_law_bag_here", "_law_terms_here"] (defScope st_law_bent) := ⟨rfl, rfl, rfl, by decide +kernel, rfl, by decide +kernel, by decide +kernel⟩
def wb_law_bent_0 (w : World) (kl : Str → Addr) (sp_law_pick : PSp) (sp_law_odd : PSp) (sp_law_some : PSp) (sp_law_curve : PSp) : WS := (wRet (wBin dAdd (wVar 1) (wCall sp_law_curve (wCons (wVar 0) (wCons (wC (.int 8)) wNil)))))
def wb_law_bent_1 (w : World) (kl : Str → Addr) (sp_law_pick : PSp) (sp_law_odd : PSp) (sp_law_some : PSp) (sp_law_curve : PSp) : WS := (wSeq (wIfS (wAnd (wTest (wBin dLt (wVar 2) (wCB rLenD (wCons (wVar 1) wNil)))) (wAnd (wTest (wCB rIsiD (wCons (wBin (dIxA w) (wVar 1) (wVar 2)) (wCons (wC (.raw (.ty "tuple"))) wNil)))) (wTest (wBin dEq (wCB rLenD (wCons (wBin (dIxA w) (wVar 1) (wVar 2)) wNil)) (wC (.int 3))))))
  (wSeq (wPar 5 6 (wCons (wBin (dIxA w) (wVar 1) (wVar 2)) (wCons (wCall sp_law_pick (wCons (wVar 0) (wCons (wC (.int 3)) wNil))) wNil)))
  (wSeq (wSet 4 (wBin dAdd (wBin dAdd (wSl dSl (wVar 5) wNo (wPart (wVar 6))) (wTup (wCons (wCall sp_law_odd (wCons (wVar 0) wNil)) wNil))) (wSl dSl (wVar 5) (wPart (wBin dAdd (wVar 6) (wC (.int 1)))) wNo)))
  (wRet (wBin dAdd (wBin dAdd (wSl dSl (wVar 1) wNo (wPart (wVar 2))) (wTup (wCons (wCall sp_law_some (wCons (wVar 0) (wCons (wLst (wCons (wVar 4) (wCons (wVar 4) (wCons (wCB rListD (wCons (wVar 5) wNil)) (wCons (wSl dSl (wVar 5) wNo (wPart (wC (.int 2)))) (wCons (wBin dAdd (wVar 5) (wTup (wCons (wC (.int 0)) wNil))) wNil)))))) wNil))) wNil))) (wSl dSl (wVar 1) (wPart (wBin dAdd (wVar 2) (wC (.int 1)))) wNo)))))
  wNext)
  (wb_law_bent_0 w kl sp_law_pick sp_law_odd sp_law_some sp_law_curve))
def wb_law_bent_2 (w : World) (kl : Str → Addr) (sp_law_pick : PSp) (sp_law_odd : PSp) (sp_law_some : PSp) (sp_law_curve : PSp) : WS := (wSeq (wIfS (wTest (wBin dEq (wVar 3) (wC (.int 4))))
  (wRet (wBin dAdd (wSl dSl (wVar 1) wNo (wPart (wVar 2))) (wSl dSl (wVar 1) (wPart (wBin dAdd (wVar 2) (wC (.int 1)))) wNo)))
  wNext)
  (wb_law_bent_1 w kl sp_law_pick sp_law_odd sp_law_some sp_law_curve))
def wb_law_bent_3 (w : World) (kl : Str → Addr) (sp_law_pick : PSp) (sp_law_odd : PSp) (sp_law_some : PSp) (sp_law_curve : PSp) : WS := (wSeq (wIfS (wTest (wBin dEq (wVar 3) (wC (.int 3))))
  (wRet (wBin dAdd (wBin dAdd (wSl dSl (wVar 1) wNo (wPart (wVar 2))) (wUn dRev (wSl dSl (wVar 1) (wPart (wVar 2)) (wPart (wBin dAdd (wVar 2) (wC (.int 2))))))) (wSl dSl (wVar 1) (wPart (wBin dAdd (wVar 2) (wC (.int 2)))) wNo)))
  wNext)
  (wb_law_bent_2 w kl sp_law_pick sp_law_odd sp_law_some sp_law_curve))
def wb_law_bent_4 (w : World) (kl : Str → Addr) (sp_law_pick : PSp) (sp_law_odd : PSp) (sp_law_some : PSp) (sp_law_curve : PSp) : WS := (wSeq (wIfS (wTest (wBin dEq (wVar 3) (wC (.int 2))))
  (wRet (wBin dAdd (wBin dAdd (wSl dSl (wVar 1) wNo (wPart (wVar 2))) (wSl dSl (wVar 1) (wPart (wVar 2)) (wPart (wBin dAdd (wVar 2) (wC (.int 1)))))) (wSl dSl (wVar 1) (wPart (wVar 2)) wNo)))
  wNext)
  (wb_law_bent_3 w kl sp_law_pick sp_law_odd sp_law_some sp_law_curve))
def wb_law_bent_5 (w : World) (kl : Str → Addr) (sp_law_pick : PSp) (sp_law_odd : PSp) (sp_law_some : PSp) (sp_law_curve : PSp) : WS := (wSeq (wIfS (wTest (wBin dEq (wVar 3) (wC (.int 1))))
  (wRet (wBin dAdd (wBin dAdd (wSl dSl (wVar 1) wNo (wPart (wVar 2))) (wTup (wCons (wCall sp_law_odd (wCons (wVar 0) wNil)) wNil))) (wSl dSl (wVar 1) (wPart (wVar 2)) wNo)))
  wNext)
  (wb_law_bent_4 w kl sp_law_pick sp_law_odd sp_law_some sp_law_curve))
def wb_law_bent_6 (w : World) (kl : Str → Addr) (sp_law_pick : PSp) (sp_law_odd : PSp) (sp_law_some : PSp) (sp_law_curve : PSp) : WS := (wSeq (wPar 2 3 (wCons (wCall sp_law_pick (wCons (wVar 0) (wCons (wBin dAdd (wCB rLenD (wCons (wVar 1) wNil)) (wC (.int 1))) wNil))) (wCons (wCall sp_law_pick (wCons (wVar 0) (wCons (wC (.int 9)) wNil))) wNil)))
  (wSeq (wIfS (wTest (wBin dEq (wVar 3) (wC (.int 0))))
  (wRet (wCall sp_law_some (wCons (wVar 0) (wCons (wLst (wCons (wCB rListD (wCons (wVar 1) wNil)) (wCons (wCall sp_law_odd (wCons (wVar 0) wNil)) (wCons (wSl dSl (wVar 1) wNo (wPart (wVar 2))) (wCons (wUn dRev (wVar 1)) wNil))))) wNil))))
  wNext)
  (wb_law_bent_5 w kl sp_law_pick sp_law_odd sp_law_some sp_law_curve)))
def wb_law_bent (w : World) (kl : Str → Addr) (sp_law_pick : PSp) (sp_law_odd : PSp) (sp_law_some : PSp) (sp_law_curve : PSp) : WS := (wSeq (wIfS (wNot (wTest (wCB rIsiD (wCons (wVar 1) (wCons (wC (.raw (.ty "tuple"))) wNil)))))
  (wRet (wVar 1))
  wNext)
  (wb_law_bent_6 w kl sp_law_pick sp_law_odd sp_law_some sp_law_curve))
theorem dv_law_bent {sp_law_pick : PSp} {sp_law_odd : PSp} {sp_law_some : PSp} {sp_law_curve : PSp} (e : En w kl K mg) (F_law_pick : Fn1 P w K mg base k "_law_pick" ["_law_bag_here", "_law_many"] sp_law_pick) (F_law_odd : Fn1 P w K mg base k "_law_odd" ["_law_bag_here"] sp_law_odd) (F_law_some : Fn1 P w K mg base k "_law_some" ["_law_bag_here", "_law_things"] sp_law_some) (F_law_curve : Fn1 P w K mg base k "_law_curve" ["_law_bag_here", "_law_size"] sp_law_curve) : Dv P w K mg base ["_law_bag_here", "_law_terms_here", "_law_at", "_law_way", "_law_other", "_law_term", "_law_part"] "_law_bent" st_law_bent k (wb_law_bent w kl sp_law_pick sp_law_odd sp_law_some sp_law_curve) := by
  intro f cd A outer s H E b
  have sc := sc_law_bent
  exact (sss_cons (ss_if (st_not (st_val (se_callB oc_isi (by rfl) e.b_isinstance PyProof.Rows.boot_isinstance (sa_cons (xv 1 (Or.inl rfl)) (sa_cons (se_type (by rfl) e.b_tuple PyProof.Rows.boot_tuple) sa_nil))))) (sss_one (ss_ret (xv 1 (Or.inl rfl)))) sss_nil)
    (sss_cons (ss_par (i := 2) (j := 3) rfl sc.nd rfl rfl (by decide) rfl rfl (sa_cons (xf F_law_pick b.hr b.tk (sa_cons (xv 0 (Or.inl rfl)) (sa_cons (se_bin od_add (se_callB oc_len (by rfl) e.b_len PySem.boot_len (sa_cons (xv 1 (Or.inl rfl)) sa_nil)) se_int) sa_nil))) (sa_cons (xf F_law_pick b.hr b.tk (sa_cons (xv 0 (Or.inl rfl)) (sa_cons se_int sa_nil))) sa_nil)) rfl)
    (sss_cons (ss_if (st_cmp (od_eq b.hr) (xv 3 (Or.inl rfl)) se_int (nomark _)) (sss_one (ss_ret (xf F_law_some b.hr b.tk (sa_cons (xv 0 (Or.inl rfl)) (sa_cons (se_lst (sa_cons (se_callTy oc_list (by rfl) e.b_list PyProof.Rows.boot_list (sa_cons (xv 1 (Or.inl rfl)) sa_nil)) (sa_cons (xf F_law_odd b.hr b.tk (sa_cons (xv 0 (Or.inl rfl)) sa_nil)) (sa_cons (se_slice osl (xv 1 (Or.inl rfl)) so_none (so_some (xv 2 (Or.inl rfl)))) (sa_cons (se_rev (xv 1 (Or.inl rfl))) sa_nil))))) sa_nil))))) sss_nil)
    (sss_cons (ss_if (st_cmp (od_eq b.hr) (xv 3 (Or.inl rfl)) se_int (nomark _)) (sss_one (ss_ret (se_bin od_add (se_bin od_add (se_slice osl (xv 1 (Or.inl rfl)) so_none (so_some (xv 2 (Or.inl rfl)))) (se_tup (sa_cons (xf F_law_odd b.hr b.tk (sa_cons (xv 0 (Or.inl rfl)) sa_nil)) sa_nil))) (se_slice osl (xv 1 (Or.inl rfl)) (so_some (xv 2 (Or.inl rfl))) so_none)))) sss_nil)
    (sss_cons (ss_if (st_cmp (od_eq b.hr) (xv 3 (Or.inl rfl)) se_int (nomark _)) (sss_one (ss_ret (se_bin od_add (se_bin od_add (se_slice osl (xv 1 (Or.inl rfl)) so_none (so_some (xv 2 (Or.inl rfl)))) (se_slice osl (xv 1 (Or.inl rfl)) (so_some (xv 2 (Or.inl rfl))) (so_some (se_bin od_add (xv 2 (Or.inl rfl)) se_int)))) (se_slice osl (xv 1 (Or.inl rfl)) (so_some (xv 2 (Or.inl rfl))) so_none)))) sss_nil)
    (sss_cons (ss_if (st_cmp (od_eq b.hr) (xv 3 (Or.inl rfl)) se_int (nomark _)) (sss_one (ss_ret (se_bin od_add (se_bin od_add (se_slice osl (xv 1 (Or.inl rfl)) so_none (so_some (xv 2 (Or.inl rfl)))) (se_rev (se_slice osl (xv 1 (Or.inl rfl)) (so_some (xv 2 (Or.inl rfl))) (so_some (se_bin od_add (xv 2 (Or.inl rfl)) se_int))))) (se_slice osl (xv 1 (Or.inl rfl)) (so_some (se_bin od_add (xv 2 (Or.inl rfl)) se_int)) so_none)))) sss_nil)
    (sss_cons (ss_if (st_cmp (od_eq b.hr) (xv 3 (Or.inl rfl)) se_int (nomark _)) (sss_one (ss_ret (se_bin od_add (se_slice osl (xv 1 (Or.inl rfl)) so_none (so_some (xv 2 (Or.inl rfl)))) (se_slice osl (xv 1 (Or.inl rfl)) (so_some (se_bin od_add (xv 2 (Or.inl rfl)) se_int)) so_none)))) sss_nil)
    (sss_cons (ss_if (SW.st (sw_and (st_cmp od_lt (xv 2 (Or.inl rfl)) (se_callB oc_len (by rfl) e.b_len PySem.boot_len (sa_cons (xv 1 (Or.inl rfl)) sa_nil)) (nomark _)) (sw_and (st_val (se_callB oc_isi (by rfl) e.b_isinstance PyProof.Rows.boot_isinstance (sa_cons (se_ix (oixA b.hr) (xv 1 (Or.inl rfl)) (xv 2 (Or.inl rfl))) (sa_cons (se_type (by rfl) e.b_tuple PyProof.Rows.boot_tuple) sa_nil)))) (sw_and1 (st_cmp (od_eq b.hr) (se_callB oc_len (by rfl) e.b_len PySem.boot_len (sa_cons (se_ix (oixA b.hr) (xv 1 (Or.inl rfl)) (xv 2 (Or.inl rfl))) sa_nil)) se_int (nomark _)))))) (sss_cons (ss_par (i := 5) (j := 6) rfl sc.nd rfl rfl (by decide) rfl rfl (sa_cons (se_ix (oixA b.hr) (xv 1 (Or.inl rfl)) (xv 2 (Or.inl rfl))) (sa_cons (xf F_law_pick b.hr b.tk (sa_cons (xv 0 (Or.inl rfl)) (sa_cons se_int sa_nil))) sa_nil)) rfl)
    (sss_cons (ss_set (i := 4) sc.nd rfl (Or.inl rfl) (se_bin od_add (se_bin od_add (se_slice osl (xv 5 (Or.inl rfl)) so_none (so_some (xv 6 (Or.inl rfl)))) (se_tup (sa_cons (xf F_law_odd b.hr b.tk (sa_cons (xv 0 (Or.inl rfl)) sa_nil)) sa_nil))) (se_slice osl (xv 5 (Or.inl rfl)) (so_some (se_bin od_add (xv 6 (Or.inl rfl)) se_int)) so_none)))
    (sss_one (ss_ret (se_bin od_add (se_bin od_add (se_slice osl (xv 1 (Or.inl rfl)) so_none (so_some (xv 2 (Or.inl rfl)))) (se_tup (sa_cons (xf F_law_some b.hr b.tk (sa_cons (xv 0 (Or.inl rfl)) (sa_cons (se_lst (sa_cons (xv 4 (Or.inl rfl)) (sa_cons (xv 4 (Or.inl rfl)) (sa_cons (se_callTy oc_list (by rfl) e.b_list PyProof.Rows.boot_list (sa_cons (xv 5 (Or.inl rfl)) sa_nil)) (sa_cons (se_slice osl (xv 5 (Or.inl rfl)) so_none (so_some se_int)) (sa_cons (se_bin od_add (xv 5 (Or.inl rfl)) (se_tup (sa_cons se_int sa_nil))) sa_nil)))))) sa_nil))) sa_nil))) (se_slice osl (xv 1 (Or.inl rfl)) (so_some (se_bin od_add (xv 2 (Or.inl rfl)) se_int)) so_none)))))) sss_nil)
    (sss_one (ss_ret (se_bin od_add (xv 1 (Or.inl rfl)) (xf F_law_curve b.hr b.tk (sa_cons (xv 0 (Or.inl rfl)) (sa_cons se_int sa_nil))))))))))))))
theorem bd_law_bent (fd : FuncData) (f : Addr) (F : FunD K "_law_bent" "_law_bent" (defArgs st_law_bent) (defBody st_law_bent) (defScope st_law_bent) [] [] f fd) : Binds K fd ["_law_bag_here", "_law_terms_here"] [] := F.bindsN fun _ _ _ _ _ _ us hl => match us, hl with | [_, _], _ => rfl
theorem mk_law_bent {sp_law_pick : PSp} {sp_law_odd : PSp} {sp_law_some : PSp} {sp_law_curve : PSp} {sp : PSp} (e : En w kl K mg) (t : Tx1 K mg "_law_bent" st_law_bent) (F_law_pick : Fn1 P w K mg base k "_law_pick" ["_law_bag_here", "_law_many"] sp_law_pick) (F_law_odd : Fn1 P w K mg base k "_law_odd" ["_law_bag_here"] sp_law_odd) (F_law_some : Fn1 P w K mg base k "_law_some" ["_law_bag_here", "_law_things"] sp_law_some) (F_law_curve : Fn1 P w K mg base k "_law_curve" ["_law_bag_here", "_law_size"] sp_law_curve) (len : ∀ ds S Q E, sp ds S Q E → ds.length = 2)
    (pure : ∀ ds S Q E, sp ds S Q E → (wb_law_bent w kl sp_law_pick sp_law_odd sp_law_some sp_law_curve) { nx := fun _ S' => End Q .non S', rt := End Q } (fun c fs _ S' => E c fs S') (startG ["_law_bag_here", "_law_terms_here", "_law_at", "_law_way", "_law_other", "_law_term", "_law_part"] ds) S) : Fn1 P w K mg base (k + 1) "_law_bent" ["_law_bag_here", "_law_terms_here"] sp :=
  fn1E t sc_law_bent (fun fd f F => F.bindsN fun _ _ _ _ _ _ us hl => match us, hl with | [_, _], _ => rfl) (dv_law_bent e F_law_pick F_law_odd F_law_some F_law_curve) len pure

/-! law -/
abbrev st_law : Stmt := (top 42)
theorem sc_law : FnScope ["_law_script", "_law_bag_here", "_law_turn", "_law_one", "_law_again", "_law_terms_here", "_law_others", "_law_thing", "_law_change"] ["_law_script"] (defScope st_law) := ⟨rfl, rfl, rfl, by decide +kernel, rfl, by decide +kernel, by decide +kernel⟩
def wb_law_0 (w : World) (kl : Str → Addr) (sp_law_bag : PSp) (sp_law_curve : PSp) (sp_law_told : PSp) (sp_law_is : PSp) (sp_Curve : CSp) (sp_law_pick : PSp) (sp_law_bent : PSp) (sp_law_due : PSp) (sp_Curve_eq : PSp) : WS := (wIfS (wNot (wTest (wCall sp_law_is (wCons (wCall sp_law_told (wCons (wVar 7) wNil)) (wCons (wCall sp_law_due (wCons (wVar 7) wNil)) wNil)))))
  (wRet (wC (.bl false)))
  wNext)
def wb_law_1 (w : World) (kl : Str → Addr) (sp_law_bag : PSp) (sp_law_curve : PSp) (sp_law_told : PSp) (sp_law_is : PSp) (sp_Curve : CSp) (sp_law_pick : PSp) (sp_law_bent : PSp) (sp_law_due : PSp) (sp_Curve_eq : PSp) : WS := (wFor (wiR1 (wCons (wC (.int 6)) wNil)) (wName 4)
  (wSeq (wSet 7 (wVar 5))
  (wSeq (wFor (wiR1 (wCons (wBin dAdd (wC (.int 1)) (wCall sp_law_pick (wCons (wVar 1) (wCons (wC (.int 3)) wNil)))) wNil)) (wName 8)
  (wSet 7 (wCall sp_law_bent (wCons (wVar 1) (wCons (wVar 7) wNil)))))
  (wb_law_0 w kl sp_law_bag sp_law_curve sp_law_told sp_law_is sp_Curve sp_law_pick sp_law_bent sp_law_due sp_Curve_eq))))
def wb_law_2 (w : World) (kl : Str → Addr) (sp_law_bag : PSp) (sp_law_curve : PSp) (sp_law_told : PSp) (sp_law_is : PSp) (sp_Curve : CSp) (sp_law_pick : PSp) (sp_law_bent : PSp) (sp_law_due : PSp) (sp_Curve_eq : PSp) : WS := (wSeq (wSet 3 (wCall (cSp (kl "Curve") sp_Curve) (wCons (wVar 5) wNil)))
  (wSeq (wIfS (wOr (wTest (wBin (dEqOwn (kl "Curve") sp_Curve_eq true) (wVar 3) (wCall (cSp (kl "Curve") sp_Curve) (wCons (wCB rTupD (wCons (wCB rListD (wCons (wVar 5) wNil)) wNil)) wNil)))) (wOr (wTest (wBin dNe (wBin (dEqOwn (kl "Curve") sp_Curve_eq false) (wVar 3) (wCall (cSp (kl "Curve") sp_Curve) (wCons (wVar 6) wNil))) (wBin dEq (wVar 5) (wVar 6)))) (wOr (wTest (wBin (dEqOwn (kl "Curve") sp_Curve_eq false) (wVar 3) (wVar 5))) (wTest (wBin (dEqOwn (kl "Curve") sp_Curve_eq false) (wVar 3) (wC (.int 0)))))))
  (wRet (wC (.bl false)))
  wNext)
  (wb_law_1 w kl sp_law_bag sp_law_curve sp_law_told sp_law_is sp_Curve sp_law_pick sp_law_bent sp_law_due sp_Curve_eq)))
def wb_law_3 (w : World) (kl : Str → Addr) (sp_law_bag : PSp) (sp_law_curve : PSp) (sp_law_told : PSp) (sp_law_is : PSp) (sp_Curve : CSp) (sp_law_pick : PSp) (sp_law_bent : PSp) (sp_law_due : PSp) (sp_Curve_eq : PSp) : WS := (wRet (wC (.bl true)))
def wb_law (w : World) (kl : Str → Addr) (sp_law_bag : PSp) (sp_law_curve : PSp) (sp_law_told : PSp) (sp_law_is : PSp) (sp_Curve : CSp) (sp_law_pick : PSp) (sp_law_bent : PSp) (sp_law_due : PSp) (sp_Curve_eq : PSp) : WS := (wSeq (wSet 1 (wCall sp_law_bag (wCons (wVar 0) wNil)))
  (wSeq (wFor (wiR1 (wCons (wC (.int 4)) wNil)) (wName 2)
  (wSeq (wPar 5 6 (wCons (wCall sp_law_curve (wCons (wVar 1) (wCons (wC (.int 8)) wNil))) (wCons (wCall sp_law_curve (wCons (wVar 1) (wCons (wC (.int 2)) wNil))) wNil)))
  (wSeq (wIfS (wNot (wTest (wCall sp_law_is (wCons (wCall sp_law_told (wCons (wVar 5) wNil)) (wCons (wTup (wCons (wC (.str "told")) (wCons (wVar 5) wNil))) wNil)))))
  (wRet (wC (.bl false)))
  wNext)
  (wb_law_2 w kl sp_law_bag sp_law_curve sp_law_told sp_law_is sp_Curve sp_law_pick sp_law_bent sp_law_due sp_Curve_eq))))
  (wb_law_3 w kl sp_law_bag sp_law_curve sp_law_told sp_law_is sp_Curve sp_law_pick sp_law_bent sp_law_due sp_Curve_eq)))
theorem dv_law {sp_law_bag : PSp} {sp_law_curve : PSp} {sp_law_told : PSp} {sp_law_is : PSp} {sp_Curve : CSp} {sp_law_pick : PSp} {sp_law_bent : PSp} {sp_law_due : PSp} {sp_Curve_eq : PSp} (e : En w kl K mg) (F_law_bag : Fn1 P w K mg base k "_law_bag" ["_law_script"] sp_law_bag) (F_law_curve : Fn1 P w K mg base k "_law_curve" ["_law_bag_here", "_law_size"] sp_law_curve) (F_law_told : Fn1 P w K mg base k "_law_told" ["_law_terms_here"] sp_law_told) (F_law_is : Fn1 P w K mg base k "_law_is" ["_law_thing", "_law_due_here"] sp_law_is) (F_Curve : KlU P w K mg base k "Curve" (kl "Curve") ["terms"] sp_Curve) (F_law_pick : Fn1 P w K mg base k "_law_pick" ["_law_bag_here", "_law_many"] sp_law_pick) (F_law_bent : Fn1 P w K mg base k "_law_bent" ["_law_bag_here", "_law_terms_here"] sp_law_bent) (F_law_due : Fn1 P w K mg base k "_law_due" ["_law_terms_here"] sp_law_due) (Q_Curve : EqFn P w K mg base k (kl "Curve") sp_Curve_eq) : Dv P w K mg base ["_law_script", "_law_bag_here", "_law_turn", "_law_one", "_law_again", "_law_terms_here", "_law_others", "_law_thing", "_law_change"] "law" st_law k (wb_law w kl sp_law_bag sp_law_curve sp_law_told sp_law_is sp_Curve sp_law_pick sp_law_bent sp_law_due sp_Curve_eq) := by
  intro f cd A outer s H E b
  have sc := sc_law
  exact (sss_cons (ss_set (i := 1) sc.nd rfl (Or.inl rfl) (xf F_law_bag b.hr b.tk (sa_cons (xv 0 (Or.inl rfl)) sa_nil)))
    (sss_cons (ss_for b.pa rfl (si_range1 (by rfl) e.b_range (sa_cons se_int sa_nil)) (sg_name (i := 2) sc.nd rfl (Or.inl rfl)) (sss_cons (ss_par (i := 5) (j := 6) rfl sc.nd rfl rfl (by decide) rfl rfl (sa_cons (xf F_law_curve b.hr b.tk (sa_cons (xv 1 (Or.inl rfl)) (sa_cons se_int sa_nil))) (sa_cons (xf F_law_curve b.hr b.tk (sa_cons (xv 1 (Or.inl rfl)) (sa_cons se_int sa_nil))) sa_nil)) rfl)
    (sss_cons (ss_if (st_not (st_val (xf F_law_is b.hr b.tk (sa_cons (xf F_law_told b.hr b.tk (sa_cons (xv 5 (Or.inl rfl)) sa_nil)) (sa_cons (se_tup (sa_cons se_str (sa_cons (xv 5 (Or.inl rfl)) sa_nil))) sa_nil))))) (sss_one (ss_ret se_bl)) sss_nil)
    (sss_cons (ss_set (i := 3) sc.nd rfl (Or.inl rfl) (xku F_Curve b.hr b.tk (sa_cons (xv 5 (Or.inl rfl)) sa_nil)))
    (sss_cons (ss_if (SW.st (sw_or (st_cmp (od_neF Q_Curve b.hr) (xv 3 (Or.inl rfl)) (xku F_Curve b.hr b.tk (sa_cons (se_callTy oc_tup (by rfl) e.b_tuple PyProof.Rows.boot_tuple (sa_cons (se_callTy oc_list (by rfl) e.b_list PyProof.Rows.boot_list (sa_cons (xv 5 (Or.inl rfl)) sa_nil)) sa_nil)) sa_nil)) (nomark _)) (sw_or (st_cmp (od_ne b.hr) (se_cmp (od_eqF Q_Curve b.hr) (xv 3 (Or.inl rfl)) (xku F_Curve b.hr b.tk (sa_cons (xv 6 (Or.inl rfl)) sa_nil)) (nomark _)) (se_cmp (od_eq b.hr) (xv 5 (Or.inl rfl)) (xv 6 (Or.inl rfl)) (nomark _)) (nomark _)) (sw_or (st_cmp (od_eqF Q_Curve b.hr) (xv 3 (Or.inl rfl)) (xv 5 (Or.inl rfl)) (nomark _)) (sw_or1 (st_cmp (od_eqF Q_Curve b.hr) (xv 3 (Or.inl rfl)) se_int (nomark _))))))) (sss_one (ss_ret se_bl)) sss_nil)
    (sss_one (ss_for b.pa rfl (si_range1 (by rfl) e.b_range (sa_cons se_int sa_nil)) (sg_name (i := 4) sc.nd rfl (Or.inl rfl)) (sss_cons (ss_set (i := 7) sc.nd rfl (Or.inl rfl) (xv 5 (Or.inl rfl)))
    (sss_cons (ss_for b.pa rfl (si_range1 (by rfl) e.b_range (sa_cons (se_bin od_add se_int (xf F_law_pick b.hr b.tk (sa_cons (xv 1 (Or.inl rfl)) (sa_cons se_int sa_nil)))) sa_nil)) (sg_name (i := 8) sc.nd rfl (Or.inl rfl)) (sss_one (ss_set (i := 7) sc.nd rfl (Or.inl rfl) (xf F_law_bent b.hr b.tk (sa_cons (xv 1 (Or.inl rfl)) (sa_cons (xv 7 (Or.inl rfl)) sa_nil))))) (fun _ _ _ hi hg hb => ps_for b.pa rfl hi hg hb))
    (sss_one (ss_if (st_not (st_val (xf F_law_is b.hr b.tk (sa_cons (xf F_law_told b.hr b.tk (sa_cons (xv 7 (Or.inl rfl)) sa_nil)) (sa_cons (xf F_law_due b.hr b.tk (sa_cons (xv 7 (Or.inl rfl)) sa_nil)) sa_nil))))) (sss_one (ss_ret se_bl)) sss_nil)))) (fun _ _ _ hi hg hb => ps_for b.pa rfl hi hg hb))))))) (fun _ _ _ hi hg hb => ps_for b.pa rfl hi hg hb))
    (sss_one (ss_ret se_bl))))
theorem bd_law (fd : FuncData) (f : Addr) (F : FunD K "law" "law" (defArgs st_law) (defBody st_law) (defScope st_law) [] [] f fd) : Binds K fd ["_law_script"] [] := F.bindsN fun _ _ _ _ _ _ us hl => match us, hl with | [_], _ => rfl
theorem mk_law {sp_law_bag : PSp} {sp_law_curve : PSp} {sp_law_told : PSp} {sp_law_is : PSp} {sp_Curve : CSp} {sp_law_pick : PSp} {sp_law_bent : PSp} {sp_law_due : PSp} {sp_Curve_eq : PSp} {sp : PSp} (e : En w kl K mg) (t : Tx1 K mg "law" st_law) (F_law_bag : Fn1 P w K mg base k "_law_bag" ["_law_script"] sp_law_bag) (F_law_curve : Fn1 P w K mg base k "_law_curve" ["_law_bag_here", "_law_size"] sp_law_curve) (F_law_told : Fn1 P w K mg base k "_law_told" ["_law_terms_here"] sp_law_told) (F_law_is : Fn1 P w K mg base k "_law_is" ["_law_thing", "_law_due_here"] sp_law_is) (F_Curve : KlU P w K mg base k "Curve" (kl "Curve") ["terms"] sp_Curve) (F_law_pick : Fn1 P w K mg base k "_law_pick" ["_law_bag_here", "_law_many"] sp_law_pick) (F_law_bent : Fn1 P w K mg base k "_law_bent" ["_law_bag_here", "_law_terms_here"] sp_law_bent) (F_law_due : Fn1 P w K mg base k "_law_due" ["_law_terms_here"] sp_law_due) (Q_Curve : EqFn P w K mg base k (kl "Curve") sp_Curve_eq) (len : ∀ ds S Q E, sp ds S Q E → ds.length = 1)
    (pure : ∀ ds S Q E, sp ds S Q E → (wb_law w kl sp_law_bag sp_law_curve sp_law_told sp_law_is sp_Curve sp_law_pick sp_law_bent sp_law_due sp_Curve_eq) { nx := fun _ S' => End Q .non S', rt := End Q } (fun c fs _ S' => E c fs S') (startG ["_law_script", "_law_bag_here", "_law_turn", "_law_one", "_law_again", "_law_terms_here", "_law_others", "_law_thing", "_law_change"] ds) S) : Fn1 P w K mg base (k + 1) "law" ["_law_script"] sp :=
  fn1E t sc_law (fun fd f F => F.bindsN fun _ _ _ _ _ _ us hl => match us, hl with | [_], _ => rfl) (dv_law e F_law_bag F_law_curve F_law_told F_law_is F_Curve F_law_pick F_law_bent F_law_due Q_Curve) len pure

end K01
end
/-! from K01b.lean -/
section
set_option exponentiation.threshold 10000
namespace K01
open PySem L2 PL
variable [TabCtx]
variable {P : Program} {w : World} {kl : Str → Addr} {K : PySem.W.Frag} {mg : Str → Option Value} {base : Heap} {k : Nat}
abbrev NN (Q : QK) : Nd := { nx := fun _ S' => Q .non S', rt := Q }
abbrev EE (E : EK) : EKS := fun c fs _ S' => E c fs S'
theorem iteB {b : Bool} {A B : Prop} (h1 : b = true → A) (h2 : b = false → B) : if b = true then A else B := by
  cases b with
  | false => exact h2 rfl
  | true => exact h1 rfl
theorem ite2 {c : Prop} [Decidable c] {A B : Prop} (h1 : c → A) (h2 : ¬ c → B) : if c then A else B := by
  by_cases h : c
  · rw [if_pos h]; exact h1 h
  · rw [if_neg h]; exact h2 h
/-- is_integer, is_within -/
def isI (d : D) : Bool := isa (tyn d) "int" && !isa (tyn d) "bool"
def sp_isint : PSp := fun ds S Q _ => ∃ d, ds = [d] ∧ isPl d = true ∧ Q (.bl (isI d)) S
theorem pure_is_integer : ∀ ds S Q E, sp_isint ds S Q E → (wb_is_integer w kl) (NN Q) (EE E) (startG ["thing"] ds) S := by
  rintro ds S Q E ⟨d, rfl, hd, hq⟩
  simp only [wb_is_integer, wRet, wSeq, wIfS, wSet, wVar, wC, wBin, wTest, wAnd, wOr, wNot, wAndV, wOrV, wNotV, wIf, wCall, wCons, wNil, wTup, wLst, wLstM, wCB, wUn, wChain, wSl, wPart, wNo, wAsg, wgTup, wgCons, wgNil, wName, wPar, wSetIx, wAug, wDrop, wNext, wNever, wBM, wLstR1, EK.of, startG, List.map_cons, List.map_nil, List.length_cons, List.length_nil, Nat.reduceAdd, Nat.reduceSub, List.replicate, List.cons_append, List.nil_append, List.getElem?_cons_zero, List.getElem?_cons_succ, List.set_cons_zero, List.set_cons_succ, Option.some.injEq, exists_eq_left', exists_eq_left, D.bl.injEq, D.int.injEq, D.tup.injEq, D.lst.injEq, D.str.injEq, exists_and_left, if_true, Bool.false_eq_true, if_false, true_and, and_true, Int.cast_ofNat_Int, Int.reduceLT, Int.reduceLE, Int.reduceEq, Int.reduceNeg, Int.reduceAdd, Int.reduceSub, decide_true, decide_false, decide_eq_true_eq, List.getElem?_nil, reduceCtorEq, false_and, exists_false, dI_i, dIC_i, dB_i, dNeg_i, dAdd_i, dAdd_s, dAdd_t, dAdd_l, dMul_i, dMul_l, dEq_i, dEq_s, dEq_b, dNe_i, dNe_s, dNe_b, dIsN_n, dIsN_i, dIsN_l, dIsN_t, dNotN_n, dNotN_i, dNotN_l, dNotN_t, dRev_t, dIx_t, dIx_l, atI_0, atI_1, atI_2, atI_3, atI_4, rLen_s, rLen_t, rLen_l, rLen_c, rInt_i, rInt_b, rAbs_i, rList_t, rList_l, rLen_put, dIx_put, tyM_put, dIn_s, Bool.not_true, Bool.not_false, rIsi_int hd, rIsi_bool hd]
  refine iteB (fun h => ?_) fun h => ?_
  · have : isI d = !isa (tyn d) "bool" := by unfold isI; rw [h, Bool.true_and]
    rw [this] at hq
    exact hq
  · have : isI d = false := by unfold isI; rw [h, Bool.false_and]
    rw [this] at hq
    exact hq
theorem ok_is_integer (e : En w kl K mg) (t : Tx1 K mg "is_integer" st_is_integer) : Fn1 P w K mg base 1 "is_integer" ["thing"] sp_isint :=
  mk_is_integer (k := 0) e t (fun ds S Q E ⟨d, h, _⟩ => by rw [h]; rfl) fun ds S Q E ⟨d, h1, h2, h3⟩ => pure_is_integer ds S _ E ⟨d, h1, h2, end_id h3⟩
/-- divisor_of: the greatest common divisor -/
def sp_gcd : PSp := fun ds S Q _ => ∃ a b : Int, ds = [.int a, .int b] ∧ Q (.int (Int.gcd a b : Nat)) S
theorem pure_divisor_of : ∀ ds S Q E, sp_gcd ds S Q E → (wb_divisor_of w kl) (NN Q) (EE E) (startG ["one", "other"] ds) S := by
  rintro ds S Q E ⟨a, b, rfl, hq⟩
  simp only [wb_divisor_of, wWhile, wRet, wSeq, wIfS, wSet, wVar, wC, wBin, wTest, wAnd, wOr, wNot, wAndV, wOrV, wNotV, wIf, wCall, wCons, wNil, wTup, wLst, wLstM, wCB, wUn, wChain, wSl, wPart, wNo, wAsg, wgTup, wgCons, wgNil, wName, wPar, wSetIx, wAug, wDrop, wNext, wNever, wBM, wLstR1, EK.of, startG, List.map_cons, List.map_nil, List.length_cons, List.length_nil, Nat.reduceAdd, Nat.reduceSub, List.replicate, List.cons_append, List.nil_append, List.getElem?_cons_zero, List.getElem?_cons_succ, List.set_cons_zero, List.set_cons_succ, Option.some.injEq, exists_eq_left', exists_eq_left, D.bl.injEq, D.int.injEq, D.tup.injEq, D.lst.injEq, D.str.injEq, exists_and_left, if_true, Bool.false_eq_true, if_false, true_and, and_true, Int.cast_ofNat_Int, Int.reduceLT, Int.reduceLE, Int.reduceEq, Int.reduceNeg, Int.reduceAdd, Int.reduceSub, decide_true, decide_false, decide_eq_true_eq, List.getElem?_nil, reduceCtorEq, false_and, exists_false, dI_i, dIC_i, dB_i, dNeg_i, dAdd_i, dAdd_s, dAdd_t, dAdd_l, dMul_i, dMul_l, dEq_i, dEq_s, dEq_b, dNe_i, dNe_s, dNe_b, dIsN_n, dIsN_i, dIsN_l, dIsN_t, dNotN_n, dNotN_i, dNotN_l, dNotN_t, dRev_t, dIx_t, dIx_l, atI_0, atI_1, atI_2, atI_3, atI_4, rLen_s, rLen_t, rLen_l, rLen_c, rInt_i, rInt_b, rAbs_i, rList_t, rList_l, rLen_put, dIx_put, tyM_put, dIn_s, Bool.not_true, Bool.not_false]
  refine ⟨_, _, rfl, fun m Γ S' => ∃ x y : Nat, Γ = [some (.int (x : Nat)), some (.int (y : Nat))] ∧ S' = S ∧ m = y ∧ Nat.gcd x y = Int.gcd a b, ⟨b.natAbs, a.natAbs, b.natAbs, ?_, rfl, rfl, rfl⟩, ?_⟩
  · have h1 : (if a < 0 then -a else a) = (a.natAbs : Int) := by split <;> omega
    have h2 : (if b < 0 then -b else b) = (b.natAbs : Int) := by split <;> omega
    rw [h1, h2]
  · rintro m Γ S' ⟨x, y, rfl, rfl, rfl, hg⟩
    refine ⟨_, rfl, _, _, rfl, rfl, _, rfl, iteB (fun h => ?_) fun h => ?_⟩
    · have hy : 0 < m := by simpa using h
      refine ⟨fun Γ' S'' => Γ' = [some (.int (m : Nat)), some (.int ((x % m : Nat) : Int))] ∧ S'' = S', ?_, _, rfl, _, rfl, _, rfl, _, _, rfl, rfl, ?_, _, _, rfl, ?_, rfl⟩
      · rintro Γ' S'' ⟨rfl, rfl⟩
        refine ⟨x % m, Nat.mod_lt _ hy, m, x % m, rfl, rfl, rfl, ?_⟩
        rw [← hg, Nat.gcd_comm x m, Nat.gcd_rec m x, Nat.gcd_comm]
      · omega
      · have : (x : Int).fmod m = ((x % m : Nat) : Int) := by
          rw [Int.fmod_eq_emod_of_nonneg _ (by omega)]
          simp
        show [some (D.int (m : Int)), some (D.int ((x : Int).fmod (m : Int)))] = _
        rw [this]
    · have hy : m = 0 := by simpa using h
      subst hy
      rw [Nat.gcd_zero_right] at hg
      refine ⟨_, rfl, ?_⟩
      rw [hg]
      exact hq
theorem ok_divisor_of (e : En w kl K mg) (t : Tx1 K mg "divisor_of" st_divisor_of) : Fn1 P w K mg base 1 "divisor_of" ["one", "other"] sp_gcd :=
  mk_divisor_of (k := 0) e t (fun ds S Q E ⟨a, b, h, _⟩ => by rw [h]; rfl) fun ds S Q E ⟨a, b, h1, h2⟩ => pure_divisor_of ds S _ E ⟨a, b, h1, end_id h2⟩
theorem pure_law_common : ∀ ds S Q E, sp_gcd ds S Q E → (wb_law_common w kl) (NN Q) (EE E) (startG ["_law_one", "_law_other"] ds) S := by
  rintro ds S Q E ⟨a, b, rfl, hq⟩
  simp only [wb_law_common, wWhile, wRet, wSeq, wIfS, wSet, wVar, wC, wBin, wTest, wAnd, wOr, wNot, wAndV, wOrV, wNotV, wIf, wCall, wCons, wNil, wTup, wLst, wLstM, wCB, wUn, wChain, wSl, wPart, wNo, wAsg, wgTup, wgCons, wgNil, wName, wPar, wSetIx, wAug, wDrop, wNext, wNever, wBM, wLstR1, EK.of, startG, List.map_cons, List.map_nil, List.length_cons, List.length_nil, Nat.reduceAdd, Nat.reduceSub, List.replicate, List.cons_append, List.nil_append, List.getElem?_cons_zero, List.getElem?_cons_succ, List.set_cons_zero, List.set_cons_succ, Option.some.injEq, exists_eq_left', exists_eq_left, D.bl.injEq, D.int.injEq, D.tup.injEq, D.lst.injEq, D.str.injEq, exists_and_left, if_true, Bool.false_eq_true, if_false, true_and, and_true, Int.cast_ofNat_Int, Int.reduceLT, Int.reduceLE, Int.reduceEq, Int.reduceNeg, Int.reduceAdd, Int.reduceSub, decide_true, decide_false, decide_eq_true_eq, List.getElem?_nil, reduceCtorEq, false_and, exists_false, dI_i, dIC_i, dB_i, dNeg_i, dAdd_i, dAdd_s, dAdd_t, dAdd_l, dMul_i, dMul_l, dEq_i, dEq_s, dEq_b, dNe_i, dNe_s, dNe_b, dIsN_n, dIsN_i, dIsN_l, dIsN_t, dNotN_n, dNotN_i, dNotN_l, dNotN_t, dRev_t, dIx_t, dIx_l, atI_0, atI_1, atI_2, atI_3, atI_4, rLen_s, rLen_t, rLen_l, rLen_c, rInt_i, rInt_b, rAbs_i, rList_t, rList_l, rLen_put, dIx_put, tyM_put, dIn_s, Bool.not_true, Bool.not_false]
  refine ⟨_, _, rfl, fun m Γ S' => ∃ x y : Nat, Γ = [some (.int (x : Nat)), some (.int (y : Nat))] ∧ S' = S ∧ m = y ∧ Nat.gcd x y = Int.gcd a b, ⟨b.natAbs, a.natAbs, b.natAbs, ?_, rfl, rfl, rfl⟩, ?_⟩
  · have h1 : (if a < 0 then -a else a) = (a.natAbs : Int) := by split <;> omega
    have h2 : (if b < 0 then -b else b) = (b.natAbs : Int) := by split <;> omega
    rw [h1, h2]
  · rintro m Γ S' ⟨x, y, rfl, rfl, rfl, hg⟩
    refine ⟨_, rfl, _, _, rfl, rfl, _, rfl, iteB (fun h => ?_) fun h => ?_⟩
    · have hy : 0 < m := by simpa using h
      refine ⟨fun Γ' S'' => Γ' = [some (.int (m : Nat)), some (.int ((x % m : Nat) : Int))] ∧ S'' = S', ?_, _, rfl, _, rfl, _, rfl, _, rfl, _, _, rfl, rfl, ?_, _, _, rfl, ?_, rfl⟩
      · rintro Γ' S'' ⟨rfl, rfl⟩
        refine ⟨x % m, Nat.mod_lt _ hy, m, x % m, rfl, rfl, rfl, ?_⟩
        rw [← hg, Nat.gcd_comm x m, Nat.gcd_rec m x, Nat.gcd_comm]
      · omega
      · have : (x : Int).fmod m = ((x % m : Nat) : Int) := by
          rw [Int.fmod_eq_emod_of_nonneg _ (by omega)]
          simp
        show [some (D.int (m : Int)), some (D.int ((x : Int).fmod (m : Int)))] = _
        rw [this]
    · have hy : m = 0 := by simpa using h
      subst hy
      rw [Nat.gcd_zero_right] at hg
      refine ⟨_, rfl, ?_⟩
      rw [hg]
      exact hq
theorem ok_law_common (e : En w kl K mg) (t : Tx1 K mg "_law_common" st_law_common) : Fn1 P w K mg base 1 "_law_common" ["_law_one", "_law_other"] sp_gcd :=
  mk_law_common (k := 0) e t (fun ds S Q E ⟨a, b, h, _⟩ => by rw [h]; rfl) fun ds S Q E ⟨a, b, h1, h2⟩ => pure_law_common ds S _ E ⟨a, b, h1, end_id h2⟩
theorem dDiv_i {i j : Int} {S : Sto} {Q : QK} : dDiv (.int i) (.int j) S Q ↔ CDivA i j ∧ Q (.int (i.fdiv j)) S := ⟨fun ⟨a, b, h1, h2, h3, h4⟩ => by cases h1; cases h2; exact ⟨h3, h4⟩, fun ⟨h3, h4⟩ => ⟨i, j, rfl, rfl, h3, h4⟩⟩
theorem bits_lt {i : Int} {n : Nat} (h : i.natAbs < 2 ^ n) : Builtin.Int.intBits i ≤ n := by
  unfold Builtin.Int.intBits
  split
  · exact Nat.zero_le _
  · rename_i z
    have z' : i.natAbs ≠ 0 := by
      intro e
      apply z
      have : i = 0 := by omega
      rw [this]; rfl
    exact (Nat.log2_lt z').mpr h
theorem mulOk_s {i j : Int} (h1 : i.natAbs < 2 ^ 5000) (h2 : j.natAbs < 2 ^ 5000) : IntMulOk i j := by
  have a := bits_lt h1
  have b := bits_lt h2
  have : Builtin.Int.intTooBig (Builtin.Int.intBits i + Builtin.Int.intBits j) = false := by
    unfold Builtin.Int.intTooBig
    have : (bitsLine : Int) = 2 ^ 27 := rfl
    simp only [this, decide_eq_false_iff_not]
    omega
  unfold IntMulOk
  rw [this, Bool.and_false]
  exact Bool.false_ne_true
/-! things: what the law hands to the program -/
/-- a thing: at most m in each, at most n deep, all numbers small -/
inductive Th : Nat → Nat → D → Prop where
  | non {m n : Nat} : Th m n .non
  | bl {m n : Nat} (b : Bool) : Th m n (.bl b)
  | int {m n : Nat} (i : Int) (h : i.natAbs < 10 ^ 40) : Th m n (.int i)
  | str {m n : Nat} (s : Str) : Th m n (.str s)
  | dct {m n : Nat} : Th m n (.dct [])
  | tup {m n : Nat} {ds : List D} (h : ∀ d ∈ ds, Th m n d) (hz : ds.length ≤ m) : Th m (n + 1) (.tup ds)
  | lst {m n : Nat} {ds : List D} (h : ∀ d ∈ ds, Th m n d) (hz : ds.length ≤ m) : Th m (n + 1) (.lst ds)
theorem Th.pl {m n : Nat} {d : D} (h : Th m n d) : isPl d = true := by cases h <;> rfl
theorem Th.mono {m n m' n' : Nat} {d : D} (h : Th m n d) (hm : m ≤ m') (hn : n ≤ n') : Th m' n' d := by
  induction h generalizing n' with
  | non => exact .non
  | bl b => exact .bl b
  | int i h => exact .int i h
  | str s => exact .str s
  | dct => exact .dct
  | tup h hz ih =>
    obtain ⟨n', rfl⟩ : ∃ j, n' = j + 1 := ⟨n' - 1, by omega⟩
    exact .tup (fun d hd => ih d hd (by omega)) (by omega)
  | lst h hz ih =>
    obtain ⟨n', rfl⟩ : ∃ j, n' = j + 1 := ⟨n' - 1, by omega⟩
    exact .lst (fun d hd => ih d hd (by omega)) (by omega)
theorem b40 {i : Int} (h : i.natAbs < 10 ^ 40) : i.natAbs < 2 ^ 5000 := Nat.lt_trans h (Nat.lt_of_lt_of_le (show 10 ^ 40 < 2 ^ 140 by decide) (Nat.pow_le_pow_right (by decide) (by decide)))
/-- a fraction in lowest terms -/
def frB : D → Bool
  | .tup [.int a, .int b] => decide (0 < b) && decide (Int.gcd a b = 1)
  | _ => false
def sp_isfr : PSp := fun ds S Q _ => ∃ d m n, ds = [d] ∧ Th m n d ∧ Q (.bl (frB d)) S
theorem isI_int (i : Int) : isI (.int i) = true := rfl
theorem isI_of {m n : Nat} {d : D} (h : Th m n d) (hi : isI d = true) : ∃ i, d = .int i ∧ i.natAbs < 10 ^ 40 := by
  cases h with
  | int i h => exact ⟨i, rfl, h⟩
  | _ => simp [isI, tyn, isa] at hi
theorem tup_of {m n : Nat} {d : D} (h : Th m n d) (ht : isa (tyn d) "tuple" = true) : ∃ ds, d = .tup ds ∧ ds.length ≤ m ∧ ∀ x ∈ ds, Th m (n - 1) x := by
  cases h with
  | tup h hz => exact ⟨_, rfl, hz, h⟩
  | _ => simp [tyn, isa] at ht
end K01
end
/-! from K01c.lean -/
section
set_option exponentiation.threshold 10000
namespace K01
open PySem L2 PL
variable [TabCtx]
variable {P : Program} {w : World} {kl : Str → Addr} {K : PySem.W.Frag} {mg : Str → Option Value} {base : Heap} {k : Nat}
theorem len2 {α : Type} {ds : List α} (h : ds.length = 2) : ∃ a b, ds = [a, b] := match ds, h with | [a, b], _ => ⟨a, b, rfl⟩
theorem len3 {α : Type} {ds : List α} (h : ds.length = 3) : ∃ a b c, ds = [a, b, c] := match ds, h with | [a, b, c], _ => ⟨a, b, c, rfl⟩
theorem frB_no {d : D} (h : ∀ a b : Int, d ≠ .tup [.int a, .int b]) : frB d = false := by
  unfold frB
  split
  · rename_i a b
    exact absurd rfl (h a b)
  · rfl
theorem ok_is_fraction (e : En w kl K mg) (t : Tx1 K mg "is_fraction" st_is_fraction) (F1 : Fn1 P w K mg base 1 "is_integer" ["thing"] sp_isint) (F2 : Fn1 P w K mg base 1 "divisor_of" ["one", "other"] sp_gcd) : Fn1 P w K mg base 2 "is_fraction" ["thing"] sp_isfr := by
  refine mk_is_fraction (k := 1) e t F1 F2 (fun ds S Q E => ?_) (fun ds S Q E => ?_)
  · rintro ⟨d, m, n, rfl, _⟩
    rfl
  · rintro ⟨d, m, n, rfl, hd, hq⟩
    have hp := hd.pl
    simp only [wb_is_fraction, wRet, wSeq, wIfS, wSet, wVar, wC, wBin, wTest, wAnd, wOr, wNot, wAndV, wOrV, wNotV, wIf, wCall, wCons, wNil, wTup, wLst, wLstM, wCB, wUn, wChain, wSl, wPart, wNo, wAsg, wgTup, wgCons, wgNil, wName, wPar, wSetIx, wAug, wDrop, wNext, wNever, wBM, wLstR1, EK.of, startG, List.map_cons, List.map_nil, List.length_cons, List.length_nil, Nat.reduceAdd, Nat.reduceSub, List.replicate, List.cons_append, List.nil_append, List.getElem?_cons_zero, List.getElem?_cons_succ, List.set_cons_zero, List.set_cons_succ, Option.some.injEq, exists_eq_left', exists_eq_left, D.bl.injEq, D.int.injEq, D.tup.injEq, D.lst.injEq, D.str.injEq, exists_and_left, if_true, Bool.false_eq_true, if_false, true_and, and_true, Int.cast_ofNat_Int, Int.reduceLT, Int.reduceLE, Int.reduceEq, Int.reduceNeg, Int.reduceAdd, Int.reduceSub, decide_true, decide_false, decide_eq_true_eq, List.getElem?_nil, reduceCtorEq, false_and, exists_false, dI_i, dIC_i, dB_i, dNeg_i, dAdd_i, dAdd_s, dAdd_t, dAdd_l, dMul_i, dMul_l, dEq_i, dEq_s, dEq_b, dNe_i, dNe_s, dNe_b, dIsN_n, dIsN_i, dIsN_l, dIsN_t, dNotN_n, dNotN_i, dNotN_l, dNotN_t, dRev_t, dIx_t, dIx_l, atI_0, atI_1, atI_2, atI_3, atI_4, rLen_s, rLen_t, rLen_l, rLen_c, rInt_i, rInt_b, rAbs_i, rList_t, rList_l, rLen_put, dIx_put, tyM_put, dIn_s, Bool.not_true, Bool.not_false, rIsi_tuple hp]
    have no : frB d = false → PL.End Q (.bl false) S := fun h => by rw [h] at hq; exact end_id hq
    refine iteB (fun h => ?_) fun h => ?_
    · exact no (frB_no fun a b e => by rw [e] at h; simp [tyn, isa] at h)
    obtain ⟨ds, rfl, hl, hx⟩ := tup_of hd (by simpa using h)
    simp only [wRet, wSeq, wIfS, wSet, wVar, wC, wBin, wTest, wAnd, wOr, wNot, wAndV, wOrV, wNotV, wIf, wCall, wCons, wNil, wTup, wLst, wLstM, wCB, wUn, wChain, wSl, wPart, wNo, wAsg, wgTup, wgCons, wgNil, wName, wPar, wSetIx, wAug, wDrop, wNext, wNever, wBM, wLstR1, EK.of, startG, List.map_cons, List.map_nil, List.length_cons, List.length_nil, Nat.reduceAdd, Nat.reduceSub, List.replicate, List.cons_append, List.nil_append, List.getElem?_cons_zero, List.getElem?_cons_succ, List.set_cons_zero, List.set_cons_succ, Option.some.injEq, exists_eq_left', exists_eq_left, D.bl.injEq, D.int.injEq, D.tup.injEq, D.lst.injEq, D.str.injEq, exists_and_left, if_true, Bool.false_eq_true, if_false, true_and, and_true, Int.cast_ofNat_Int, Int.reduceLT, Int.reduceLE, Int.reduceEq, Int.reduceNeg, Int.reduceAdd, Int.reduceSub, decide_true, decide_false, decide_eq_true_eq, List.getElem?_nil, reduceCtorEq, false_and, exists_false, dI_i, dIC_i, dB_i, dNeg_i, dAdd_i, dAdd_s, dAdd_t, dAdd_l, dMul_i, dMul_l, dEq_i, dEq_s, dEq_b, dNe_i, dNe_s, dNe_b, dIsN_n, dIsN_i, dIsN_l, dIsN_t, dNotN_n, dNotN_i, dNotN_l, dNotN_t, dRev_t, dIx_t, dIx_l, atI_0, atI_1, atI_2, atI_3, atI_4, rLen_s, rLen_t, rLen_l, rLen_c, rInt_i, rInt_b, rAbs_i, rList_t, rList_l, rLen_put, dIx_put, tyM_put, dIn_s, Bool.not_true, Bool.not_false, rLen_t]
    refine iteB (fun h2 => ?_) fun h2 => ?_
    · exact no (frB_no fun a b e => by cases e; simp at h2)
    have l2 : (ds.length : Int) = 2 := by simpa using h2
    obtain ⟨a, b, rfl⟩ := len2 (show ds.length = 2 by omega)
    simp only [wRet, wSeq, wIfS, wSet, wVar, wC, wBin, wTest, wAnd, wOr, wNot, wAndV, wOrV, wNotV, wIf, wCall, wCons, wNil, wTup, wLst, wLstM, wCB, wUn, wChain, wSl, wPart, wNo, wAsg, wgTup, wgCons, wgNil, wName, wPar, wSetIx, wAug, wDrop, wNext, wNever, wBM, wLstR1, EK.of, startG, List.map_cons, List.map_nil, List.length_cons, List.length_nil, Nat.reduceAdd, Nat.reduceSub, List.replicate, List.cons_append, List.nil_append, List.getElem?_cons_zero, List.getElem?_cons_succ, List.set_cons_zero, List.set_cons_succ, Option.some.injEq, exists_eq_left', exists_eq_left, D.bl.injEq, D.int.injEq, D.tup.injEq, D.lst.injEq, D.str.injEq, exists_and_left, if_true, Bool.false_eq_true, if_false, true_and, and_true, Int.cast_ofNat_Int, Int.reduceLT, Int.reduceLE, Int.reduceEq, Int.reduceNeg, Int.reduceAdd, Int.reduceSub, decide_true, decide_false, decide_eq_true_eq, List.getElem?_nil, reduceCtorEq, false_and, exists_false, dI_i, dIC_i, dB_i, dNeg_i, dAdd_i, dAdd_s, dAdd_t, dAdd_l, dMul_i, dMul_l, dEq_i, dEq_s, dEq_b, dNe_i, dNe_s, dNe_b, dIsN_n, dIsN_i, dIsN_l, dIsN_t, dNotN_n, dNotN_i, dNotN_l, dNotN_t, dRev_t, dIx_t, dIx_l, atI_0, atI_1, atI_2, atI_3, atI_4, rLen_s, rLen_t, rLen_l, rLen_c, rInt_i, rInt_b, rAbs_i, rList_t, rList_l, rLen_put, dIx_put, tyM_put, dIn_s, Bool.not_true, Bool.not_false, dIxA_t]
    have xa : Th m (n - 1) a := hx a (by simp)
    have xb : Th m (n - 1) b := hx b (by simp)
    refine ⟨a, rfl, xa.pl, _, rfl, iteB (fun h3 => ?_) fun h3 => ⟨b, rfl, xb.pl, _, rfl, iteB (fun h4 => ?_) fun h4 => ?_⟩⟩
    · exact no (frB_no fun i j e => by cases e; simp [isI_int] at h3)
    · exact no (frB_no fun i j e => by cases e; simp [isI_int] at h4)
    obtain ⟨i, rfl, hi⟩ := isI_of xa (by simpa using h3)
    obtain ⟨j, rfl, hj⟩ := isI_of xb (by simpa using h4)
    simp only [wb_is_fraction_0, wRet, wSeq, wIfS, wSet, wVar, wC, wBin, wTest, wAnd, wOr, wNot, wAndV, wOrV, wNotV, wIf, wCall, wCons, wNil, wTup, wLst, wLstM, wCB, wUn, wChain, wSl, wPart, wNo, wAsg, wgTup, wgCons, wgNil, wName, wPar, wSetIx, wAug, wDrop, wNext, wNever, wBM, wLstR1, EK.of, startG, List.map_cons, List.map_nil, List.length_cons, List.length_nil, Nat.reduceAdd, Nat.reduceSub, List.replicate, List.cons_append, List.nil_append, List.getElem?_cons_zero, List.getElem?_cons_succ, List.set_cons_zero, List.set_cons_succ, Option.some.injEq, exists_eq_left', exists_eq_left, D.bl.injEq, D.int.injEq, D.tup.injEq, D.lst.injEq, D.str.injEq, exists_and_left, if_true, Bool.false_eq_true, if_false, true_and, and_true, Int.cast_ofNat_Int, Int.reduceLT, Int.reduceLE, Int.reduceEq, Int.reduceNeg, Int.reduceAdd, Int.reduceSub, decide_true, decide_false, decide_eq_true_eq, List.getElem?_nil, reduceCtorEq, false_and, exists_false, dI_i, dIC_i, dB_i, dNeg_i, dAdd_i, dAdd_s, dAdd_t, dAdd_l, dMul_i, dMul_l, dEq_i, dEq_s, dEq_b, dNe_i, dNe_s, dNe_b, dIsN_n, dIsN_i, dIsN_l, dIsN_t, dNotN_n, dNotN_i, dNotN_l, dNotN_t, dRev_t, dIx_t, dIx_l, atI_0, atI_1, atI_2, atI_3, atI_4, rLen_s, rLen_t, rLen_l, rLen_c, rInt_i, rInt_b, rAbs_i, rList_t, rList_l, rLen_put, dIx_put, tyM_put, dIn_s, Bool.not_true, Bool.not_false, dIxA_t]
    have ef : frB (.tup [.int i, .int j]) = (decide (0 < j) && decide (Int.gcd i j = 1)) := rfl
    refine ite2 (fun h5 => ⟨i, j, rfl, ?_⟩) fun h5 => ?_
    · simp only [wRet, wSeq, wIfS, wSet, wVar, wC, wBin, wTest, wAnd, wOr, wNot, wAndV, wOrV, wNotV, wIf, wCall, wCons, wNil, wTup, wLst, wLstM, wCB, wUn, wChain, wSl, wPart, wNo, wAsg, wgTup, wgCons, wgNil, wName, wPar, wSetIx, wAug, wDrop, wNext, wNever, wBM, wLstR1, EK.of, startG, List.map_cons, List.map_nil, List.length_cons, List.length_nil, Nat.reduceAdd, Nat.reduceSub, List.replicate, List.cons_append, List.nil_append, List.getElem?_cons_zero, List.getElem?_cons_succ, List.set_cons_zero, List.set_cons_succ, Option.some.injEq, exists_eq_left', exists_eq_left, D.bl.injEq, D.int.injEq, D.tup.injEq, D.lst.injEq, D.str.injEq, exists_and_left, if_true, Bool.false_eq_true, if_false, true_and, and_true, Int.cast_ofNat_Int, Int.reduceLT, Int.reduceLE, Int.reduceEq, Int.reduceNeg, Int.reduceAdd, Int.reduceSub, decide_true, decide_false, decide_eq_true_eq, List.getElem?_nil, reduceCtorEq, false_and, exists_false, dI_i, dIC_i, dB_i, dNeg_i, dAdd_i, dAdd_s, dAdd_t, dAdd_l, dMul_i, dMul_l, dEq_i, dEq_s, dEq_b, dNe_i, dNe_s, dNe_b, dIsN_n, dIsN_i, dIsN_l, dIsN_t, dNotN_n, dNotN_i, dNotN_l, dNotN_t, dRev_t, dIx_t, dIx_l, atI_0, atI_1, atI_2, atI_3, atI_4, rLen_s, rLen_t, rLen_l, rLen_c, rInt_i, rInt_b, rAbs_i, rList_t, rList_l, rLen_put, dIx_put, tyM_put, dIn_s, Bool.not_true, Bool.not_false]
      rw [ef, decide_eq_true h5, Bool.true_and] at hq
      rw [show decide (((Int.gcd i j : Nat) : Int) = 1) = decide (Int.gcd i j = 1) from decide_eq_decide.mpr (by omega)]
      exact end_id hq
    · rw [ef, decide_eq_false h5, Bool.false_and] at hq
      exact end_id hq
theorem mulT {i j : Int} (hi : i.natAbs < 10 ^ 40) (hj : j.natAbs < 10 ^ 40) : IntMulOk i j := mulOk_s (b40 hi) (b40 hj)
/-- is_less, at two fractions -/
def sp_less : PSp := fun ds S Q _ => ∃ a b c d : Int, ds = [.tup [.int a, .int b], .tup [.int c, .int d]] ∧ a.natAbs < 10 ^ 40 ∧ b.natAbs < 10 ^ 40 ∧ c.natAbs < 10 ^ 40 ∧ d.natAbs < 10 ^ 40 ∧ Q (.bl (decide (a * d < c * b))) S
theorem ok_is_less (e : En w kl K mg) (t : Tx1 K mg "is_less" st_is_less) : Fn1 P w K mg base 1 "is_less" ["one", "other"] sp_less := by
  refine mk_is_less (k := 0) e t (fun ds S Q E => ?_) (fun ds S Q E => ?_)
  · rintro ⟨a, b, c, d, rfl, _⟩
    rfl
  · rintro ⟨a, b, c, d, rfl, h1, h2, h3, h4, hq⟩
    simp only [wb_is_less, wRet, wSeq, wIfS, wSet, wVar, wC, wBin, wTest, wAnd, wOr, wNot, wAndV, wOrV, wNotV, wIf, wCall, wCons, wNil, wTup, wLst, wLstM, wCB, wUn, wChain, wSl, wPart, wNo, wAsg, wgTup, wgCons, wgNil, wName, wPar, wSetIx, wAug, wDrop, wNext, wNever, wBM, wLstR1, EK.of, startG, List.map_cons, List.map_nil, List.length_cons, List.length_nil, Nat.reduceAdd, Nat.reduceSub, List.replicate, List.cons_append, List.nil_append, List.getElem?_cons_zero, List.getElem?_cons_succ, List.set_cons_zero, List.set_cons_succ, Option.some.injEq, exists_eq_left', exists_eq_left, D.bl.injEq, D.int.injEq, D.tup.injEq, D.lst.injEq, D.str.injEq, exists_and_left, if_true, Bool.false_eq_true, if_false, true_and, and_true, Int.cast_ofNat_Int, Int.reduceLT, Int.reduceLE, Int.reduceEq, Int.reduceNeg, Int.reduceAdd, Int.reduceSub, decide_true, decide_false, decide_eq_true_eq, List.getElem?_nil, reduceCtorEq, false_and, exists_false, dI_i, dIC_i, dB_i, dNeg_i, dAdd_i, dAdd_s, dAdd_t, dAdd_l, dMul_i, dMul_l, dEq_i, dEq_s, dEq_b, dNe_i, dNe_s, dNe_b, dIsN_n, dIsN_i, dIsN_l, dIsN_t, dNotN_n, dNotN_i, dNotN_l, dNotN_t, dRev_t, dIx_t, dIx_l, atI_0, atI_1, atI_2, atI_3, atI_4, rLen_s, rLen_t, rLen_l, rLen_c, rInt_i, rInt_b, rAbs_i, rList_t, rList_l, rLen_put, dIx_put, tyM_put, dIn_s, Bool.not_true, Bool.not_false, dIxA_t]
    exact ⟨mulT h1 h4, mulT h3 h2, end_id hq⟩
theorem ok_law_less (e : En w kl K mg) (t : Tx1 K mg "_law_less" st_law_less) : Fn1 P w K mg base 1 "_law_less" ["_law_one", "_law_other"] sp_less := by
  refine mk_law_less (k := 0) e t (fun ds S Q E => ?_) (fun ds S Q E => ?_)
  · rintro ⟨a, b, c, d, rfl, _⟩
    rfl
  · rintro ⟨a, b, c, d, rfl, h1, h2, h3, h4, hq⟩
    simp only [wb_law_less, wRet, wSeq, wIfS, wSet, wVar, wC, wBin, wTest, wAnd, wOr, wNot, wAndV, wOrV, wNotV, wIf, wCall, wCons, wNil, wTup, wLst, wLstM, wCB, wUn, wChain, wSl, wPart, wNo, wAsg, wgTup, wgCons, wgNil, wName, wPar, wSetIx, wAug, wDrop, wNext, wNever, wBM, wLstR1, EK.of, startG, List.map_cons, List.map_nil, List.length_cons, List.length_nil, Nat.reduceAdd, Nat.reduceSub, List.replicate, List.cons_append, List.nil_append, List.getElem?_cons_zero, List.getElem?_cons_succ, List.set_cons_zero, List.set_cons_succ, Option.some.injEq, exists_eq_left', exists_eq_left, D.bl.injEq, D.int.injEq, D.tup.injEq, D.lst.injEq, D.str.injEq, exists_and_left, if_true, Bool.false_eq_true, if_false, true_and, and_true, Int.cast_ofNat_Int, Int.reduceLT, Int.reduceLE, Int.reduceEq, Int.reduceNeg, Int.reduceAdd, Int.reduceSub, decide_true, decide_false, decide_eq_true_eq, List.getElem?_nil, reduceCtorEq, false_and, exists_false, dI_i, dIC_i, dB_i, dNeg_i, dAdd_i, dAdd_s, dAdd_t, dAdd_l, dMul_i, dMul_l, dEq_i, dEq_s, dEq_b, dNe_i, dNe_s, dNe_b, dIsN_n, dIsN_i, dIsN_l, dIsN_t, dNotN_n, dNotN_i, dNotN_l, dNotN_t, dRev_t, dIx_t, dIx_l, atI_0, atI_1, atI_2, atI_3, atI_4, rLen_s, rLen_t, rLen_l, rLen_c, rInt_i, rInt_b, rAbs_i, rList_t, rList_l, rLen_put, dIx_put, tyM_put, dIn_s, Bool.not_true, Bool.not_false, dIxA_t]
    exact ⟨mulT h1 h4, mulT h3 h2, end_id hq⟩
theorem frB_of {m n : Nat} {d : D} (h : Th m n d) (hf : frB d = true) : ∃ a b : Int, d = .tup [.int a, .int b] ∧ a.natAbs < 10 ^ 40 ∧ b.natAbs < 10 ^ 40 ∧ 0 < b ∧ Int.gcd a b = 1 := by
  unfold frB at hf
  split at hf
  · rename_i a b
    simp only [Bool.and_eq_true, decide_eq_true_eq] at hf
    cases h with
    | tup h hz =>
      have h1 := h (.int a) (by simp)
      have h2 := h (.int b) (by simp)
      cases h1 with
      | int _ h1 => cases h2 with
        | int _ h2 => exact ⟨a, b, rfl, h1, h2, hf.1, hf.2⟩
  · cases hf
def wiB (a b : Int) : D → Bool
  | .int i => decide (a ≤ i) && decide (i ≤ b)
  | _ => false
def ftB : D → Bool
  | .tup [.int a, .int b] => decide (-4 * b ≤ a) && decide (a ≤ 4 * b)
  | _ => false
/-- within so and so many -/
def sp_within : PSp := fun ds S Q _ => ∃ (d : D) (m n : Nat) (a b : Int), ds = [d, .int a, .int b] ∧ Th m n d ∧ Q (.bl (wiB a b d)) S
theorem ok_is_within (e : En w kl K mg) (t : Tx1 K mg "is_within" st_is_within) (F : Fn1 P w K mg base 1 "is_integer" ["thing"] sp_isint) : Fn1 P w K mg base 2 "is_within" ["thing", "least", "most"] sp_within := by
  refine mk_is_within (k := 1) e t F (fun ds S Q E ⟨d, m, n, a, b, h, _⟩ => by rw [h]; rfl) ?_
  rintro ds S Q E ⟨d, m, n, a, b, rfl, hd, hq⟩
  simp only [wb_is_within, wRet, wSeq, wIfS, wSet, wVar, wC, wBin, wTest, wAnd, wOr, wNot, wAndV, wOrV, wNotV, wIf, wCall, wCons, wNil, wTup, wLst, wLstM, wCB, wUn, wChain, wSl, wPart, wNo, wAsg, wgTup, wgCons, wgNil, wName, wPar, wSetIx, wAug, wDrop, wNext, wNever, wBM, wLstR1, EK.of, startG, List.map_cons, List.map_nil, List.length_cons, List.length_nil, Nat.reduceAdd, Nat.reduceSub, List.replicate, List.cons_append, List.nil_append, List.getElem?_cons_zero, List.getElem?_cons_succ, List.set_cons_zero, List.set_cons_succ, Option.some.injEq, exists_eq_left', exists_eq_left, D.bl.injEq, D.int.injEq, D.tup.injEq, D.lst.injEq, D.str.injEq, exists_and_left, if_true, Bool.false_eq_true, if_false, true_and, and_true, Int.cast_ofNat_Int, Int.reduceLT, Int.reduceLE, Int.reduceEq, Int.reduceNeg, Int.reduceAdd, Int.reduceSub, decide_true, decide_false, decide_eq_true_eq, List.getElem?_nil, reduceCtorEq, false_and, exists_false, dI_i, dIC_i, dB_i, dNeg_i, dAdd_i, dAdd_s, dAdd_t, dAdd_l, dMul_i, dMul_l, dEq_i, dEq_s, dEq_b, dNe_i, dNe_s, dNe_b, dIsN_n, dIsN_i, dIsN_l, dIsN_t, dNotN_n, dNotN_i, dNotN_l, dNotN_t, dRev_t, dIx_t, dIx_l, atI_0, atI_1, atI_2, atI_3, atI_4, rLen_s, rLen_t, rLen_l, rLen_c, rInt_i, rInt_b, rAbs_i, rList_t, rList_l, rLen_put, dIx_put, tyM_put, dIn_s, Bool.not_true, Bool.not_false]
  refine ⟨d, rfl, hd.pl, _, rfl, iteB (fun h => ?_) fun h => ?_⟩
  · obtain ⟨i, rfl, _⟩ := isI_of hd h
    simp only [wRet, wSeq, wIfS, wSet, wVar, wC, wBin, wTest, wAnd, wOr, wNot, wAndV, wOrV, wNotV, wIf, wCall, wCons, wNil, wTup, wLst, wLstM, wCB, wUn, wChain, wSl, wPart, wNo, wAsg, wgTup, wgCons, wgNil, wName, wPar, wSetIx, wAug, wDrop, wNext, wNever, wBM, wLstR1, EK.of, startG, List.map_cons, List.map_nil, List.length_cons, List.length_nil, Nat.reduceAdd, Nat.reduceSub, List.replicate, List.cons_append, List.nil_append, List.getElem?_cons_zero, List.getElem?_cons_succ, List.set_cons_zero, List.set_cons_succ, Option.some.injEq, exists_eq_left', exists_eq_left, D.bl.injEq, D.int.injEq, D.tup.injEq, D.lst.injEq, D.str.injEq, exists_and_left, if_true, Bool.false_eq_true, if_false, true_and, and_true, Int.cast_ofNat_Int, Int.reduceLT, Int.reduceLE, Int.reduceEq, Int.reduceNeg, Int.reduceAdd, Int.reduceSub, decide_true, decide_false, decide_eq_true_eq, List.getElem?_nil, reduceCtorEq, false_and, exists_false, dI_i, dIC_i, dB_i, dNeg_i, dAdd_i, dAdd_s, dAdd_t, dAdd_l, dMul_i, dMul_l, dEq_i, dEq_s, dEq_b, dNe_i, dNe_s, dNe_b, dIsN_n, dIsN_i, dIsN_l, dIsN_t, dNotN_n, dNotN_i, dNotN_l, dNotN_t, dRev_t, dIx_t, dIx_l, atI_0, atI_1, atI_2, atI_3, atI_4, rLen_s, rLen_t, rLen_l, rLen_c, rInt_i, rInt_b, rAbs_i, rList_t, rList_l, rLen_put, dIx_put, tyM_put, dIn_s, Bool.not_true, Bool.not_false]
    refine ite2 (fun h => ?_) fun h => ?_
    · rw [show wiB a b (.int i) = (decide (a ≤ i) && decide (i ≤ b)) from rfl, decide_eq_true h, Bool.true_and] at hq
      exact end_id hq
    · rw [show wiB a b (.int i) = (decide (a ≤ i) && decide (i ≤ b)) from rfl, decide_eq_false h, Bool.false_and] at hq
      exact end_id hq
  · have : wiB a b d = false := by
      cases d <;> first | rfl | (simp [isI_int] at h)
    rw [this] at hq
    exact end_id hq
/-- is_from_to, from -4 to 4 -/
def sp_fromto : PSp := fun ds S Q _ => ∃ (d : D) (m n : Nat), ds = [d, .int (-4), .int 4] ∧ Th m n d ∧ Q (.bl (frB d && ftB d)) S
theorem ok_is_from_to (e : En w kl K mg) (t : Tx1 K mg "is_from_to" st_is_from_to) (F : Fn1 P w K mg base 2 "is_fraction" ["thing"] sp_isfr) : Fn1 P w K mg base 3 "is_from_to" ["thing", "least", "most"] sp_fromto := by
  refine mk_is_from_to (k := 2) e t F (fun ds S Q E ⟨d, m, n, h, _⟩ => by rw [h]; rfl) ?_
  rintro ds S Q E ⟨d, m, n, rfl, hd, hq⟩
  simp only [wb_is_from_to, wRet, wSeq, wIfS, wSet, wVar, wC, wBin, wTest, wAnd, wOr, wNot, wAndV, wOrV, wNotV, wIf, wCall, wCons, wNil, wTup, wLst, wLstM, wCB, wUn, wChain, wSl, wPart, wNo, wAsg, wgTup, wgCons, wgNil, wName, wPar, wSetIx, wAug, wDrop, wNext, wNever, wBM, wLstR1, EK.of, startG, List.map_cons, List.map_nil, List.length_cons, List.length_nil, Nat.reduceAdd, Nat.reduceSub, List.replicate, List.cons_append, List.nil_append, List.getElem?_cons_zero, List.getElem?_cons_succ, List.set_cons_zero, List.set_cons_succ, Option.some.injEq, exists_eq_left', exists_eq_left, D.bl.injEq, D.int.injEq, D.tup.injEq, D.lst.injEq, D.str.injEq, exists_and_left, if_true, Bool.false_eq_true, if_false, true_and, and_true, Int.cast_ofNat_Int, Int.reduceLT, Int.reduceLE, Int.reduceEq, Int.reduceNeg, Int.reduceAdd, Int.reduceSub, decide_true, decide_false, decide_eq_true_eq, List.getElem?_nil, reduceCtorEq, false_and, exists_false, dI_i, dIC_i, dB_i, dNeg_i, dAdd_i, dAdd_s, dAdd_t, dAdd_l, dMul_i, dMul_l, dEq_i, dEq_s, dEq_b, dNe_i, dNe_s, dNe_b, dIsN_n, dIsN_i, dIsN_l, dIsN_t, dNotN_n, dNotN_i, dNotN_l, dNotN_t, dRev_t, dIx_t, dIx_l, atI_0, atI_1, atI_2, atI_3, atI_4, rLen_s, rLen_t, rLen_l, rLen_c, rInt_i, rInt_b, rAbs_i, rList_t, rList_l, rLen_put, dIx_put, tyM_put, dIn_s, Bool.not_true, Bool.not_false]
  refine ⟨d, m, n, rfl, hd, _, rfl, iteB (fun h => ?_) fun h => ?_⟩
  · obtain ⟨a, b, rfl, h1, h2, h3, h4⟩ := frB_of hd h
    rw [h, Bool.true_and] at hq
    have hq' : Q (.bl (decide (-4 * b ≤ a) && decide (a ≤ 4 * b))) S := hq
    simp only [wRet, wSeq, wIfS, wSet, wVar, wC, wBin, wTest, wAnd, wOr, wNot, wAndV, wOrV, wNotV, wIf, wCall, wCons, wNil, wTup, wLst, wLstM, wCB, wUn, wChain, wSl, wPart, wNo, wAsg, wgTup, wgCons, wgNil, wName, wPar, wSetIx, wAug, wDrop, wNext, wNever, wBM, wLstR1, EK.of, startG, List.map_cons, List.map_nil, List.length_cons, List.length_nil, Nat.reduceAdd, Nat.reduceSub, List.replicate, List.cons_append, List.nil_append, List.getElem?_cons_zero, List.getElem?_cons_succ, List.set_cons_zero, List.set_cons_succ, Option.some.injEq, exists_eq_left', exists_eq_left, D.bl.injEq, D.int.injEq, D.tup.injEq, D.lst.injEq, D.str.injEq, exists_and_left, if_true, Bool.false_eq_true, if_false, true_and, and_true, Int.cast_ofNat_Int, Int.reduceLT, Int.reduceLE, Int.reduceEq, Int.reduceNeg, Int.reduceAdd, Int.reduceSub, decide_true, decide_false, decide_eq_true_eq, List.getElem?_nil, reduceCtorEq, false_and, exists_false, dI_i, dIC_i, dB_i, dNeg_i, dAdd_i, dAdd_s, dAdd_t, dAdd_l, dMul_i, dMul_l, dEq_i, dEq_s, dEq_b, dNe_i, dNe_s, dNe_b, dIsN_n, dIsN_i, dIsN_l, dIsN_t, dNotN_n, dNotN_i, dNotN_l, dNotN_t, dRev_t, dIx_t, dIx_l, atI_0, atI_1, atI_2, atI_3, atI_4, rLen_s, rLen_t, rLen_l, rLen_c, rInt_i, rInt_b, rAbs_i, rList_t, rList_l, rLen_put, dIx_put, tyM_put, dIn_s, Bool.not_true, Bool.not_false, dIxA_t]
    refine ⟨mulOk_l (by decide) (by decide), ite2 (fun z => ⟨mulOk_l (by decide) (by decide), ?_⟩) fun z => ?_⟩
    · rw [decide_eq_true z, Bool.true_and] at hq'
      exact end_id hq'
    · rw [decide_eq_false z, Bool.false_and] at hq'
      exact end_id hq'
  · rw [h, Bool.false_and] at hq
    exact end_id hq
end K01
end
/-! from K01d.lean -/
section
set_option exponentiation.threshold 10000
namespace K01
open PySem L2 PL
variable [TabCtx]
variable {P : Program} {w : World} {kl : Str → Addr} {K : PySem.W.Frag} {mg : Str → Option Value} {base : Heap} {k : Nat}
abbrev fr (a b : Int) : D := .tup [.int a, .int b]
theorem dEq_fr {a b c d : Int} {S : Sto} {Q : QK} (h : Q (.bl (decide (a = c ∧ b = d))) S) : dEq (fr a b) (fr c d) S Q := by
  show dEqD _ _ S Q
  have p : ∀ a b : Int, toPy (fr a b) = some (.tuple [.int a, .int b]) := fun a b => by simp [toPy, toPyL]
  have s : ∀ a b : Int, SeqAt.shaped (.tuple [.int a, .int b]) = true := fun a b => by simp [SeqAt.shaped, PyData.canLay0, PyData.canLayAll0, PyData.depth, PyData.depthAll]
  refine ⟨_, _, p a b, p c d, s a b, s c d, ?_⟩
  have e : PyData.eqv (.tuple [.int a, .int b]) (.tuple [.int c, .int d]) = decide (a = c ∧ b = d) := by
    simp only [PyData.eqv, PyData.eqvAll, Bool.and_true]
    rw [Bool.eq_iff_iff]
    simp only [Bool.and_eq_true, beq_iff_eq, decide_eq_true_eq]
  rw [e]
  exact h
def nzB : D → Bool
  | .tup [.int a, .int _] => decide (a ≠ 0)
  | _ => false
def dnB : D → Bool
  | .tup [.int _, .int b] => decide (b ≤ 4)
  | _ => false
/-- a right term -/
def tmB : D → Bool
  | .tup [c, k, q] => frB c && (nzB c && (wiB 0 3 k && (frB q && (ftB q && dnB q))))
  | _ => false
def sp_term : PSp := fun ds S Q _ => ∃ d m n, ds = [d] ∧ Th m n d ∧ Q (.bl (tmB d)) S
theorem tmB_no {d : D} (h : ∀ a b c : D, d ≠ .tup [a, b, c]) : tmB d = false := by
  unfold tmB
  split
  · exact absurd rfl (h _ _ _)
  · rfl
theorem tm3 {c k q : D} : tmB (.tup [c, k, q]) = (frB c && (nzB c && (wiB 0 3 k && (frB q && (ftB q && dnB q))))) := rfl
theorem ok_is_term (e : En w kl K mg) (t : Tx1 K mg "is_term" st_is_term) (F1 : Fn1 P w K mg base 3 "is_fraction" ["thing"] sp_isfr) (F2 : Fn1 P w K mg base 3 "is_within" ["thing", "least", "most"] sp_within) (F3 : Fn1 P w K mg base 3 "is_from_to" ["thing", "least", "most"] sp_fromto) :
    Fn1 P w K mg base 4 "is_term" ["thing"] sp_term := by
  refine mk_is_term (k := 3) e t F1 F2 F3 (fun ds S Q E => ?_) (fun ds S Q E => ?_)
  · rintro ⟨d, m, n, rfl, _⟩
    rfl
  · rintro ⟨d, m, n, rfl, hd, hq⟩
    have hp := hd.pl
    simp only [wb_is_term, wRet, wSeq, wIfS, wSet, wVar, wC, wBin, wTest, wAnd, wOr, wNot, wAndV, wOrV, wNotV, wIf, wCall, wCons, wNil, wTup, wLst, wLstM, wCB, wUn, wChain, wSl, wPart, wNo, wAsg, wgTup, wgCons, wgNil, wName, wPar, wSetIx, wAug, wDrop, wNext, wNever, wBM, wLstR1, EK.of, startG, List.map_cons, List.map_nil, List.length_cons, List.length_nil, Nat.reduceAdd, Nat.reduceSub, List.replicate, List.cons_append, List.nil_append, List.getElem?_cons_zero, List.getElem?_cons_succ, List.set_cons_zero, List.set_cons_succ, Option.some.injEq, exists_eq_left', exists_eq_left, D.bl.injEq, D.int.injEq, D.tup.injEq, D.lst.injEq, D.str.injEq, exists_and_left, if_true, Bool.false_eq_true, if_false, true_and, and_true, Int.cast_ofNat_Int, Int.reduceLT, Int.reduceLE, Int.reduceEq, Int.reduceNeg, Int.reduceAdd, Int.reduceSub, decide_true, decide_false, decide_eq_true_eq, List.getElem?_nil, reduceCtorEq, false_and, exists_false, dI_i, dIC_i, dB_i, dNeg_i, dAdd_i, dAdd_s, dAdd_t, dAdd_l, dMul_i, dMul_l, dEq_i, dEq_s, dEq_b, dNe_i, dNe_s, dNe_b, dIsN_n, dIsN_i, dIsN_l, dIsN_t, dNotN_n, dNotN_i, dNotN_l, dNotN_t, dRev_t, dIx_t, dIx_l, atI_0, atI_1, atI_2, atI_3, atI_4, rLen_s, rLen_t, rLen_l, rLen_c, rInt_i, rInt_b, rAbs_i, rList_t, rList_l, rLen_put, dIx_put, tyM_put, dIn_s, Bool.not_true, Bool.not_false, rIsi_tuple hp]
    have no : tmB d = false → PL.End Q (.bl false) S := fun h => by rw [h] at hq; exact end_id hq
    refine iteB (fun h => ?_) fun h => ?_
    · exact no (tmB_no fun a b c e => by rw [e] at h; simp [tyn, isa] at h)
    obtain ⟨ds, rfl, hl, hx⟩ := tup_of hd (by simpa using h)
    simp only [wRet, wSeq, wIfS, wSet, wVar, wC, wBin, wTest, wAnd, wOr, wNot, wAndV, wOrV, wNotV, wIf, wCall, wCons, wNil, wTup, wLst, wLstM, wCB, wUn, wChain, wSl, wPart, wNo, wAsg, wgTup, wgCons, wgNil, wName, wPar, wSetIx, wAug, wDrop, wNext, wNever, wBM, wLstR1, EK.of, startG, List.map_cons, List.map_nil, List.length_cons, List.length_nil, Nat.reduceAdd, Nat.reduceSub, List.replicate, List.cons_append, List.nil_append, List.getElem?_cons_zero, List.getElem?_cons_succ, List.set_cons_zero, List.set_cons_succ, Option.some.injEq, exists_eq_left', exists_eq_left, D.bl.injEq, D.int.injEq, D.tup.injEq, D.lst.injEq, D.str.injEq, exists_and_left, if_true, Bool.false_eq_true, if_false, true_and, and_true, Int.cast_ofNat_Int, Int.reduceLT, Int.reduceLE, Int.reduceEq, Int.reduceNeg, Int.reduceAdd, Int.reduceSub, decide_true, decide_false, decide_eq_true_eq, List.getElem?_nil, reduceCtorEq, false_and, exists_false, dI_i, dIC_i, dB_i, dNeg_i, dAdd_i, dAdd_s, dAdd_t, dAdd_l, dMul_i, dMul_l, dEq_i, dEq_s, dEq_b, dNe_i, dNe_s, dNe_b, dIsN_n, dIsN_i, dIsN_l, dIsN_t, dNotN_n, dNotN_i, dNotN_l, dNotN_t, dRev_t, dIx_t, dIx_l, atI_0, atI_1, atI_2, atI_3, atI_4, rLen_s, rLen_t, rLen_l, rLen_c, rInt_i, rInt_b, rAbs_i, rList_t, rList_l, rLen_put, dIx_put, tyM_put, dIn_s, Bool.not_true, Bool.not_false, rLen_t]
    refine iteB (fun h2 => ?_) fun h2 => ?_
    · exact no (tmB_no fun a b c e => by cases e; simp at h2)
    have l2 : (ds.length : Int) = 3 := by simpa using h2
    obtain ⟨c, kx, q, rfl⟩ := len3 (show ds.length = 3 by omega)
    simp only [wRet, wSeq, wIfS, wSet, wVar, wC, wBin, wTest, wAnd, wOr, wNot, wAndV, wOrV, wNotV, wIf, wCall, wCons, wNil, wTup, wLst, wLstM, wCB, wUn, wChain, wSl, wPart, wNo, wAsg, wgTup, wgCons, wgNil, wName, wPar, wSetIx, wAug, wDrop, wNext, wNever, wBM, wLstR1, EK.of, startG, List.map_cons, List.map_nil, List.length_cons, List.length_nil, Nat.reduceAdd, Nat.reduceSub, List.replicate, List.cons_append, List.nil_append, List.getElem?_cons_zero, List.getElem?_cons_succ, List.set_cons_zero, List.set_cons_succ, Option.some.injEq, exists_eq_left', exists_eq_left, D.bl.injEq, D.int.injEq, D.tup.injEq, D.lst.injEq, D.str.injEq, exists_and_left, if_true, Bool.false_eq_true, if_false, true_and, and_true, Int.cast_ofNat_Int, Int.reduceLT, Int.reduceLE, Int.reduceEq, Int.reduceNeg, Int.reduceAdd, Int.reduceSub, decide_true, decide_false, decide_eq_true_eq, List.getElem?_nil, reduceCtorEq, false_and, exists_false, dI_i, dIC_i, dB_i, dNeg_i, dAdd_i, dAdd_s, dAdd_t, dAdd_l, dMul_i, dMul_l, dEq_i, dEq_s, dEq_b, dNe_i, dNe_s, dNe_b, dIsN_n, dIsN_i, dIsN_l, dIsN_t, dNotN_n, dNotN_i, dNotN_l, dNotN_t, dRev_t, dIx_t, dIx_l, atI_0, atI_1, atI_2, atI_3, atI_4, rLen_s, rLen_t, rLen_l, rLen_c, rInt_i, rInt_b, rAbs_i, rList_t, rList_l, rLen_put, dIx_put, tyM_put, dIn_s, Bool.not_true, Bool.not_false, dIxA_t]
    have xc : Th m (n - 1) c := hx c (by simp)
    have xk : Th m (n - 1) kx := hx kx (by simp)
    have xq : Th m (n - 1) q := hx q (by simp)
    rw [tm3] at hq no
    refine ⟨c, _, _, rfl, xc, _, rfl, iteB (fun h3 => ?_) fun h3 => ?_⟩
    · exact no (by rw [show frB c = false by simpa using h3]; rfl)
    have h3' : frB c = true := by simpa using h3
    obtain ⟨a, b, rfl, ha, hb, hb0, hg⟩ := frB_of xc h3'
    refine dEq_fr ⟨_, rfl, iteB (fun h4 => ?_) fun h4 => ?_⟩
    · have h4' : a = 0 ∧ b = 1 := by simpa using h4
      exact no (by rw [show nzB (fr a b) = false from by rw [h4'.1]; rfl]; simp)
    have hn : nzB (fr a b) = true := by
      have h4' : ¬ (a = 0 ∧ b = 1) := by simpa using h4
      refine decide_eq_true fun z => h4' ⟨z, ?_⟩
      rw [z] at hg
      have : Int.gcd 0 b = b.natAbs := by simp
      omega
    rw [h3', hn, Bool.true_and, Bool.true_and] at hq no
    simp only [wb_is_term_1, wb_is_term_0, wRet, wSeq, wIfS, wSet, wVar, wC, wBin, wTest, wAnd, wOr, wNot, wAndV, wOrV, wNotV, wIf, wCall, wCons, wNil, wTup, wLst, wLstM, wCB, wUn, wChain, wSl, wPart, wNo, wAsg, wgTup, wgCons, wgNil, wName, wPar, wSetIx, wAug, wDrop, wNext, wNever, wBM, wLstR1, EK.of, startG, List.map_cons, List.map_nil, List.length_cons, List.length_nil, Nat.reduceAdd, Nat.reduceSub, List.replicate, List.cons_append, List.nil_append, List.getElem?_cons_zero, List.getElem?_cons_succ, List.set_cons_zero, List.set_cons_succ, Option.some.injEq, exists_eq_left', exists_eq_left, D.bl.injEq, D.int.injEq, D.tup.injEq, D.lst.injEq, D.str.injEq, exists_and_left, if_true, Bool.false_eq_true, if_false, true_and, and_true, Int.cast_ofNat_Int, Int.reduceLT, Int.reduceLE, Int.reduceEq, Int.reduceNeg, Int.reduceAdd, Int.reduceSub, decide_true, decide_false, decide_eq_true_eq, List.getElem?_nil, reduceCtorEq, false_and, exists_false, dI_i, dIC_i, dB_i, dNeg_i, dAdd_i, dAdd_s, dAdd_t, dAdd_l, dMul_i, dMul_l, dEq_i, dEq_s, dEq_b, dNe_i, dNe_s, dNe_b, dIsN_n, dIsN_i, dIsN_l, dIsN_t, dNotN_n, dNotN_i, dNotN_l, dNotN_t, dRev_t, dIx_t, dIx_l, atI_0, atI_1, atI_2, atI_3, atI_4, rLen_s, rLen_t, rLen_l, rLen_c, rInt_i, rInt_b, rAbs_i, rList_t, rList_l, rLen_put, dIx_put, tyM_put, dIn_s, Bool.not_true, Bool.not_false, dIxA_t]
    refine ⟨kx, _, _, 0, 3, rfl, xk, _, rfl, iteB (fun h5 => ?_) fun h5 => ?_⟩
    · exact no (by rw [show wiB 0 3 kx = false by simpa using h5]; rfl)
    rw [show wiB 0 3 kx = true by simpa using h5, Bool.true_and] at hq no
    refine ⟨q, _, _, rfl, xq, _, rfl, iteB (fun h6 => ?_) fun h6 => ?_⟩
    · have h6' := Bool.and_eq_true_iff.mp h6
      obtain ⟨a2, b2, rfl, _, _, _, _⟩ := frB_of xq h6'.1
      refine dIxA_t.mpr ⟨.int b2, atI_1, ?_⟩
      simp only [wRet, wSeq, wIfS, wSet, wVar, wC, wBin, wTest, wAnd, wOr, wNot, wAndV, wOrV, wNotV, wIf, wCall, wCons, wNil, wTup, wLst, wLstM, wCB, wUn, wChain, wSl, wPart, wNo, wAsg, wgTup, wgCons, wgNil, wName, wPar, wSetIx, wAug, wDrop, wNext, wNever, wBM, wLstR1, EK.of, startG, List.map_cons, List.map_nil, List.length_cons, List.length_nil, Nat.reduceAdd, Nat.reduceSub, List.replicate, List.cons_append, List.nil_append, List.getElem?_cons_zero, List.getElem?_cons_succ, List.set_cons_zero, List.set_cons_succ, Option.some.injEq, exists_eq_left', exists_eq_left, D.bl.injEq, D.int.injEq, D.tup.injEq, D.lst.injEq, D.str.injEq, exists_and_left, if_true, Bool.false_eq_true, if_false, true_and, and_true, Int.cast_ofNat_Int, Int.reduceLT, Int.reduceLE, Int.reduceEq, Int.reduceNeg, Int.reduceAdd, Int.reduceSub, decide_true, decide_false, decide_eq_true_eq, List.getElem?_nil, reduceCtorEq, false_and, exists_false, dI_i, dIC_i, dB_i, dNeg_i, dAdd_i, dAdd_s, dAdd_t, dAdd_l, dMul_i, dMul_l, dEq_i, dEq_s, dEq_b, dNe_i, dNe_s, dNe_b, dIsN_n, dIsN_i, dIsN_l, dIsN_t, dNotN_n, dNotN_i, dNotN_l, dNotN_t, dRev_t, dIx_t, dIx_l, atI_0, atI_1, atI_2, atI_3, atI_4, rLen_s, rLen_t, rLen_l, rLen_c, rInt_i, rInt_b, rAbs_i, rList_t, rList_l, rLen_put, dIx_put, tyM_put, dIn_s, Bool.not_true, Bool.not_false]
      rw [h6'.1, h6'.2, Bool.true_and, Bool.true_and] at hq
      exact end_id hq
    · exact no (by cases z : frB q <;> simp_all)
/-! the law's own -/
theorem ok_law_is_int (e : En w kl K mg) (t : Tx1 K mg "_law_is_int" st_law_is_int) : Fn1 P w K mg base 1 "_law_is_int" ["_law_thing", "_law_least", "_law_most"] sp_within := by
  refine mk_law_is_int (k := 0) e t (fun ds S Q E ⟨d, m, n, a, b, h, _⟩ => by rw [h]; rfl) ?_
  rintro ds S Q E ⟨d, m, n, a, b, rfl, hd, hq⟩
  have hp := hd.pl
  simp only [wb_law_is_int, wRet, wSeq, wIfS, wSet, wVar, wC, wBin, wTest, wAnd, wOr, wNot, wAndV, wOrV, wNotV, wIf, wCall, wCons, wNil, wTup, wLst, wLstM, wCB, wUn, wChain, wSl, wPart, wNo, wAsg, wgTup, wgCons, wgNil, wName, wPar, wSetIx, wAug, wDrop, wNext, wNever, wBM, wLstR1, EK.of, startG, List.map_cons, List.map_nil, List.length_cons, List.length_nil, Nat.reduceAdd, Nat.reduceSub, List.replicate, List.cons_append, List.nil_append, List.getElem?_cons_zero, List.getElem?_cons_succ, List.set_cons_zero, List.set_cons_succ, Option.some.injEq, exists_eq_left', exists_eq_left, D.bl.injEq, D.int.injEq, D.tup.injEq, D.lst.injEq, D.str.injEq, exists_and_left, if_true, Bool.false_eq_true, if_false, true_and, and_true, Int.cast_ofNat_Int, Int.reduceLT, Int.reduceLE, Int.reduceEq, Int.reduceNeg, Int.reduceAdd, Int.reduceSub, decide_true, decide_false, decide_eq_true_eq, List.getElem?_nil, reduceCtorEq, false_and, exists_false, dI_i, dIC_i, dB_i, dNeg_i, dAdd_i, dAdd_s, dAdd_t, dAdd_l, dMul_i, dMul_l, dEq_i, dEq_s, dEq_b, dNe_i, dNe_s, dNe_b, dIsN_n, dIsN_i, dIsN_l, dIsN_t, dNotN_n, dNotN_i, dNotN_l, dNotN_t, dRev_t, dIx_t, dIx_l, atI_0, atI_1, atI_2, atI_3, atI_4, rLen_s, rLen_t, rLen_l, rLen_c, rInt_i, rInt_b, rAbs_i, rList_t, rList_l, rLen_put, dIx_put, tyM_put, dIn_s, Bool.not_true, Bool.not_false, rIsi_int hp, rIsi_bool hp]
  have no : isI d = false → PL.End Q (.bl false) S := fun h => by
    have : wiB a b d = false := by cases d <;> first | rfl | (simp [isI_int] at h)
    rw [this] at hq
    exact end_id hq
  refine iteB (fun h => ?_) fun h => no (by unfold isI; rw [h]; rfl)
  try simp only [wRet, wSeq, wIfS, wSet, wVar, wC, wBin, wTest, wAnd, wOr, wNot, wAndV, wOrV, wNotV, wIf, wCall, wCons, wNil, wTup, wLst, wLstM, wCB, wUn, wChain, wSl, wPart, wNo, wAsg, wgTup, wgCons, wgNil, wName, wPar, wSetIx, wAug, wDrop, wNext, wNever, wBM, wLstR1, EK.of, startG, List.map_cons, List.map_nil, List.length_cons, List.length_nil, Nat.reduceAdd, Nat.reduceSub, List.replicate, List.cons_append, List.nil_append, List.getElem?_cons_zero, List.getElem?_cons_succ, List.set_cons_zero, List.set_cons_succ, Option.some.injEq, exists_eq_left', exists_eq_left, D.bl.injEq, D.int.injEq, D.tup.injEq, D.lst.injEq, D.str.injEq, exists_and_left, if_true, Bool.false_eq_true, if_false, true_and, and_true, Int.cast_ofNat_Int, Int.reduceLT, Int.reduceLE, Int.reduceEq, Int.reduceNeg, Int.reduceAdd, Int.reduceSub, decide_true, decide_false, decide_eq_true_eq, List.getElem?_nil, reduceCtorEq, false_and, exists_false, dI_i, dIC_i, dB_i, dNeg_i, dAdd_i, dAdd_s, dAdd_t, dAdd_l, dMul_i, dMul_l, dEq_i, dEq_s, dEq_b, dNe_i, dNe_s, dNe_b, dIsN_n, dIsN_i, dIsN_l, dIsN_t, dNotN_n, dNotN_i, dNotN_l, dNotN_t, dRev_t, dIx_t, dIx_l, atI_0, atI_1, atI_2, atI_3, atI_4, rLen_s, rLen_t, rLen_l, rLen_c, rInt_i, rInt_b, rAbs_i, rList_t, rList_l, rLen_put, dIx_put, tyM_put, dIn_s, Bool.not_true, Bool.not_false, rIsi_bool hp]
  refine iteB (fun h2 => ?_) fun h2 => no (by unfold isI; rw [show isa (tyn d) "bool" = true by simpa using h2]; simp)
  obtain ⟨i, rfl, _⟩ := isI_of hd (by unfold isI; rw [h, show isa (tyn d) "bool" = false by simpa using h2]; rfl)
  simp only [wRet, wSeq, wIfS, wSet, wVar, wC, wBin, wTest, wAnd, wOr, wNot, wAndV, wOrV, wNotV, wIf, wCall, wCons, wNil, wTup, wLst, wLstM, wCB, wUn, wChain, wSl, wPart, wNo, wAsg, wgTup, wgCons, wgNil, wName, wPar, wSetIx, wAug, wDrop, wNext, wNever, wBM, wLstR1, EK.of, startG, List.map_cons, List.map_nil, List.length_cons, List.length_nil, Nat.reduceAdd, Nat.reduceSub, List.replicate, List.cons_append, List.nil_append, List.getElem?_cons_zero, List.getElem?_cons_succ, List.set_cons_zero, List.set_cons_succ, Option.some.injEq, exists_eq_left', exists_eq_left, D.bl.injEq, D.int.injEq, D.tup.injEq, D.lst.injEq, D.str.injEq, exists_and_left, if_true, Bool.false_eq_true, if_false, true_and, and_true, Int.cast_ofNat_Int, Int.reduceLT, Int.reduceLE, Int.reduceEq, Int.reduceNeg, Int.reduceAdd, Int.reduceSub, decide_true, decide_false, decide_eq_true_eq, List.getElem?_nil, reduceCtorEq, false_and, exists_false, dI_i, dIC_i, dB_i, dNeg_i, dAdd_i, dAdd_s, dAdd_t, dAdd_l, dMul_i, dMul_l, dEq_i, dEq_s, dEq_b, dNe_i, dNe_s, dNe_b, dIsN_n, dIsN_i, dIsN_l, dIsN_t, dNotN_n, dNotN_i, dNotN_l, dNotN_t, dRev_t, dIx_t, dIx_l, atI_0, atI_1, atI_2, atI_3, atI_4, rLen_s, rLen_t, rLen_l, rLen_c, rInt_i, rInt_b, rAbs_i, rList_t, rList_l, rLen_put, dIx_put, tyM_put, dIn_s, Bool.not_true, Bool.not_false]
  refine ite2 (fun h => ?_) fun h => ?_
  · rw [show wiB a b (.int i) = (decide (a ≤ i) && decide (i ≤ b)) from rfl, decide_eq_true h, Bool.true_and] at hq
    exact end_id hq
  · rw [show wiB a b (.int i) = (decide (a ≤ i) && decide (i ≤ b)) from rfl, decide_eq_false h, Bool.false_and] at hq
    exact end_id hq
theorem lc_all {α : Type} {g : WG} {we : WE} {stay : Sto → Prop} {Γ0 : Gm} {Qf : List D → Sto → Prop} {S : Sto} (φ f : α → D) (hs : stay S) : ∀ (L : List α) (acc : List D),
    (∀ a ∈ L, ∀ G : D → Sto → Prop, G (f a) S → g (φ a) Γ0 S fun Γ1 S1 => we Γ1 S1 G (fun _ _ _ => False)) → Qf (acc ++ L.map f) S → wLcGo g wYes we stay Γ0 Qf (L.map φ) acc S
  | [], acc, _, h => by simpa [wLcGo] using h
  | a :: L, acc, he, h => by
    rw [List.map_cons]
    unfold wLcGo
    refine ⟨hs, he a List.mem_cons_self (fun y S3 => wLcGo g wYes we stay Γ0 Qf (L.map φ) (acc ++ [y]) S3) ?_⟩
    refine lc_all φ f hs L (acc ++ [f a]) (fun b hb => he b (List.mem_cons_of_mem _ hb)) ?_
    rw [List.append_assoc]
    exact h
theorem wi60 {m n : Nat} {d : D} (h : Th m n d) : wiB (-(10 ^ (60 : Int).toNat)) (10 ^ (60 : Int).toNat) d = isI d := by
  cases h with
  | int i hi =>
    show (decide (-(10 : Int) ^ (60 : Int).toNat ≤ i) && decide (i ≤ (10 : Int) ^ (60 : Int).toNat)) = true
    have e : (10 : Int) ^ (60 : Int).toNat = ((10 ^ 60 : Nat) : Int) := by decide
    have : (10 : Nat) ^ 40 < 10 ^ 60 := by decide
    rw [e]
    generalize (10 : Nat) ^ 60 = B at *
    generalize (10 : Nat) ^ 40 = A at *
    simp
    omega
  | _ => rfl
theorem ok_law_is_fraction (e : En w kl K mg) (t : Tx1 K mg "_law_is_fraction" st_law_is_fraction) (F1 : Fn1 P w K mg base 1 "_law_is_int" ["_law_thing", "_law_least", "_law_most"] sp_within) (F2 : Fn1 P w K mg base 1 "_law_common" ["_law_one", "_law_other"] sp_gcd) :
    Fn1 P w K mg base 2 "_law_is_fraction" ["_law_thing"] sp_isfr := by
  refine mk_law_is_fraction (k := 1) e t F1 F2 (fun ds S Q E => ?_) (fun ds S Q E => ?_)
  · rintro ⟨d, m, n, rfl, _⟩
    rfl
  · rintro ⟨d, m, n, rfl, hd, hq⟩
    have hp := hd.pl
    simp only [wb_law_is_fraction, wRet, wSeq, wIfS, wSet, wVar, wC, wBin, wTest, wAnd, wOr, wNot, wAndV, wOrV, wNotV, wIf, wCall, wCons, wNil, wTup, wLst, wLstM, wCB, wUn, wChain, wSl, wPart, wNo, wAsg, wgTup, wgCons, wgNil, wName, wPar, wSetIx, wAug, wDrop, wNext, wNever, wBM, wLstR1, EK.of, startG, List.map_cons, List.map_nil, List.length_cons, List.length_nil, Nat.reduceAdd, Nat.reduceSub, List.replicate, List.cons_append, List.nil_append, List.getElem?_cons_zero, List.getElem?_cons_succ, List.set_cons_zero, List.set_cons_succ, Option.some.injEq, exists_eq_left', exists_eq_left, D.bl.injEq, D.int.injEq, D.tup.injEq, D.lst.injEq, D.str.injEq, exists_and_left, if_true, Bool.false_eq_true, if_false, true_and, and_true, Int.cast_ofNat_Int, Int.reduceLT, Int.reduceLE, Int.reduceEq, Int.reduceNeg, Int.reduceAdd, Int.reduceSub, decide_true, decide_false, decide_eq_true_eq, List.getElem?_nil, reduceCtorEq, false_and, exists_false, dI_i, dIC_i, dB_i, dNeg_i, dAdd_i, dAdd_s, dAdd_t, dAdd_l, dMul_i, dMul_l, dEq_i, dEq_s, dEq_b, dNe_i, dNe_s, dNe_b, dIsN_n, dIsN_i, dIsN_l, dIsN_t, dNotN_n, dNotN_i, dNotN_l, dNotN_t, dRev_t, dIx_t, dIx_l, atI_0, atI_1, atI_2, atI_3, atI_4, rLen_s, rLen_t, rLen_l, rLen_c, rInt_i, rInt_b, rAbs_i, rList_t, rList_l, rLen_put, dIx_put, tyM_put, dIn_s, Bool.not_true, Bool.not_false, rIsi_tuple hp]
    have no : frB d = false → PL.End Q (.bl false) S := fun h => by rw [h] at hq; exact end_id hq
    refine iteB (fun h => ?_) fun h => ?_
    · exact no (frB_no fun a b e => by rw [e] at h; simp [tyn, isa] at h)
    obtain ⟨ds, rfl, hl, hx⟩ := tup_of hd (by simpa using h)
    simp only [wRet, wSeq, wIfS, wSet, wVar, wC, wBin, wTest, wAnd, wOr, wNot, wAndV, wOrV, wNotV, wIf, wCall, wCons, wNil, wTup, wLst, wLstM, wCB, wUn, wChain, wSl, wPart, wNo, wAsg, wgTup, wgCons, wgNil, wName, wPar, wSetIx, wAug, wDrop, wNext, wNever, wBM, wLstR1, EK.of, startG, List.map_cons, List.map_nil, List.length_cons, List.length_nil, Nat.reduceAdd, Nat.reduceSub, List.replicate, List.cons_append, List.nil_append, List.getElem?_cons_zero, List.getElem?_cons_succ, List.set_cons_zero, List.set_cons_succ, Option.some.injEq, exists_eq_left', exists_eq_left, D.bl.injEq, D.int.injEq, D.tup.injEq, D.lst.injEq, D.str.injEq, exists_and_left, if_true, Bool.false_eq_true, if_false, true_and, and_true, Int.cast_ofNat_Int, Int.reduceLT, Int.reduceLE, Int.reduceEq, Int.reduceNeg, Int.reduceAdd, Int.reduceSub, decide_true, decide_false, decide_eq_true_eq, List.getElem?_nil, reduceCtorEq, false_and, exists_false, dI_i, dIC_i, dB_i, dNeg_i, dAdd_i, dAdd_s, dAdd_t, dAdd_l, dMul_i, dMul_l, dEq_i, dEq_s, dEq_b, dNe_i, dNe_s, dNe_b, dIsN_n, dIsN_i, dIsN_l, dIsN_t, dNotN_n, dNotN_i, dNotN_l, dNotN_t, dRev_t, dIx_t, dIx_l, atI_0, atI_1, atI_2, atI_3, atI_4, rLen_s, rLen_t, rLen_l, rLen_c, rInt_i, rInt_b, rAbs_i, rList_t, rList_l, rLen_put, dIx_put, tyM_put, dIn_s, Bool.not_true, Bool.not_false, rLen_t]
    refine iteB (fun h2 => ?_) fun h2 => ?_
    · exact no (frB_no fun a b e => by cases e; simp at h2)
    have l2 : (ds.length : Int) = 2 := by simpa using h2
    obtain ⟨a, b, rfl⟩ := len2 (show ds.length = 2 by omega)
    have xa : Th m (n - 1) a := hx a (by simp)
    have xb : Th m (n - 1) b := hx b (by simp)
    simp only [wb_law_is_fraction_1, wLc, wLcB, wLc, wLcM, wLcB, wiS, wiT, wiL, wiR1, wiR2, wipeG, wiT, wRet, wSeq, wIfS, wSet, wVar, wC, wBin, wTest, wAnd, wOr, wNot, wAndV, wOrV, wNotV, wIf, wCall, wCons, wNil, wTup, wLst, wLstM, wCB, wUn, wChain, wSl, wPart, wNo, wAsg, wgTup, wgCons, wgNil, wName, wPar, wSetIx, wAug, wDrop, wNext, wNever, wBM, wLstR1, EK.of, startG, List.map_cons, List.map_nil, List.length_cons, List.length_nil, Nat.reduceAdd, Nat.reduceSub, List.replicate, List.cons_append, List.nil_append, List.getElem?_cons_zero, List.getElem?_cons_succ, List.set_cons_zero, List.set_cons_succ, Option.some.injEq, exists_eq_left', exists_eq_left, D.bl.injEq, D.int.injEq, D.tup.injEq, D.lst.injEq, D.str.injEq, exists_and_left, if_true, Bool.false_eq_true, if_false, true_and, and_true, Int.cast_ofNat_Int, Int.reduceLT, Int.reduceLE, Int.reduceEq, Int.reduceNeg, Int.reduceAdd, Int.reduceSub, decide_true, decide_false, decide_eq_true_eq, List.getElem?_nil, reduceCtorEq, false_and, exists_false, dI_i, dIC_i, dB_i, dNeg_i, dAdd_i, dAdd_s, dAdd_t, dAdd_l, dMul_i, dMul_l, dEq_i, dEq_s, dEq_b, dNe_i, dNe_s, dNe_b, dIsN_n, dIsN_i, dIsN_l, dIsN_t, dNotN_n, dNotN_i, dNotN_l, dNotN_t, dRev_t, dIx_t, dIx_l, atI_0, atI_1, atI_2, atI_3, atI_4, rLen_s, rLen_t, rLen_l, rLen_c, rInt_i, rInt_b, rAbs_i, rList_t, rList_l, rLen_put, dIx_put, tyM_put, dIn_s, Bool.not_true, Bool.not_false]
    refine ⟨by decide, ?_⟩
    show wLcGo _ _ _ _ _ _ ([a, b].map fun d => d) [] S
    refine lc_all (fun d => d) (fun d => .bl (isI d)) trivial [a, b] [] (fun x hxm G hG => ?_) ?_
    · have xx : Th m (n - 1) x := hx x hxm
      simp only [wRet, wSeq, wIfS, wSet, wVar, wC, wBin, wTest, wAnd, wOr, wNot, wAndV, wOrV, wNotV, wIf, wCall, wCons, wNil, wTup, wLst, wLstM, wCB, wUn, wChain, wSl, wPart, wNo, wAsg, wgTup, wgCons, wgNil, wName, wPar, wSetIx, wAug, wDrop, wNext, wNever, wBM, wLstR1, EK.of, startG, List.map_cons, List.map_nil, List.length_cons, List.length_nil, Nat.reduceAdd, Nat.reduceSub, List.replicate, List.cons_append, List.nil_append, List.getElem?_cons_zero, List.getElem?_cons_succ, List.set_cons_zero, List.set_cons_succ, Option.some.injEq, exists_eq_left', exists_eq_left, D.bl.injEq, D.int.injEq, D.tup.injEq, D.lst.injEq, D.str.injEq, exists_and_left, if_true, Bool.false_eq_true, if_false, true_and, and_true, Int.cast_ofNat_Int, Int.reduceLT, Int.reduceLE, Int.reduceEq, Int.reduceNeg, Int.reduceAdd, Int.reduceSub, decide_true, decide_false, decide_eq_true_eq, List.getElem?_nil, reduceCtorEq, false_and, exists_false, dI_i, dIC_i, dB_i, dNeg_i, dAdd_i, dAdd_s, dAdd_t, dAdd_l, dMul_i, dMul_l, dEq_i, dEq_s, dEq_b, dNe_i, dNe_s, dNe_b, dIsN_n, dIsN_i, dIsN_l, dIsN_t, dNotN_n, dNotN_i, dNotN_l, dNotN_t, dRev_t, dIx_t, dIx_l, atI_0, atI_1, atI_2, atI_3, atI_4, rLen_s, rLen_t, rLen_l, rLen_c, rInt_i, rInt_b, rAbs_i, rList_t, rList_l, rLen_put, dIx_put, tyM_put, dIn_s, Bool.not_true, Bool.not_false]
      refine ⟨⟨by decide, by decide, by decide⟩, ⟨by decide, by decide, by decide⟩, x, _, _, _, _, rfl, xx, ?_⟩
      rw [wi60 xx]
      exact hG
    refine rAll_f (f := isI) (xs := [a, b]) ⟨_, rfl, iteB (fun h3 => ?_) fun h3 => ?_⟩
    · refine no (frB_no fun i j e => ?_)
      cases e
      simp [isI_int] at h3
    have h34 : isI a = true ∧ isI b = true := by simpa using h3
    obtain ⟨i, rfl, hi⟩ := isI_of xa h34.1
    obtain ⟨j, rfl, hj⟩ := isI_of xb h34.2
    simp only [wb_law_is_fraction_0, wRet, wSeq, wIfS, wSet, wVar, wC, wBin, wTest, wAnd, wOr, wNot, wAndV, wOrV, wNotV, wIf, wCall, wCons, wNil, wTup, wLst, wLstM, wCB, wUn, wChain, wSl, wPart, wNo, wAsg, wgTup, wgCons, wgNil, wName, wPar, wSetIx, wAug, wDrop, wNext, wNever, wBM, wLstR1, EK.of, startG, List.map_cons, List.map_nil, List.length_cons, List.length_nil, Nat.reduceAdd, Nat.reduceSub, List.replicate, List.cons_append, List.nil_append, List.getElem?_cons_zero, List.getElem?_cons_succ, List.set_cons_zero, List.set_cons_succ, Option.some.injEq, exists_eq_left', exists_eq_left, D.bl.injEq, D.int.injEq, D.tup.injEq, D.lst.injEq, D.str.injEq, exists_and_left, if_true, Bool.false_eq_true, if_false, true_and, and_true, Int.cast_ofNat_Int, Int.reduceLT, Int.reduceLE, Int.reduceEq, Int.reduceNeg, Int.reduceAdd, Int.reduceSub, decide_true, decide_false, decide_eq_true_eq, List.getElem?_nil, reduceCtorEq, false_and, exists_false, dI_i, dIC_i, dB_i, dNeg_i, dAdd_i, dAdd_s, dAdd_t, dAdd_l, dMul_i, dMul_l, dEq_i, dEq_s, dEq_b, dNe_i, dNe_s, dNe_b, dIsN_n, dIsN_i, dIsN_l, dIsN_t, dNotN_n, dNotN_i, dNotN_l, dNotN_t, dRev_t, dIx_t, dIx_l, atI_0, atI_1, atI_2, atI_3, atI_4, rLen_s, rLen_t, rLen_l, rLen_c, rInt_i, rInt_b, rAbs_i, rList_t, rList_l, rLen_put, dIx_put, tyM_put, dIn_s, Bool.not_true, Bool.not_false, dIxA_t]
    have ef : frB (.tup [.int i, .int j]) = (decide (0 < j) && decide (Int.gcd i j = 1)) := rfl
    refine ite2 (fun h5 => ⟨i, j, rfl, ?_⟩) fun h5 => ?_
    · simp only [wRet, wSeq, wIfS, wSet, wVar, wC, wBin, wTest, wAnd, wOr, wNot, wAndV, wOrV, wNotV, wIf, wCall, wCons, wNil, wTup, wLst, wLstM, wCB, wUn, wChain, wSl, wPart, wNo, wAsg, wgTup, wgCons, wgNil, wName, wPar, wSetIx, wAug, wDrop, wNext, wNever, wBM, wLstR1, EK.of, startG, List.map_cons, List.map_nil, List.length_cons, List.length_nil, Nat.reduceAdd, Nat.reduceSub, List.replicate, List.cons_append, List.nil_append, List.getElem?_cons_zero, List.getElem?_cons_succ, List.set_cons_zero, List.set_cons_succ, Option.some.injEq, exists_eq_left', exists_eq_left, D.bl.injEq, D.int.injEq, D.tup.injEq, D.lst.injEq, D.str.injEq, exists_and_left, if_true, Bool.false_eq_true, if_false, true_and, and_true, Int.cast_ofNat_Int, Int.reduceLT, Int.reduceLE, Int.reduceEq, Int.reduceNeg, Int.reduceAdd, Int.reduceSub, decide_true, decide_false, decide_eq_true_eq, List.getElem?_nil, reduceCtorEq, false_and, exists_false, dI_i, dIC_i, dB_i, dNeg_i, dAdd_i, dAdd_s, dAdd_t, dAdd_l, dMul_i, dMul_l, dEq_i, dEq_s, dEq_b, dNe_i, dNe_s, dNe_b, dIsN_n, dIsN_i, dIsN_l, dIsN_t, dNotN_n, dNotN_i, dNotN_l, dNotN_t, dRev_t, dIx_t, dIx_l, atI_0, atI_1, atI_2, atI_3, atI_4, rLen_s, rLen_t, rLen_l, rLen_c, rInt_i, rInt_b, rAbs_i, rList_t, rList_l, rLen_put, dIx_put, tyM_put, dIn_s, Bool.not_true, Bool.not_false]
      rw [ef, decide_eq_true h5, Bool.true_and] at hq
      rw [show decide (((Int.gcd i j : Nat) : Int) = 1) = decide (Int.gcd i j = 1) from decide_eq_decide.mpr (by omega)]
      exact end_id hq
    · rw [ef, decide_eq_false h5, Bool.false_and] at hq
      exact end_id hq
theorem ok_law_is_term (e : En w kl K mg) (t : Tx1 K mg "_law_is_term" st_law_is_term) (F1 : Fn1 P w K mg base 2 "_law_is_fraction" ["_law_thing"] sp_isfr) (F2 : Fn1 P w K mg base 2 "_law_is_int" ["_law_thing", "_law_least", "_law_most"] sp_within) : Fn1 P w K mg base 3 "_law_is_term" ["_law_thing"] sp_term := by
  refine mk_law_is_term (k := 2) e t F1 F2 (fun ds S Q E => ?_) (fun ds S Q E => ?_)
  · rintro ⟨d, m, n, rfl, _⟩
    rfl
  · rintro ⟨d, m, n, rfl, hd, hq⟩
    have hp := hd.pl
    simp only [wb_law_is_term, wRet, wSeq, wIfS, wSet, wVar, wC, wBin, wTest, wAnd, wOr, wNot, wAndV, wOrV, wNotV, wIf, wCall, wCons, wNil, wTup, wLst, wLstM, wCB, wUn, wChain, wSl, wPart, wNo, wAsg, wgTup, wgCons, wgNil, wName, wPar, wSetIx, wAug, wDrop, wNext, wNever, wBM, wLstR1, EK.of, startG, List.map_cons, List.map_nil, List.length_cons, List.length_nil, Nat.reduceAdd, Nat.reduceSub, List.replicate, List.cons_append, List.nil_append, List.getElem?_cons_zero, List.getElem?_cons_succ, List.set_cons_zero, List.set_cons_succ, Option.some.injEq, exists_eq_left', exists_eq_left, D.bl.injEq, D.int.injEq, D.tup.injEq, D.lst.injEq, D.str.injEq, exists_and_left, if_true, Bool.false_eq_true, if_false, true_and, and_true, Int.cast_ofNat_Int, Int.reduceLT, Int.reduceLE, Int.reduceEq, Int.reduceNeg, Int.reduceAdd, Int.reduceSub, decide_true, decide_false, decide_eq_true_eq, List.getElem?_nil, reduceCtorEq, false_and, exists_false, dI_i, dIC_i, dB_i, dNeg_i, dAdd_i, dAdd_s, dAdd_t, dAdd_l, dMul_i, dMul_l, dEq_i, dEq_s, dEq_b, dNe_i, dNe_s, dNe_b, dIsN_n, dIsN_i, dIsN_l, dIsN_t, dNotN_n, dNotN_i, dNotN_l, dNotN_t, dRev_t, dIx_t, dIx_l, atI_0, atI_1, atI_2, atI_3, atI_4, rLen_s, rLen_t, rLen_l, rLen_c, rInt_i, rInt_b, rAbs_i, rList_t, rList_l, rLen_put, dIx_put, tyM_put, dIn_s, Bool.not_true, Bool.not_false, rIsi_tuple hp]
    have no : tmB d = false → PL.End Q (.bl false) S := fun h => by rw [h] at hq; exact end_id hq
    refine iteB (fun h => ?_) fun h => ?_
    · exact no (tmB_no fun a b c e => by rw [e] at h; simp [tyn, isa] at h)
    obtain ⟨ds, rfl, hl, hx⟩ := tup_of hd (by simpa using h)
    simp only [wRet, wSeq, wIfS, wSet, wVar, wC, wBin, wTest, wAnd, wOr, wNot, wAndV, wOrV, wNotV, wIf, wCall, wCons, wNil, wTup, wLst, wLstM, wCB, wUn, wChain, wSl, wPart, wNo, wAsg, wgTup, wgCons, wgNil, wName, wPar, wSetIx, wAug, wDrop, wNext, wNever, wBM, wLstR1, EK.of, startG, List.map_cons, List.map_nil, List.length_cons, List.length_nil, Nat.reduceAdd, Nat.reduceSub, List.replicate, List.cons_append, List.nil_append, List.getElem?_cons_zero, List.getElem?_cons_succ, List.set_cons_zero, List.set_cons_succ, Option.some.injEq, exists_eq_left', exists_eq_left, D.bl.injEq, D.int.injEq, D.tup.injEq, D.lst.injEq, D.str.injEq, exists_and_left, if_true, Bool.false_eq_true, if_false, true_and, and_true, Int.cast_ofNat_Int, Int.reduceLT, Int.reduceLE, Int.reduceEq, Int.reduceNeg, Int.reduceAdd, Int.reduceSub, decide_true, decide_false, decide_eq_true_eq, List.getElem?_nil, reduceCtorEq, false_and, exists_false, dI_i, dIC_i, dB_i, dNeg_i, dAdd_i, dAdd_s, dAdd_t, dAdd_l, dMul_i, dMul_l, dEq_i, dEq_s, dEq_b, dNe_i, dNe_s, dNe_b, dIsN_n, dIsN_i, dIsN_l, dIsN_t, dNotN_n, dNotN_i, dNotN_l, dNotN_t, dRev_t, dIx_t, dIx_l, atI_0, atI_1, atI_2, atI_3, atI_4, rLen_s, rLen_t, rLen_l, rLen_c, rInt_i, rInt_b, rAbs_i, rList_t, rList_l, rLen_put, dIx_put, tyM_put, dIn_s, Bool.not_true, Bool.not_false, rLen_t]
    refine iteB (fun h2 => ?_) fun h2 => ?_
    · exact no (tmB_no fun a b c e => by cases e; simp at h2)
    have l2 : (ds.length : Int) = 3 := by simpa using h2
    obtain ⟨c, kx, q, rfl⟩ := len3 (show ds.length = 3 by omega)
    simp only [wRet, wSeq, wIfS, wSet, wVar, wC, wBin, wTest, wAnd, wOr, wNot, wAndV, wOrV, wNotV, wIf, wCall, wCons, wNil, wTup, wLst, wLstM, wCB, wUn, wChain, wSl, wPart, wNo, wAsg, wgTup, wgCons, wgNil, wName, wPar, wSetIx, wAug, wDrop, wNext, wNever, wBM, wLstR1, EK.of, startG, List.map_cons, List.map_nil, List.length_cons, List.length_nil, Nat.reduceAdd, Nat.reduceSub, List.replicate, List.cons_append, List.nil_append, List.getElem?_cons_zero, List.getElem?_cons_succ, List.set_cons_zero, List.set_cons_succ, Option.some.injEq, exists_eq_left', exists_eq_left, D.bl.injEq, D.int.injEq, D.tup.injEq, D.lst.injEq, D.str.injEq, exists_and_left, if_true, Bool.false_eq_true, if_false, true_and, and_true, Int.cast_ofNat_Int, Int.reduceLT, Int.reduceLE, Int.reduceEq, Int.reduceNeg, Int.reduceAdd, Int.reduceSub, decide_true, decide_false, decide_eq_true_eq, List.getElem?_nil, reduceCtorEq, false_and, exists_false, dI_i, dIC_i, dB_i, dNeg_i, dAdd_i, dAdd_s, dAdd_t, dAdd_l, dMul_i, dMul_l, dEq_i, dEq_s, dEq_b, dNe_i, dNe_s, dNe_b, dIsN_n, dIsN_i, dIsN_l, dIsN_t, dNotN_n, dNotN_i, dNotN_l, dNotN_t, dRev_t, dIx_t, dIx_l, atI_0, atI_1, atI_2, atI_3, atI_4, rLen_s, rLen_t, rLen_l, rLen_c, rInt_i, rInt_b, rAbs_i, rList_t, rList_l, rLen_put, dIx_put, tyM_put, dIn_s, Bool.not_true, Bool.not_false, dIxA_t]
    have xc : Th m (n - 1) c := hx c (by simp)
    have xk : Th m (n - 1) kx := hx kx (by simp)
    have xq : Th m (n - 1) q := hx q (by simp)
    rw [tm3] at hq no
    refine ⟨c, _, _, rfl, xc, _, rfl, iteB (fun h3 => ?_) fun h3 => ?_⟩
    · exact no (by rw [show frB c = false by simpa using h3]; rfl)
    have h3' : frB c = true := by simpa using h3
    obtain ⟨a, b, rfl, ha, hb, hb0, hg⟩ := frB_of xc h3'
    refine dIxA_t.mpr ⟨.int a, atI_0, ?_⟩
    simp only [wRet, wSeq, wIfS, wSet, wVar, wC, wBin, wTest, wAnd, wOr, wNot, wAndV, wOrV, wNotV, wIf, wCall, wCons, wNil, wTup, wLst, wLstM, wCB, wUn, wChain, wSl, wPart, wNo, wAsg, wgTup, wgCons, wgNil, wName, wPar, wSetIx, wAug, wDrop, wNext, wNever, wBM, wLstR1, EK.of, startG, List.map_cons, List.map_nil, List.length_cons, List.length_nil, Nat.reduceAdd, Nat.reduceSub, List.replicate, List.cons_append, List.nil_append, List.getElem?_cons_zero, List.getElem?_cons_succ, List.set_cons_zero, List.set_cons_succ, Option.some.injEq, exists_eq_left', exists_eq_left, D.bl.injEq, D.int.injEq, D.tup.injEq, D.lst.injEq, D.str.injEq, exists_and_left, if_true, Bool.false_eq_true, if_false, true_and, and_true, Int.cast_ofNat_Int, Int.reduceLT, Int.reduceLE, Int.reduceEq, Int.reduceNeg, Int.reduceAdd, Int.reduceSub, decide_true, decide_false, decide_eq_true_eq, List.getElem?_nil, reduceCtorEq, false_and, exists_false, dI_i, dIC_i, dB_i, dNeg_i, dAdd_i, dAdd_s, dAdd_t, dAdd_l, dMul_i, dMul_l, dEq_i, dEq_s, dEq_b, dNe_i, dNe_s, dNe_b, dIsN_n, dIsN_i, dIsN_l, dIsN_t, dNotN_n, dNotN_i, dNotN_l, dNotN_t, dRev_t, dIx_t, dIx_l, atI_0, atI_1, atI_2, atI_3, atI_4, rLen_s, rLen_t, rLen_l, rLen_c, rInt_i, rInt_b, rAbs_i, rList_t, rList_l, rLen_put, dIx_put, tyM_put, dIn_s, Bool.not_true, Bool.not_false]
    refine ite2 (fun h4 => ?_) fun h4 => ?_
    · have h4' : a = 0 := h4
      exact no (by rw [show nzB (fr a b) = false from by rw [h4']; rfl]; simp)
    have hn : nzB (fr a b) = true := decide_eq_true h4
    rw [h3', hn, Bool.true_and, Bool.true_and] at hq no
    simp only [wb_law_is_term_1, wb_law_is_term_0, wRet, wSeq, wIfS, wSet, wVar, wC, wBin, wTest, wAnd, wOr, wNot, wAndV, wOrV, wNotV, wIf, wCall, wCons, wNil, wTup, wLst, wLstM, wCB, wUn, wChain, wSl, wPart, wNo, wAsg, wgTup, wgCons, wgNil, wName, wPar, wSetIx, wAug, wDrop, wNext, wNever, wBM, wLstR1, EK.of, startG, List.map_cons, List.map_nil, List.length_cons, List.length_nil, Nat.reduceAdd, Nat.reduceSub, List.replicate, List.cons_append, List.nil_append, List.getElem?_cons_zero, List.getElem?_cons_succ, List.set_cons_zero, List.set_cons_succ, Option.some.injEq, exists_eq_left', exists_eq_left, D.bl.injEq, D.int.injEq, D.tup.injEq, D.lst.injEq, D.str.injEq, exists_and_left, if_true, Bool.false_eq_true, if_false, true_and, and_true, Int.cast_ofNat_Int, Int.reduceLT, Int.reduceLE, Int.reduceEq, Int.reduceNeg, Int.reduceAdd, Int.reduceSub, decide_true, decide_false, decide_eq_true_eq, List.getElem?_nil, reduceCtorEq, false_and, exists_false, dI_i, dIC_i, dB_i, dNeg_i, dAdd_i, dAdd_s, dAdd_t, dAdd_l, dMul_i, dMul_l, dEq_i, dEq_s, dEq_b, dNe_i, dNe_s, dNe_b, dIsN_n, dIsN_i, dIsN_l, dIsN_t, dNotN_n, dNotN_i, dNotN_l, dNotN_t, dRev_t, dIx_t, dIx_l, atI_0, atI_1, atI_2, atI_3, atI_4, rLen_s, rLen_t, rLen_l, rLen_c, rInt_i, rInt_b, rAbs_i, rList_t, rList_l, rLen_put, dIx_put, tyM_put, dIn_s, Bool.not_true, Bool.not_false, dIxA_t]
    refine ⟨kx, _, _, 0, 3, rfl, xk, _, rfl, iteB (fun h5 => ?_) fun h5 => ?_⟩
    · exact no (by rw [show wiB 0 3 kx = false by simpa using h5]; rfl)
    rw [show wiB 0 3 kx = true by simpa using h5, Bool.true_and] at hq no
    refine ⟨q, _, _, rfl, xq, _, rfl, iteB (fun h6 => ?_) fun h6 => ?_⟩
    · exact no (by rw [show frB q = false by simpa using h6]; rfl)
    have h6' : frB q = true := by simpa using h6
    obtain ⟨a2, b2, rfl, _, _, hb2, _⟩ := frB_of xq h6'
    rw [h6', Bool.true_and] at hq no
    have e1 : ftB (fr a2 b2) = decide ((if a2 < 0 then -a2 else a2) ≤ 4 * b2) := by
      show (decide (-4 * b2 ≤ a2) && decide (a2 ≤ 4 * b2)) = _
      rw [Bool.eq_iff_iff]
      simp only [Bool.and_eq_true, decide_eq_true_eq]
      split <;> omega
    have e2 : dnB (fr a2 b2) = decide (b2 ≤ 4) := rfl
    rw [e1, e2] at hq no
    refine dIxA_t.mpr ⟨.int b2, atI_1, ?_⟩
    simp only [wRet, wSeq, wIfS, wSet, wVar, wC, wBin, wTest, wAnd, wOr, wNot, wAndV, wOrV, wNotV, wIf, wCall, wCons, wNil, wTup, wLst, wLstM, wCB, wUn, wChain, wSl, wPart, wNo, wAsg, wgTup, wgCons, wgNil, wName, wPar, wSetIx, wAug, wDrop, wNext, wNever, wBM, wLstR1, EK.of, startG, List.map_cons, List.map_nil, List.length_cons, List.length_nil, Nat.reduceAdd, Nat.reduceSub, List.replicate, List.cons_append, List.nil_append, List.getElem?_cons_zero, List.getElem?_cons_succ, List.set_cons_zero, List.set_cons_succ, Option.some.injEq, exists_eq_left', exists_eq_left, D.bl.injEq, D.int.injEq, D.tup.injEq, D.lst.injEq, D.str.injEq, exists_and_left, if_true, Bool.false_eq_true, if_false, true_and, and_true, Int.cast_ofNat_Int, Int.reduceLT, Int.reduceLE, Int.reduceEq, Int.reduceNeg, Int.reduceAdd, Int.reduceSub, decide_true, decide_false, decide_eq_true_eq, List.getElem?_nil, reduceCtorEq, false_and, exists_false, dI_i, dIC_i, dB_i, dNeg_i, dAdd_i, dAdd_s, dAdd_t, dAdd_l, dMul_i, dMul_l, dEq_i, dEq_s, dEq_b, dNe_i, dNe_s, dNe_b, dIsN_n, dIsN_i, dIsN_l, dIsN_t, dNotN_n, dNotN_i, dNotN_l, dNotN_t, dRev_t, dIx_t, dIx_l, atI_0, atI_1, atI_2, atI_3, atI_4, rLen_s, rLen_t, rLen_l, rLen_c, rInt_i, rInt_b, rAbs_i, rList_t, rList_l, rLen_put, dIx_put, tyM_put, dIn_s, Bool.not_true, Bool.not_false]
    refine ite2 (fun h7 => ?_) fun h7 => ?_
    · rw [decide_eq_true h7, Bool.and_true] at hq
      refine dIxA_t.mpr ⟨.int a2, atI_0, ?_⟩
      simp only [wRet, wSeq, wIfS, wSet, wVar, wC, wBin, wTest, wAnd, wOr, wNot, wAndV, wOrV, wNotV, wIf, wCall, wCons, wNil, wTup, wLst, wLstM, wCB, wUn, wChain, wSl, wPart, wNo, wAsg, wgTup, wgCons, wgNil, wName, wPar, wSetIx, wAug, wDrop, wNext, wNever, wBM, wLstR1, EK.of, startG, List.map_cons, List.map_nil, List.length_cons, List.length_nil, Nat.reduceAdd, Nat.reduceSub, List.replicate, List.cons_append, List.nil_append, List.getElem?_cons_zero, List.getElem?_cons_succ, List.set_cons_zero, List.set_cons_succ, Option.some.injEq, exists_eq_left', exists_eq_left, D.bl.injEq, D.int.injEq, D.tup.injEq, D.lst.injEq, D.str.injEq, exists_and_left, if_true, Bool.false_eq_true, if_false, true_and, and_true, Int.cast_ofNat_Int, Int.reduceLT, Int.reduceLE, Int.reduceEq, Int.reduceNeg, Int.reduceAdd, Int.reduceSub, decide_true, decide_false, decide_eq_true_eq, List.getElem?_nil, reduceCtorEq, false_and, exists_false, dI_i, dIC_i, dB_i, dNeg_i, dAdd_i, dAdd_s, dAdd_t, dAdd_l, dMul_i, dMul_l, dEq_i, dEq_s, dEq_b, dNe_i, dNe_s, dNe_b, dIsN_n, dIsN_i, dIsN_l, dIsN_t, dNotN_n, dNotN_i, dNotN_l, dNotN_t, dRev_t, dIx_t, dIx_l, atI_0, atI_1, atI_2, atI_3, atI_4, rLen_s, rLen_t, rLen_l, rLen_c, rInt_i, rInt_b, rAbs_i, rList_t, rList_l, rLen_put, dIx_put, tyM_put, dIn_s, Bool.not_true, Bool.not_false]
      refine dIxA_t.mpr ⟨.int b2, atI_1, ?_⟩
      simp only [wRet, wSeq, wIfS, wSet, wVar, wC, wBin, wTest, wAnd, wOr, wNot, wAndV, wOrV, wNotV, wIf, wCall, wCons, wNil, wTup, wLst, wLstM, wCB, wUn, wChain, wSl, wPart, wNo, wAsg, wgTup, wgCons, wgNil, wName, wPar, wSetIx, wAug, wDrop, wNext, wNever, wBM, wLstR1, EK.of, startG, List.map_cons, List.map_nil, List.length_cons, List.length_nil, Nat.reduceAdd, Nat.reduceSub, List.replicate, List.cons_append, List.nil_append, List.getElem?_cons_zero, List.getElem?_cons_succ, List.set_cons_zero, List.set_cons_succ, Option.some.injEq, exists_eq_left', exists_eq_left, D.bl.injEq, D.int.injEq, D.tup.injEq, D.lst.injEq, D.str.injEq, exists_and_left, if_true, Bool.false_eq_true, if_false, true_and, and_true, Int.cast_ofNat_Int, Int.reduceLT, Int.reduceLE, Int.reduceEq, Int.reduceNeg, Int.reduceAdd, Int.reduceSub, decide_true, decide_false, decide_eq_true_eq, List.getElem?_nil, reduceCtorEq, false_and, exists_false, dI_i, dIC_i, dB_i, dNeg_i, dAdd_i, dAdd_s, dAdd_t, dAdd_l, dMul_i, dMul_l, dEq_i, dEq_s, dEq_b, dNe_i, dNe_s, dNe_b, dIsN_n, dIsN_i, dIsN_l, dIsN_t, dNotN_n, dNotN_i, dNotN_l, dNotN_t, dRev_t, dIx_t, dIx_l, atI_0, atI_1, atI_2, atI_3, atI_4, rLen_s, rLen_t, rLen_l, rLen_c, rInt_i, rInt_b, rAbs_i, rList_t, rList_l, rLen_put, dIx_put, tyM_put, dIn_s, Bool.not_true, Bool.not_false]
      exact ⟨mulOk_l (by decide) (by decide), end_id hq⟩
    · exact no (by rw [decide_eq_false h7, Bool.and_false])
/-! ahead -/
def ahB : D → D → Bool
  | .tup [_, .int k1, .tup [.int a, .int b]], .tup [_, .int k2, .tup [.int c, .int d]] => if a = c ∧ b = d then decide (k1 < k2) else decide (a * d < c * b)
  | _, _ => false
theorem tm_of {m n : Nat} {d : D} (h : Th m n d) (ht : tmB d = true) : ∃ (a b kx i j : Int), d = .tup [fr a b, .int kx, fr i j] ∧ a.natAbs < 10 ^ 40 ∧ b.natAbs < 10 ^ 40 ∧ i.natAbs < 10 ^ 40 ∧ j.natAbs < 10 ^ 40 ∧ 0 < j ∧ Int.gcd i j = 1 := by
  unfold tmB at ht
  split at ht
  · rename_i c kx q
    simp only [Bool.and_eq_true] at ht
    obtain ⟨h1, h2, h3, h4, h5, h6⟩ := ht
    cases h with
    | tup hx hz =>
      obtain ⟨a, b, rfl, ha, hb, _, _⟩ := frB_of (hx c (by simp)) h1
      obtain ⟨i, j, rfl, hi, hj, hj0, hg⟩ := frB_of (hx q (by simp)) h4
      have xk := hx kx (by simp)
      cases xk with
      | int ki _ => exact ⟨a, b, ki, i, j, rfl, ha, hb, hi, hj, hj0, hg⟩
      | _ => simp [wiB] at h3
  · cases ht
def sp_ahead : PSp := fun ds S Q _ => ∃ (d e : D) (m n m' n' : Nat), ds = [d, e] ∧ Th m n d ∧ Th m' n' e ∧ tmB d = true ∧ tmB e = true ∧ Q (.bl (ahB d e)) S
theorem ok_is_ahead (e : En w kl K mg) (t : Tx1 K mg "is_ahead" st_is_ahead) (F : Fn1 P w K mg base 1 "is_less" ["one", "other"] sp_less) : Fn1 P w K mg base 2 "is_ahead" ["one", "other"] sp_ahead := by
  refine mk_is_ahead (k := 1) e t F (fun ds S Q E => ?_) (fun ds S Q E => ?_)
  · rintro ⟨d, e, m, n, m', n', rfl, _⟩
    rfl
  · rintro ⟨d, e', m, n, m', n', rfl, hd, he, td, te, hq⟩
    obtain ⟨a, b, k1, i, j, rfl, _, _, hi, hj, _, _⟩ := tm_of hd td
    obtain ⟨a', b', k2, i', j', rfl, _, _, hi', hj', _, _⟩ := tm_of he te
    have hq' : Q (.bl (if i = i' ∧ j = j' then decide (k1 < k2) else decide (i * j' < i' * j))) S := hq
    simp only [wb_is_ahead, wRet, wSeq, wIfS, wSet, wVar, wC, wBin, wTest, wAnd, wOr, wNot, wAndV, wOrV, wNotV, wIf, wCall, wCons, wNil, wTup, wLst, wLstM, wCB, wUn, wChain, wSl, wPart, wNo, wAsg, wgTup, wgCons, wgNil, wName, wPar, wSetIx, wAug, wDrop, wNext, wNever, wBM, wLstR1, EK.of, startG, List.map_cons, List.map_nil, List.length_cons, List.length_nil, Nat.reduceAdd, Nat.reduceSub, List.replicate, List.cons_append, List.nil_append, List.getElem?_cons_zero, List.getElem?_cons_succ, List.set_cons_zero, List.set_cons_succ, Option.some.injEq, exists_eq_left', exists_eq_left, D.bl.injEq, D.int.injEq, D.tup.injEq, D.lst.injEq, D.str.injEq, exists_and_left, if_true, Bool.false_eq_true, if_false, true_and, and_true, Int.cast_ofNat_Int, Int.reduceLT, Int.reduceLE, Int.reduceEq, Int.reduceNeg, Int.reduceAdd, Int.reduceSub, decide_true, decide_false, decide_eq_true_eq, List.getElem?_nil, reduceCtorEq, false_and, exists_false, dI_i, dIC_i, dB_i, dNeg_i, dAdd_i, dAdd_s, dAdd_t, dAdd_l, dMul_i, dMul_l, dEq_i, dEq_s, dEq_b, dNe_i, dNe_s, dNe_b, dIsN_n, dIsN_i, dIsN_l, dIsN_t, dNotN_n, dNotN_i, dNotN_l, dNotN_t, dRev_t, dIx_t, dIx_l, atI_0, atI_1, atI_2, atI_3, atI_4, rLen_s, rLen_t, rLen_l, rLen_c, rInt_i, rInt_b, rAbs_i, rList_t, rList_l, rLen_put, dIx_put, tyM_put, dIn_s, Bool.not_true, Bool.not_false, dIxA_t]
    refine dEq_fr ⟨_, rfl, iteB (fun h => ?_) fun h => ?_⟩
    · have h' : i = i' ∧ j = j' := by simpa using h
      rw [if_pos h'] at hq'
      try simp only [wRet, wSeq, wIfS, wSet, wVar, wC, wBin, wTest, wAnd, wOr, wNot, wAndV, wOrV, wNotV, wIf, wCall, wCons, wNil, wTup, wLst, wLstM, wCB, wUn, wChain, wSl, wPart, wNo, wAsg, wgTup, wgCons, wgNil, wName, wPar, wSetIx, wAug, wDrop, wNext, wNever, wBM, wLstR1, EK.of, startG, List.map_cons, List.map_nil, List.length_cons, List.length_nil, Nat.reduceAdd, Nat.reduceSub, List.replicate, List.cons_append, List.nil_append, List.getElem?_cons_zero, List.getElem?_cons_succ, List.set_cons_zero, List.set_cons_succ, Option.some.injEq, exists_eq_left', exists_eq_left, D.bl.injEq, D.int.injEq, D.tup.injEq, D.lst.injEq, D.str.injEq, exists_and_left, if_true, Bool.false_eq_true, if_false, true_and, and_true, Int.cast_ofNat_Int, Int.reduceLT, Int.reduceLE, Int.reduceEq, Int.reduceNeg, Int.reduceAdd, Int.reduceSub, decide_true, decide_false, decide_eq_true_eq, List.getElem?_nil, reduceCtorEq, false_and, exists_false, dI_i, dIC_i, dB_i, dNeg_i, dAdd_i, dAdd_s, dAdd_t, dAdd_l, dMul_i, dMul_l, dEq_i, dEq_s, dEq_b, dNe_i, dNe_s, dNe_b, dIsN_n, dIsN_i, dIsN_l, dIsN_t, dNotN_n, dNotN_i, dNotN_l, dNotN_t, dRev_t, dIx_t, dIx_l, atI_0, atI_1, atI_2, atI_3, atI_4, rLen_s, rLen_t, rLen_l, rLen_c, rInt_i, rInt_b, rAbs_i, rList_t, rList_l, rLen_put, dIx_put, tyM_put, dIn_s, Bool.not_true, Bool.not_false, dIxA_t]
      exact end_id hq'
    · have h' : ¬ (i = i' ∧ j = j') := by simpa using h
      rw [if_neg h'] at hq'
      try simp only [wRet, wSeq, wIfS, wSet, wVar, wC, wBin, wTest, wAnd, wOr, wNot, wAndV, wOrV, wNotV, wIf, wCall, wCons, wNil, wTup, wLst, wLstM, wCB, wUn, wChain, wSl, wPart, wNo, wAsg, wgTup, wgCons, wgNil, wName, wPar, wSetIx, wAug, wDrop, wNext, wNever, wBM, wLstR1, EK.of, startG, List.map_cons, List.map_nil, List.length_cons, List.length_nil, Nat.reduceAdd, Nat.reduceSub, List.replicate, List.cons_append, List.nil_append, List.getElem?_cons_zero, List.getElem?_cons_succ, List.set_cons_zero, List.set_cons_succ, Option.some.injEq, exists_eq_left', exists_eq_left, D.bl.injEq, D.int.injEq, D.tup.injEq, D.lst.injEq, D.str.injEq, exists_and_left, if_true, Bool.false_eq_true, if_false, true_and, and_true, Int.cast_ofNat_Int, Int.reduceLT, Int.reduceLE, Int.reduceEq, Int.reduceNeg, Int.reduceAdd, Int.reduceSub, decide_true, decide_false, decide_eq_true_eq, List.getElem?_nil, reduceCtorEq, false_and, exists_false, dI_i, dIC_i, dB_i, dNeg_i, dAdd_i, dAdd_s, dAdd_t, dAdd_l, dMul_i, dMul_l, dEq_i, dEq_s, dEq_b, dNe_i, dNe_s, dNe_b, dIsN_n, dIsN_i, dIsN_l, dIsN_t, dNotN_n, dNotN_i, dNotN_l, dNotN_t, dRev_t, dIx_t, dIx_l, atI_0, atI_1, atI_2, atI_3, atI_4, rLen_s, rLen_t, rLen_l, rLen_c, rInt_i, rInt_b, rAbs_i, rList_t, rList_l, rLen_put, dIx_put, tyM_put, dIn_s, Bool.not_true, Bool.not_false, dIxA_t]
      exact ⟨i, j, i', j', rfl, hi, hj, hi', hj', end_id hq'⟩
theorem ok_law_is_behind (e : En w kl K mg) (t : Tx1 K mg "_law_is_behind" st_law_is_behind) (F : Fn1 P w K mg base 1 "_law_less" ["_law_one", "_law_other"] sp_less) : Fn1 P w K mg base 2 "_law_is_behind" ["_law_ahead", "_law_term"] sp_ahead := by
  refine mk_law_is_behind (k := 1) e t F (fun ds S Q E => ?_) (fun ds S Q E => ?_)
  · rintro ⟨d, e, m, n, m', n', rfl, _⟩
    rfl
  · rintro ⟨d, e', m, n, m', n', rfl, hd, he, td, te, hq⟩
    obtain ⟨a, b, k1, i, j, rfl, _, _, hi, hj, _, _⟩ := tm_of hd td
    obtain ⟨a', b', k2, i', j', rfl, _, _, hi', hj', _, _⟩ := tm_of he te
    have hq' : Q (.bl (if i = i' ∧ j = j' then decide (k1 < k2) else decide (i * j' < i' * j))) S := hq
    simp only [wb_law_is_behind, wRet, wSeq, wIfS, wSet, wVar, wC, wBin, wTest, wAnd, wOr, wNot, wAndV, wOrV, wNotV, wIf, wCall, wCons, wNil, wTup, wLst, wLstM, wCB, wUn, wChain, wSl, wPart, wNo, wAsg, wgTup, wgCons, wgNil, wName, wPar, wSetIx, wAug, wDrop, wNext, wNever, wBM, wLstR1, EK.of, startG, List.map_cons, List.map_nil, List.length_cons, List.length_nil, Nat.reduceAdd, Nat.reduceSub, List.replicate, List.cons_append, List.nil_append, List.getElem?_cons_zero, List.getElem?_cons_succ, List.set_cons_zero, List.set_cons_succ, Option.some.injEq, exists_eq_left', exists_eq_left, D.bl.injEq, D.int.injEq, D.tup.injEq, D.lst.injEq, D.str.injEq, exists_and_left, if_true, Bool.false_eq_true, if_false, true_and, and_true, Int.cast_ofNat_Int, Int.reduceLT, Int.reduceLE, Int.reduceEq, Int.reduceNeg, Int.reduceAdd, Int.reduceSub, decide_true, decide_false, decide_eq_true_eq, List.getElem?_nil, reduceCtorEq, false_and, exists_false, dI_i, dIC_i, dB_i, dNeg_i, dAdd_i, dAdd_s, dAdd_t, dAdd_l, dMul_i, dMul_l, dEq_i, dEq_s, dEq_b, dNe_i, dNe_s, dNe_b, dIsN_n, dIsN_i, dIsN_l, dIsN_t, dNotN_n, dNotN_i, dNotN_l, dNotN_t, dRev_t, dIx_t, dIx_l, atI_0, atI_1, atI_2, atI_3, atI_4, rLen_s, rLen_t, rLen_l, rLen_c, rInt_i, rInt_b, rAbs_i, rList_t, rList_l, rLen_put, dIx_put, tyM_put, dIn_s, Bool.not_true, Bool.not_false, dIxA_t]
    refine dEq_fr ⟨_, rfl, iteB (fun h => ?_) fun h => ?_⟩
    · have h' : i = i' ∧ j = j' := by simpa using h
      rw [if_pos h'] at hq'
      try simp only [wRet, wSeq, wIfS, wSet, wVar, wC, wBin, wTest, wAnd, wOr, wNot, wAndV, wOrV, wNotV, wIf, wCall, wCons, wNil, wTup, wLst, wLstM, wCB, wUn, wChain, wSl, wPart, wNo, wAsg, wgTup, wgCons, wgNil, wName, wPar, wSetIx, wAug, wDrop, wNext, wNever, wBM, wLstR1, EK.of, startG, List.map_cons, List.map_nil, List.length_cons, List.length_nil, Nat.reduceAdd, Nat.reduceSub, List.replicate, List.cons_append, List.nil_append, List.getElem?_cons_zero, List.getElem?_cons_succ, List.set_cons_zero, List.set_cons_succ, Option.some.injEq, exists_eq_left', exists_eq_left, D.bl.injEq, D.int.injEq, D.tup.injEq, D.lst.injEq, D.str.injEq, exists_and_left, if_true, Bool.false_eq_true, if_false, true_and, and_true, Int.cast_ofNat_Int, Int.reduceLT, Int.reduceLE, Int.reduceEq, Int.reduceNeg, Int.reduceAdd, Int.reduceSub, decide_true, decide_false, decide_eq_true_eq, List.getElem?_nil, reduceCtorEq, false_and, exists_false, dI_i, dIC_i, dB_i, dNeg_i, dAdd_i, dAdd_s, dAdd_t, dAdd_l, dMul_i, dMul_l, dEq_i, dEq_s, dEq_b, dNe_i, dNe_s, dNe_b, dIsN_n, dIsN_i, dIsN_l, dIsN_t, dNotN_n, dNotN_i, dNotN_l, dNotN_t, dRev_t, dIx_t, dIx_l, atI_0, atI_1, atI_2, atI_3, atI_4, rLen_s, rLen_t, rLen_l, rLen_c, rInt_i, rInt_b, rAbs_i, rList_t, rList_l, rLen_put, dIx_put, tyM_put, dIn_s, Bool.not_true, Bool.not_false, dIxA_t]
      exact end_id hq'
    · have h' : ¬ (i = i' ∧ j = j') := by simpa using h
      rw [if_neg h'] at hq'
      try simp only [wRet, wSeq, wIfS, wSet, wVar, wC, wBin, wTest, wAnd, wOr, wNot, wAndV, wOrV, wNotV, wIf, wCall, wCons, wNil, wTup, wLst, wLstM, wCB, wUn, wChain, wSl, wPart, wNo, wAsg, wgTup, wgCons, wgNil, wName, wPar, wSetIx, wAug, wDrop, wNext, wNever, wBM, wLstR1, EK.of, startG, List.map_cons, List.map_nil, List.length_cons, List.length_nil, Nat.reduceAdd, Nat.reduceSub, List.replicate, List.cons_append, List.nil_append, List.getElem?_cons_zero, List.getElem?_cons_succ, List.set_cons_zero, List.set_cons_succ, Option.some.injEq, exists_eq_left', exists_eq_left, D.bl.injEq, D.int.injEq, D.tup.injEq, D.lst.injEq, D.str.injEq, exists_and_left, if_true, Bool.false_eq_true, if_false, true_and, and_true, Int.cast_ofNat_Int, Int.reduceLT, Int.reduceLE, Int.reduceEq, Int.reduceNeg, Int.reduceAdd, Int.reduceSub, decide_true, decide_false, decide_eq_true_eq, List.getElem?_nil, reduceCtorEq, false_and, exists_false, dI_i, dIC_i, dB_i, dNeg_i, dAdd_i, dAdd_s, dAdd_t, dAdd_l, dMul_i, dMul_l, dEq_i, dEq_s, dEq_b, dNe_i, dNe_s, dNe_b, dIsN_n, dIsN_i, dIsN_l, dIsN_t, dNotN_n, dNotN_i, dNotN_l, dNotN_t, dRev_t, dIx_t, dIx_l, atI_0, atI_1, atI_2, atI_3, atI_4, rLen_s, rLen_t, rLen_l, rLen_c, rInt_i, rInt_b, rAbs_i, rList_t, rList_l, rLen_put, dIx_put, tyM_put, dIn_s, Bool.not_true, Bool.not_false, dIxA_t]
      exact ⟨i, j, i', j', rfl, hi, hj, hi', hj', end_id hq'⟩
end K01
end
/-! from K01e.lean -/
section
set_option exponentiation.threshold 10000
namespace K01
open PySem L2 PL
variable [TabCtx]
variable {P : Program} {w : World} {kl : Str → Addr} {K : PySem.W.Frag} {mg : Str → Option Value} {base : Heap} {k : Nat}
/-- the place of the first wrong term -/
def judL : Option D → Nat → List D → Option Nat
  | _, _, [] => none
  | o, i, x :: xs => if (tmB x && (match o with | none => true | some p => ahB p x)) = true then judL (some x) (i + 1) xs else some i
theorem judL_cons (o : Option D) (i : Nat) (x : D) (xs : List D) : judL o i (x :: xs) = if (tmB x && (match o with | none => true | some p => ahB p x)) = true then judL (some x) (i + 1) xs else some i := rfl
def judge : D → Option Int
  | .tup ds => if 8 < ds.length then some (-1) else (judL none 0 ds).map fun i => (i : Int)
  | _ => some (-1)
def prev (ds : List D) (i : Nat) : Option D := if i = 0 then none else ds[i - 1]?
theorem judL_step {ds : List D} {i : Nat} {x : D} (hx : ds[i]? = some x) (h : judL none 0 ds = judL (prev ds i) i (ds.drop i)) (ht : tmB x = true) (ha : ∀ p, prev ds i = some p → ahB p x = true) : judL none 0 ds = judL (prev ds (i + 1)) (i + 1) (ds.drop (i + 1)) := by
  obtain ⟨hl, e⟩ := List.getElem?_eq_some_iff.mp hx
  rw [h, List.drop_eq_getElem_cons hl, e, judL_cons, if_pos]
  · show judL (some x) (i + 1) _ = _
    rw [show prev ds (i + 1) = some x from by unfold prev; rw [if_neg (by omega), Nat.add_sub_cancel, hx]]
  · rw [ht, Bool.true_and]
    cases z : prev ds i with
    | none => rfl
    | some p => exact ha p z
theorem judL_stop {ds : List D} {i : Nat} {x : D} (hx : ds[i]? = some x) (h : judL none 0 ds = judL (prev ds i) i (ds.drop i)) (hb : tmB x = false ∨ ∃ p, prev ds i = some p ∧ ahB p x = false) : judL none 0 ds = some i := by
  obtain ⟨hl, e⟩ := List.getElem?_eq_some_iff.mp hx
  rw [h, List.drop_eq_getElem_cons hl, e, judL_cons, if_neg]
  rcases hb with hb | ⟨p, hp, hb⟩
  · rw [hb]; simp
  · rw [hp]; simp [hb]
/-- what Curve's __init__ does -/
def cs_Curve (kl : Str → Addr) : CSp := fun ds Q E => ∃ d m n, ds = [d] ∧ Th m n d ∧ m ≤ 1000 ∧ (match judge d with | none => Q [("terms", d)] | some i => E (.ref (kl "BadCurve")) [("index", .int i)])
theorem ok_Curve {f : Addr} {fd : FuncData} (e : En w kl K mg) (hm : mg "Curve" = some (.ref (kl "Curve"))) (m : Mk K (kl "Curve") f) (F : FunD K "__init__" "Curve.__init__" (defArgs st_Curve_init) (defBody st_Curve_init) (defScope st_Curve_init) [] [] f fd) (I : ∃ f, ExKl P K (kl "BadCurve") f "index")
    (F1 : Fn1 P w K mg base 4 "is_ahead" ["one", "other"] sp_ahead) (F2 : Fn1 P w K mg base 4 "is_term" ["thing"] sp_term) : Kl1 P w K mg base 5 "Curve" (kl "Curve") ["terms"] (cs_Curve kl) := by
  refine mk_Curve_init (k := 4) e hm m F I F1 F2 (fun ds S Q E => ?_) (fun ds S Q E => ?_)
  · rintro ⟨p, rest, S0, rfl, _, _, d, m, n, rfl, _⟩
    rfl
  · rintro ⟨p, rest, S0, rfl, hp, rfl, d, m', n, rfl, hd, hmm, hq⟩
    have hpl := hd.pl
    simp only [wb_Curve_init, wRet, wSeq, wIfS, wSet, wVar, wC, wBin, wTest, wAnd, wOr, wNot, wAndV, wOrV, wNotV, wIf, wCall, wCons, wNil, wTup, wLst, wLstM, wCB, wUn, wChain, wSl, wPart, wNo, wAsg, wgTup, wgCons, wgNil, wName, wPar, wSetIx, wAug, wDrop, wNext, wNever, wBM, wLstR1, EK.of, startG, List.map_cons, List.map_nil, List.length_cons, List.length_nil, Nat.reduceAdd, Nat.reduceSub, List.replicate, List.cons_append, List.nil_append, List.getElem?_cons_zero, List.getElem?_cons_succ, List.set_cons_zero, List.set_cons_succ, Option.some.injEq, exists_eq_left', exists_eq_left, D.bl.injEq, D.int.injEq, D.tup.injEq, D.lst.injEq, D.str.injEq, exists_and_left, if_true, Bool.false_eq_true, if_false, true_and, and_true, Int.cast_ofNat_Int, Int.reduceLT, Int.reduceLE, Int.reduceEq, Int.reduceNeg, Int.reduceAdd, Int.reduceSub, decide_true, decide_false, decide_eq_true_eq, List.getElem?_nil, reduceCtorEq, false_and, exists_false, dI_i, dIC_i, dB_i, dNeg_i, dAdd_i, dAdd_s, dAdd_t, dAdd_l, dMul_i, dMul_l, dEq_i, dEq_s, dEq_b, dNe_i, dNe_s, dNe_b, dIsN_n, dIsN_i, dIsN_l, dIsN_t, dNotN_n, dNotN_i, dNotN_l, dNotN_t, dRev_t, dIx_t, dIx_l, atI_0, atI_1, atI_2, atI_3, atI_4, rLen_s, rLen_t, rLen_l, rLen_c, rInt_i, rInt_b, rAbs_i, rList_t, rList_l, rLen_put, dIx_put, tyM_put, dIn_s, Bool.not_true, Bool.not_false, rIsi_tuple hpl]
    have bad : ∀ i : Int, judge d = some i → E (.ref (kl "BadCurve")) [("index", .int i)] (S0.put p (.ins (kl "Curve") [])) := fun i h => by
      rw [h] at hq
      exact hq []
    refine iteB (fun h => ?_) fun h => ?_
    · simp only [wRaiseI, wRet, wSeq, wIfS, wSet, wVar, wC, wBin, wTest, wAnd, wOr, wNot, wAndV, wOrV, wNotV, wIf, wCall, wCons, wNil, wTup, wLst, wLstM, wCB, wUn, wChain, wSl, wPart, wNo, wAsg, wgTup, wgCons, wgNil, wName, wPar, wSetIx, wAug, wDrop, wNext, wNever, wBM, wLstR1, EK.of, startG, List.map_cons, List.map_nil, List.length_cons, List.length_nil, Nat.reduceAdd, Nat.reduceSub, List.replicate, List.cons_append, List.nil_append, List.getElem?_cons_zero, List.getElem?_cons_succ, List.set_cons_zero, List.set_cons_succ, Option.some.injEq, exists_eq_left', exists_eq_left, D.bl.injEq, D.int.injEq, D.tup.injEq, D.lst.injEq, D.str.injEq, exists_and_left, if_true, Bool.false_eq_true, if_false, true_and, and_true, Int.cast_ofNat_Int, Int.reduceLT, Int.reduceLE, Int.reduceEq, Int.reduceNeg, Int.reduceAdd, Int.reduceSub, decide_true, decide_false, decide_eq_true_eq, List.getElem?_nil, reduceCtorEq, false_and, exists_false, dI_i, dIC_i, dB_i, dNeg_i, dAdd_i, dAdd_s, dAdd_t, dAdd_l, dMul_i, dMul_l, dEq_i, dEq_s, dEq_b, dNe_i, dNe_s, dNe_b, dIsN_n, dIsN_i, dIsN_l, dIsN_t, dNotN_n, dNotN_i, dNotN_l, dNotN_t, dRev_t, dIx_t, dIx_l, atI_0, atI_1, atI_2, atI_3, atI_4, rLen_s, rLen_t, rLen_l, rLen_c, rInt_i, rInt_b, rAbs_i, rList_t, rList_l, rLen_put, dIx_put, tyM_put, dIn_s, Bool.not_true, Bool.not_false]
      refine bad (-1) ?_
      cases hd <;> first | rfl | (simp [tyn, isa] at h)
    obtain ⟨ds, rfl, hl, hx⟩ := tup_of hd (by simpa using h)
    simp only [wRet, wSeq, wIfS, wSet, wVar, wC, wBin, wTest, wAnd, wOr, wNot, wAndV, wOrV, wNotV, wIf, wCall, wCons, wNil, wTup, wLst, wLstM, wCB, wUn, wChain, wSl, wPart, wNo, wAsg, wgTup, wgCons, wgNil, wName, wPar, wSetIx, wAug, wDrop, wNext, wNever, wBM, wLstR1, EK.of, startG, List.map_cons, List.map_nil, List.length_cons, List.length_nil, Nat.reduceAdd, Nat.reduceSub, List.replicate, List.cons_append, List.nil_append, List.getElem?_cons_zero, List.getElem?_cons_succ, List.set_cons_zero, List.set_cons_succ, Option.some.injEq, exists_eq_left', exists_eq_left, D.bl.injEq, D.int.injEq, D.tup.injEq, D.lst.injEq, D.str.injEq, exists_and_left, if_true, Bool.false_eq_true, if_false, true_and, and_true, Int.cast_ofNat_Int, Int.reduceLT, Int.reduceLE, Int.reduceEq, Int.reduceNeg, Int.reduceAdd, Int.reduceSub, decide_true, decide_false, decide_eq_true_eq, List.getElem?_nil, reduceCtorEq, false_and, exists_false, dI_i, dIC_i, dB_i, dNeg_i, dAdd_i, dAdd_s, dAdd_t, dAdd_l, dMul_i, dMul_l, dEq_i, dEq_s, dEq_b, dNe_i, dNe_s, dNe_b, dIsN_n, dIsN_i, dIsN_l, dIsN_t, dNotN_n, dNotN_i, dNotN_l, dNotN_t, dRev_t, dIx_t, dIx_l, atI_0, atI_1, atI_2, atI_3, atI_4, rLen_s, rLen_t, rLen_l, rLen_c, rInt_i, rInt_b, rAbs_i, rList_t, rList_l, rLen_put, dIx_put, tyM_put, dIn_s, Bool.not_true, Bool.not_false, rLen_t]
    refine ite2 (fun h2 => ?_) fun h2 => ?_
    · simp only [wRaiseI, wRet, wSeq, wIfS, wSet, wVar, wC, wBin, wTest, wAnd, wOr, wNot, wAndV, wOrV, wNotV, wIf, wCall, wCons, wNil, wTup, wLst, wLstM, wCB, wUn, wChain, wSl, wPart, wNo, wAsg, wgTup, wgCons, wgNil, wName, wPar, wSetIx, wAug, wDrop, wNext, wNever, wBM, wLstR1, EK.of, startG, List.map_cons, List.map_nil, List.length_cons, List.length_nil, Nat.reduceAdd, Nat.reduceSub, List.replicate, List.cons_append, List.nil_append, List.getElem?_cons_zero, List.getElem?_cons_succ, List.set_cons_zero, List.set_cons_succ, Option.some.injEq, exists_eq_left', exists_eq_left, D.bl.injEq, D.int.injEq, D.tup.injEq, D.lst.injEq, D.str.injEq, exists_and_left, if_true, Bool.false_eq_true, if_false, true_and, and_true, Int.cast_ofNat_Int, Int.reduceLT, Int.reduceLE, Int.reduceEq, Int.reduceNeg, Int.reduceAdd, Int.reduceSub, decide_true, decide_false, decide_eq_true_eq, List.getElem?_nil, reduceCtorEq, false_and, exists_false, dI_i, dIC_i, dB_i, dNeg_i, dAdd_i, dAdd_s, dAdd_t, dAdd_l, dMul_i, dMul_l, dEq_i, dEq_s, dEq_b, dNe_i, dNe_s, dNe_b, dIsN_n, dIsN_i, dIsN_l, dIsN_t, dNotN_n, dNotN_i, dNotN_l, dNotN_t, dRev_t, dIx_t, dIx_l, atI_0, atI_1, atI_2, atI_3, atI_4, rLen_s, rLen_t, rLen_l, rLen_c, rInt_i, rInt_b, rAbs_i, rList_t, rList_l, rLen_put, dIx_put, tyM_put, dIn_s, Bool.not_true, Bool.not_false]
      refine bad (-1) ?_
      show (if 8 < ds.length then some (-1 : Int) else _) = _
      rw [if_pos (by omega)]
    have h8 : ¬ 8 < ds.length := by omega
    have jd : judge (.tup ds) = (judL none 0 ds).map fun i => (i : Int) := if_neg h8
    simp only [wb_Curve_init_1, wFor, wiE, wRet, wSeq, wIfS, wSet, wVar, wC, wBin, wTest, wAnd, wOr, wNot, wAndV, wOrV, wNotV, wIf, wCall, wCons, wNil, wTup, wLst, wLstM, wCB, wUn, wChain, wSl, wPart, wNo, wAsg, wgTup, wgCons, wgNil, wName, wPar, wSetIx, wAug, wDrop, wNext, wNever, wBM, wLstR1, EK.of, startG, List.map_cons, List.map_nil, List.length_cons, List.length_nil, Nat.reduceAdd, Nat.reduceSub, List.replicate, List.cons_append, List.nil_append, List.getElem?_cons_zero, List.getElem?_cons_succ, List.set_cons_zero, List.set_cons_succ, Option.some.injEq, exists_eq_left', exists_eq_left, D.bl.injEq, D.int.injEq, D.tup.injEq, D.lst.injEq, D.str.injEq, exists_and_left, if_true, Bool.false_eq_true, if_false, true_and, and_true, Int.cast_ofNat_Int, Int.reduceLT, Int.reduceLE, Int.reduceEq, Int.reduceNeg, Int.reduceAdd, Int.reduceSub, decide_true, decide_false, decide_eq_true_eq, List.getElem?_nil, reduceCtorEq, false_and, exists_false, dI_i, dIC_i, dB_i, dNeg_i, dAdd_i, dAdd_s, dAdd_t, dAdd_l, dMul_i, dMul_l, dEq_i, dEq_s, dEq_b, dNe_i, dNe_s, dNe_b, dIsN_n, dIsN_i, dIsN_l, dIsN_t, dNotN_n, dNotN_i, dNotN_l, dNotN_t, dRev_t, dIx_t, dIx_l, atI_0, atI_1, atI_2, atI_3, atI_4, rLen_s, rLen_t, rLen_l, rLen_c, rInt_i, rInt_b, rAbs_i, rList_t, rList_l, rLen_put, dIx_put, tyM_put, dIn_s, Bool.not_true, Bool.not_false]
    refine ⟨fun i Γ S' => S' = S0.put p (.ins (kl "Curve") []) ∧ (∃ x2 x3, Γ = [some (.ref p), some (.tup ds), x2, x3]) ∧ judL none 0 ds = judL (prev ds i) i (ds.drop i) ∧ ∀ q, prev ds i = some q → tmB q = true, ⟨rfl, ⟨none, none, rfl⟩, rfl, fun q z => by cases z⟩, fun _ _ _ _ _ => trivial, ?_, ?_⟩
    · rintro i y Γ S' hy ⟨rfl, ⟨x2, x3, rfl⟩, hj, hpv⟩
      obtain ⟨x, hxi, rfl⟩ := enumD_get hy
      have xx := hx x (List.mem_of_getElem? hxi)
      simp only [wRet, wSeq, wIfS, wSet, wVar, wC, wBin, wTest, wAnd, wOr, wNot, wAndV, wOrV, wNotV, wIf, wCall, wCons, wNil, wTup, wLst, wLstM, wCB, wUn, wChain, wSl, wPart, wNo, wAsg, wgTup, wgCons, wgNil, wName, wPar, wSetIx, wAug, wDrop, wNext, wNever, wBM, wLstR1, EK.of, startG, List.map_cons, List.map_nil, List.length_cons, List.length_nil, Nat.reduceAdd, Nat.reduceSub, List.replicate, List.cons_append, List.nil_append, List.getElem?_cons_zero, List.getElem?_cons_succ, List.set_cons_zero, List.set_cons_succ, Option.some.injEq, exists_eq_left', exists_eq_left, D.bl.injEq, D.int.injEq, D.tup.injEq, D.lst.injEq, D.str.injEq, exists_and_left, if_true, Bool.false_eq_true, if_false, true_and, and_true, Int.cast_ofNat_Int, Int.reduceLT, Int.reduceLE, Int.reduceEq, Int.reduceNeg, Int.reduceAdd, Int.reduceSub, decide_true, decide_false, decide_eq_true_eq, List.getElem?_nil, reduceCtorEq, false_and, exists_false, dI_i, dIC_i, dB_i, dNeg_i, dAdd_i, dAdd_s, dAdd_t, dAdd_l, dMul_i, dMul_l, dEq_i, dEq_s, dEq_b, dNe_i, dNe_s, dNe_b, dIsN_n, dIsN_i, dIsN_l, dIsN_t, dNotN_n, dNotN_i, dNotN_l, dNotN_t, dRev_t, dIx_t, dIx_l, atI_0, atI_1, atI_2, atI_3, atI_4, rLen_s, rLen_t, rLen_l, rLen_c, rInt_i, rInt_b, rAbs_i, rList_t, rList_l, rLen_put, dIx_put, tyM_put, dIn_s, Bool.not_true, Bool.not_false]
      refine ⟨_, _, rfl, _, _, rfl, rfl, x, _, _, rfl, xx, _, rfl, iteB (fun h3 => ?_) fun h3 => ?_⟩
      · simp only [wRaiseI, wRet, wSeq, wIfS, wSet, wVar, wC, wBin, wTest, wAnd, wOr, wNot, wAndV, wOrV, wNotV, wIf, wCall, wCons, wNil, wTup, wLst, wLstM, wCB, wUn, wChain, wSl, wPart, wNo, wAsg, wgTup, wgCons, wgNil, wName, wPar, wSetIx, wAug, wDrop, wNext, wNever, wBM, wLstR1, EK.of, startG, List.map_cons, List.map_nil, List.length_cons, List.length_nil, Nat.reduceAdd, Nat.reduceSub, List.replicate, List.cons_append, List.nil_append, List.getElem?_cons_zero, List.getElem?_cons_succ, List.set_cons_zero, List.set_cons_succ, Option.some.injEq, exists_eq_left', exists_eq_left, D.bl.injEq, D.int.injEq, D.tup.injEq, D.lst.injEq, D.str.injEq, exists_and_left, if_true, Bool.false_eq_true, if_false, true_and, and_true, Int.cast_ofNat_Int, Int.reduceLT, Int.reduceLE, Int.reduceEq, Int.reduceNeg, Int.reduceAdd, Int.reduceSub, decide_true, decide_false, decide_eq_true_eq, List.getElem?_nil, reduceCtorEq, false_and, exists_false, dI_i, dIC_i, dB_i, dNeg_i, dAdd_i, dAdd_s, dAdd_t, dAdd_l, dMul_i, dMul_l, dEq_i, dEq_s, dEq_b, dNe_i, dNe_s, dNe_b, dIsN_n, dIsN_i, dIsN_l, dIsN_t, dNotN_n, dNotN_i, dNotN_l, dNotN_t, dRev_t, dIx_t, dIx_l, atI_0, atI_1, atI_2, atI_3, atI_4, rLen_s, rLen_t, rLen_l, rLen_c, rInt_i, rInt_b, rAbs_i, rList_t, rList_l, rLen_put, dIx_put, tyM_put, dIn_s, Bool.not_true, Bool.not_false]
        refine bad i ?_
        rw [jd, judL_stop hxi hj (.inl (by simpa using h3))]
        rfl
      have h3' : tmB x = true := by simpa using h3
      have nxt : ∀ q, prev ds (i + 1) = some q → tmB q = true := fun q hq2 => by
        unfold prev at hq2
        rw [if_neg (by omega), Nat.add_sub_cancel, hxi] at hq2
        cases hq2
        exact h3'
      have go : (∀ q, prev ds i = some q → ahB q x = true) → judL none 0 ds = judL (prev ds (i + 1)) (i + 1) (ds.drop (i + 1)) := fun ha => judL_step hxi hj h3' ha
      simp only [wRet, wSeq, wIfS, wSet, wVar, wC, wBin, wTest, wAnd, wOr, wNot, wAndV, wOrV, wNotV, wIf, wCall, wCons, wNil, wTup, wLst, wLstM, wCB, wUn, wChain, wSl, wPart, wNo, wAsg, wgTup, wgCons, wgNil, wName, wPar, wSetIx, wAug, wDrop, wNext, wNever, wBM, wLstR1, EK.of, startG, List.map_cons, List.map_nil, List.length_cons, List.length_nil, Nat.reduceAdd, Nat.reduceSub, List.replicate, List.cons_append, List.nil_append, List.getElem?_cons_zero, List.getElem?_cons_succ, List.set_cons_zero, List.set_cons_succ, Option.some.injEq, exists_eq_left', exists_eq_left, D.bl.injEq, D.int.injEq, D.tup.injEq, D.lst.injEq, D.str.injEq, exists_and_left, if_true, Bool.false_eq_true, if_false, true_and, and_true, Int.cast_ofNat_Int, Int.reduceLT, Int.reduceLE, Int.reduceEq, Int.reduceNeg, Int.reduceAdd, Int.reduceSub, decide_true, decide_false, decide_eq_true_eq, List.getElem?_nil, reduceCtorEq, false_and, exists_false, dI_i, dIC_i, dB_i, dNeg_i, dAdd_i, dAdd_s, dAdd_t, dAdd_l, dMul_i, dMul_l, dEq_i, dEq_s, dEq_b, dNe_i, dNe_s, dNe_b, dIsN_n, dIsN_i, dIsN_l, dIsN_t, dNotN_n, dNotN_i, dNotN_l, dNotN_t, dRev_t, dIx_t, dIx_l, atI_0, atI_1, atI_2, atI_3, atI_4, rLen_s, rLen_t, rLen_l, rLen_c, rInt_i, rInt_b, rAbs_i, rList_t, rList_l, rLen_put, dIx_put, tyM_put, dIn_s, Bool.not_true, Bool.not_false]
      refine ite2 (fun h4 => ?_) fun h4 => ?_
      · have hi0 : i ≠ 0 := by omega
        have hil : i < ds.length := (List.getElem?_eq_some_iff.mp hxi).1
        have hpi : prev ds i = some ds[i - 1] := by
          unfold prev
          rw [if_neg hi0, List.getElem?_eq_getElem (by omega)]
        have e1 : atI ds ((i : Int) - 1) = some ds[i - 1] := by
          rw [PL.atI_lit (n := i - 1) (by omega), List.getElem?_eq_getElem (by omega)]
        refine dIxA_t.mpr ⟨ds[i - 1], e1, ds[i - 1], x, _, _, _, _, rfl, hx _ (List.getElem_mem _), xx, hpv _ hpi, h3', _, rfl, iteB (fun h5 => ?_) fun h5 => ?_⟩
        · simp only [wRaiseI, wRet, wSeq, wIfS, wSet, wVar, wC, wBin, wTest, wAnd, wOr, wNot, wAndV, wOrV, wNotV, wIf, wCall, wCons, wNil, wTup, wLst, wLstM, wCB, wUn, wChain, wSl, wPart, wNo, wAsg, wgTup, wgCons, wgNil, wName, wPar, wSetIx, wAug, wDrop, wNext, wNever, wBM, wLstR1, EK.of, startG, List.map_cons, List.map_nil, List.length_cons, List.length_nil, Nat.reduceAdd, Nat.reduceSub, List.replicate, List.cons_append, List.nil_append, List.getElem?_cons_zero, List.getElem?_cons_succ, List.set_cons_zero, List.set_cons_succ, Option.some.injEq, exists_eq_left', exists_eq_left, D.bl.injEq, D.int.injEq, D.tup.injEq, D.lst.injEq, D.str.injEq, exists_and_left, if_true, Bool.false_eq_true, if_false, true_and, and_true, Int.cast_ofNat_Int, Int.reduceLT, Int.reduceLE, Int.reduceEq, Int.reduceNeg, Int.reduceAdd, Int.reduceSub, decide_true, decide_false, decide_eq_true_eq, List.getElem?_nil, reduceCtorEq, false_and, exists_false, dI_i, dIC_i, dB_i, dNeg_i, dAdd_i, dAdd_s, dAdd_t, dAdd_l, dMul_i, dMul_l, dEq_i, dEq_s, dEq_b, dNe_i, dNe_s, dNe_b, dIsN_n, dIsN_i, dIsN_l, dIsN_t, dNotN_n, dNotN_i, dNotN_l, dNotN_t, dRev_t, dIx_t, dIx_l, atI_0, atI_1, atI_2, atI_3, atI_4, rLen_s, rLen_t, rLen_l, rLen_c, rInt_i, rInt_b, rAbs_i, rList_t, rList_l, rLen_put, dIx_put, tyM_put, dIn_s, Bool.not_true, Bool.not_false]
          refine bad i ?_
          rw [jd, judL_stop hxi hj (.inr ⟨_, hpi, by simpa using h5⟩)]
          rfl
        · first | refine ⟨rfl, ⟨_, _, rfl⟩, go fun q hq2 => ?_, nxt⟩ | refine ⟨⟨_, _, rfl⟩, go fun q hq2 => ?_, nxt⟩
          rw [hpi] at hq2
          cases hq2
          simpa using h5
      · first | refine ⟨rfl, ⟨_, _, rfl⟩, go fun q hq2 => ?_, nxt⟩ | refine ⟨⟨_, _, rfl⟩, go fun q hq2 => ?_, nxt⟩
        have hi0 : i = 0 := by omega
        subst hi0
        cases hq2
    · rintro Γ S' ⟨rfl, ⟨x2, x3, rfl⟩, hj, hpv⟩
      rw [enumD_len] at hj
      rw [List.drop_length] at hj
      rw [jd, hj] at hq
      simp only [wb_Curve_init_0, wSetFld, wRet, wSeq, wIfS, wSet, wVar, wC, wBin, wTest, wAnd, wOr, wNot, wAndV, wOrV, wNotV, wIf, wCall, wCons, wNil, wTup, wLst, wLstM, wCB, wUn, wChain, wSl, wPart, wNo, wAsg, wgTup, wgCons, wgNil, wName, wPar, wSetIx, wAug, wDrop, wNext, wNever, wBM, wLstR1, EK.of, startG, List.map_cons, List.map_nil, List.length_cons, List.length_nil, Nat.reduceAdd, Nat.reduceSub, List.replicate, List.cons_append, List.nil_append, List.getElem?_cons_zero, List.getElem?_cons_succ, List.set_cons_zero, List.set_cons_succ, Option.some.injEq, exists_eq_left', exists_eq_left, D.bl.injEq, D.int.injEq, D.tup.injEq, D.lst.injEq, D.str.injEq, exists_and_left, if_true, Bool.false_eq_true, if_false, true_and, and_true, Int.cast_ofNat_Int, Int.reduceLT, Int.reduceLE, Int.reduceEq, Int.reduceNeg, Int.reduceAdd, Int.reduceSub, decide_true, decide_false, decide_eq_true_eq, List.getElem?_nil, reduceCtorEq, false_and, exists_false, dI_i, dIC_i, dB_i, dNeg_i, dAdd_i, dAdd_s, dAdd_t, dAdd_l, dMul_i, dMul_l, dEq_i, dEq_s, dEq_b, dNe_i, dNe_s, dNe_b, dIsN_n, dIsN_i, dIsN_l, dIsN_t, dNotN_n, dNotN_i, dNotN_l, dNotN_t, dRev_t, dIx_t, dIx_l, atI_0, atI_1, atI_2, atI_3, atI_4, rLen_s, rLen_t, rLen_l, rLen_c, rInt_i, rInt_b, rAbs_i, rList_t, rList_l, rLen_put, dIx_put, tyM_put, dIn_s, Bool.not_true, Bool.not_false]
      refine ⟨p, rfl, kl "Curve", [], Sto.put_same, by simp, rfl, by simp, ?_⟩
      rw [Sto.put_put]
      exact hq
end K01
end
/-! from K01f.lean -/
section
set_option exponentiation.threshold 10000
namespace K01
open PySem L2 PL
variable [TabCtx]
variable {P : Program} {w : World} {kl : Str → Addr} {K : PySem.W.Frag} {mg : Str → Option Value} {base : Heap} {k : Nat}
abbrev cuD (kl : Str → Addr) (d : D) : D := .obj (kl "Curve") [("terms", d)]
def sp_Ceq (kl : Str → Addr) : PSp := fun ds S Q _ => ∃ (xs : List D) (y : D), ds = [cuD kl (.tup xs), y] ∧
  ((∃ (ys : List D) (p p' : PyData), y = cuD kl (.tup ys) ∧ toPy (.tup xs) = some p ∧ toPy (.tup ys) = some p' ∧ SeqAt.shaped p = true ∧ SeqAt.shaped p' = true ∧ Q (.bl (PyData.eqv p p')) S) ∨ (isPl y = true ∧ Q (.bl false) S))
theorem ok_Ceq {f : Addr} {fd : FuncData} (e : En w kl K mg) (F : FunD K "__eq__" "Curve.__eq__" (defArgs st_Curve_eq) (defBody st_Curve_eq) (defScope st_Curve_eq) [] [] f fd) : FnOk P w K mg base (L2.CX P w) 1 f fd ["self", "other"] (liftSp K (sp_Ceq kl)) := by
  refine mk_Curve_eq (k := 0) e F (fun ds S Q E => ?_) (fun ds S Q E => ?_)
  · rintro ⟨xs, y, rfl, _⟩
    rfl
  · rintro ⟨xs, y, rfl, h⟩
    simp only [wb_Curve_eq, wRet, wSeq, wIfS, wSet, wVar, wC, wBin, wTest, wAnd, wOr, wNot, wAndV, wOrV, wNotV, wIf, wCall, wCons, wNil, wTup, wLst, wLstM, wCB, wUn, wChain, wSl, wPart, wNo, wAsg, wgTup, wgCons, wgNil, wName, wPar, wSetIx, wAug, wDrop, wNext, wNever, wBM, wLstR1, EK.of, startG, List.map_cons, List.map_nil, List.length_cons, List.length_nil, Nat.reduceAdd, Nat.reduceSub, List.replicate, List.cons_append, List.nil_append, List.getElem?_cons_zero, List.getElem?_cons_succ, List.set_cons_zero, List.set_cons_succ, Option.some.injEq, exists_eq_left', exists_eq_left, D.bl.injEq, D.int.injEq, D.tup.injEq, D.lst.injEq, D.str.injEq, exists_and_left, if_true, Bool.false_eq_true, if_false, true_and, and_true, Int.cast_ofNat_Int, Int.reduceLT, Int.reduceLE, Int.reduceEq, Int.reduceNeg, Int.reduceAdd, Int.reduceSub, decide_true, decide_false, decide_eq_true_eq, List.getElem?_nil, reduceCtorEq, false_and, exists_false, dI_i, dIC_i, dB_i, dNeg_i, dAdd_i, dAdd_s, dAdd_t, dAdd_l, dMul_i, dMul_l, dEq_i, dEq_s, dEq_b, dNe_i, dNe_s, dNe_b, dIsN_n, dIsN_i, dIsN_l, dIsN_t, dNotN_n, dNotN_i, dNotN_l, dNotN_t, dRev_t, dIx_t, dIx_l, atI_0, atI_1, atI_2, atI_3, atI_4, rLen_s, rLen_t, rLen_l, rLen_c, rInt_i, rInt_b, rAbs_i, rList_t, rList_l, rLen_put, dIx_put, tyM_put, dIn_s, Bool.not_true, Bool.not_false]
    rcases h with ⟨ys, p, p', rfl, h1, h2, h3, h4, hq⟩ | ⟨hy, hq⟩
    · refine ⟨_, _, true, rfl, ⟨by simp, .inr ⟨kl "Curve", _, .inl rfl, by simp, by simp [subK]⟩⟩, _, rfl, ?_⟩
      rw [if_pos rfl]
      refine dFld_o (by simp) List.lookup_cons_self ?_
      refine dFld_o (by simp) List.lookup_cons_self ?_
      show dEqD _ _ S Q
      exact ⟨p, p', h1, h2, h3, h4, hq⟩
    · refine ⟨_, _, false, rfl, ⟨by simp, .inl ⟨tyn y, (tyD_pl hy).mpr rfl, rfl⟩⟩, _, rfl, ?_⟩
      rw [if_neg (by decide)]
      exact hq
/-- what is due -/
def dueD (d : D) : D := match judge d with
  | none => .tup [.str "told", d]
  | some i => .int i
def sp_due : PSp := fun ds S Q _ => ∃ d m n, ds = [d] ∧ Th m n d ∧ m ≤ 1000 ∧ Q (dueD d) S
theorem ok_law_told (e : En w kl K mg) (t : Tx1 K mg "_law_told" st_law_told) (F : KlU P w K mg base 6 "Curve" (kl "Curve") ["terms"] (cs_Curve kl)) : Fn1 P w K mg base 7 "_law_told" ["_law_terms_here"] sp_due := by
  refine mk_law_told (k := 6) e t F (fun ds S Q E => ?_) (fun ds S Q E => ?_)
  · rintro ⟨d, m, n, rfl, _⟩
    rfl
  · rintro ⟨d, m, n, rfl, hd, hm, hq⟩
    simp only [wb_law_told, wTryAs, cSp, wRet, wSeq, wIfS, wSet, wVar, wC, wBin, wTest, wAnd, wOr, wNot, wAndV, wOrV, wNotV, wIf, wCall, wCons, wNil, wTup, wLst, wLstM, wCB, wUn, wChain, wSl, wPart, wNo, wAsg, wgTup, wgCons, wgNil, wName, wPar, wSetIx, wAug, wDrop, wNext, wNever, wBM, wLstR1, EK.of, startG, List.map_cons, List.map_nil, List.length_cons, List.length_nil, Nat.reduceAdd, Nat.reduceSub, List.replicate, List.cons_append, List.nil_append, List.getElem?_cons_zero, List.getElem?_cons_succ, List.set_cons_zero, List.set_cons_succ, Option.some.injEq, exists_eq_left', exists_eq_left, D.bl.injEq, D.int.injEq, D.tup.injEq, D.lst.injEq, D.str.injEq, exists_and_left, if_true, Bool.false_eq_true, if_false, true_and, and_true, Int.cast_ofNat_Int, Int.reduceLT, Int.reduceLE, Int.reduceEq, Int.reduceNeg, Int.reduceAdd, Int.reduceSub, decide_true, decide_false, decide_eq_true_eq, List.getElem?_nil, reduceCtorEq, false_and, exists_false, dI_i, dIC_i, dB_i, dNeg_i, dAdd_i, dAdd_s, dAdd_t, dAdd_l, dMul_i, dMul_l, dEq_i, dEq_s, dEq_b, dNe_i, dNe_s, dNe_b, dIsN_n, dIsN_i, dIsN_l, dIsN_t, dNotN_n, dNotN_i, dNotN_l, dNotN_t, dRev_t, dIx_t, dIx_l, atI_0, atI_1, atI_2, atI_3, atI_4, rLen_s, rLen_t, rLen_l, rLen_c, rInt_i, rInt_b, rAbs_i, rList_t, rList_l, rLen_put, dIx_put, tyM_put, dIn_s, Bool.not_true, Bool.not_false]
    refine ⟨d, m, n, rfl, hd, hm, ?_⟩
    have st : ∀ {C : Addr}, subE kl C (.ref (kl "CurveError")) = true := fun {C} => by simp [subE]
    unfold dueD at hq
    cases hj : judge d with
    | none =>
      rw [hj] at hq
      exact dFld_o (by simp) List.lookup_cons_self ⟨by decide, end_id hq⟩
    | some i =>
      rw [hj] at hq
      refine ⟨true, if_pos rfl, fun _ a dd => ⟨_, kl "BadCurve", _, rfl, rfl, by simp [ecs], by simp [ecl], _, rfl, ?_⟩, fun z => by cases z⟩
      rw [st, if_pos rfl]
      refine ⟨_, kl "BadCurve", _, rfl, rfl, by simp [ecs], by simp [ecl], _, rfl, ?_⟩
      rw [show subE kl (kl "BadCurve") (.ty "ValueError") = true from rfl, if_pos rfl]
      exact ⟨rfl, _, _, rfl, List.lookup_cons_self, end_id hq⟩
theorem ok_law_due (e : En w kl K mg) (t : Tx1 K mg "_law_due" st_law_due) (F1 : Fn1 P w K mg base 3 "_law_is_behind" ["_law_ahead", "_law_term"] sp_ahead) (F2 : Fn1 P w K mg base 3 "_law_is_term" ["_law_thing"] sp_term) : Fn1 P w K mg base 4 "_law_due" ["_law_terms_here"] sp_due := by
  refine mk_law_due (k := 3) e t F1 F2 (fun ds S Q E => ?_) (fun ds S Q E => ?_)
  · rintro ⟨d, m, n, rfl, _⟩
    rfl
  · rintro ⟨d, m', n, rfl, hd, hmm, hq⟩
    have hpl := hd.pl
    unfold dueD at hq
    simp only [wb_law_due, wRet, wSeq, wIfS, wSet, wVar, wC, wBin, wTest, wAnd, wOr, wNot, wAndV, wOrV, wNotV, wIf, wCall, wCons, wNil, wTup, wLst, wLstM, wCB, wUn, wChain, wSl, wPart, wNo, wAsg, wgTup, wgCons, wgNil, wName, wPar, wSetIx, wAug, wDrop, wNext, wNever, wBM, wLstR1, EK.of, startG, List.map_cons, List.map_nil, List.length_cons, List.length_nil, Nat.reduceAdd, Nat.reduceSub, List.replicate, List.cons_append, List.nil_append, List.getElem?_cons_zero, List.getElem?_cons_succ, List.set_cons_zero, List.set_cons_succ, Option.some.injEq, exists_eq_left', exists_eq_left, D.bl.injEq, D.int.injEq, D.tup.injEq, D.lst.injEq, D.str.injEq, exists_and_left, if_true, Bool.false_eq_true, if_false, true_and, and_true, Int.cast_ofNat_Int, Int.reduceLT, Int.reduceLE, Int.reduceEq, Int.reduceNeg, Int.reduceAdd, Int.reduceSub, decide_true, decide_false, decide_eq_true_eq, List.getElem?_nil, reduceCtorEq, false_and, exists_false, dI_i, dIC_i, dB_i, dNeg_i, dAdd_i, dAdd_s, dAdd_t, dAdd_l, dMul_i, dMul_l, dEq_i, dEq_s, dEq_b, dNe_i, dNe_s, dNe_b, dIsN_n, dIsN_i, dIsN_l, dIsN_t, dNotN_n, dNotN_i, dNotN_l, dNotN_t, dRev_t, dIx_t, dIx_l, atI_0, atI_1, atI_2, atI_3, atI_4, rLen_s, rLen_t, rLen_l, rLen_c, rInt_i, rInt_b, rAbs_i, rList_t, rList_l, rLen_put, dIx_put, tyM_put, dIn_s, Bool.not_true, Bool.not_false, rIsi_tuple hpl]
    have bad : ∀ i : Int, judge d = some i → PL.End Q (.int i) S := fun i h => by
      rw [h] at hq
      exact end_id hq
    refine iteB (fun h => ?_) fun h => ?_
    · refine bad (-1) ?_
      cases hd <;> first | rfl | (simp [tyn, isa] at h)
    obtain ⟨ds, rfl, hl, hx⟩ := tup_of hd (by simpa using h)
    simp only [wRet, wSeq, wIfS, wSet, wVar, wC, wBin, wTest, wAnd, wOr, wNot, wAndV, wOrV, wNotV, wIf, wCall, wCons, wNil, wTup, wLst, wLstM, wCB, wUn, wChain, wSl, wPart, wNo, wAsg, wgTup, wgCons, wgNil, wName, wPar, wSetIx, wAug, wDrop, wNext, wNever, wBM, wLstR1, EK.of, startG, List.map_cons, List.map_nil, List.length_cons, List.length_nil, Nat.reduceAdd, Nat.reduceSub, List.replicate, List.cons_append, List.nil_append, List.getElem?_cons_zero, List.getElem?_cons_succ, List.set_cons_zero, List.set_cons_succ, Option.some.injEq, exists_eq_left', exists_eq_left, D.bl.injEq, D.int.injEq, D.tup.injEq, D.lst.injEq, D.str.injEq, exists_and_left, if_true, Bool.false_eq_true, if_false, true_and, and_true, Int.cast_ofNat_Int, Int.reduceLT, Int.reduceLE, Int.reduceEq, Int.reduceNeg, Int.reduceAdd, Int.reduceSub, decide_true, decide_false, decide_eq_true_eq, List.getElem?_nil, reduceCtorEq, false_and, exists_false, dI_i, dIC_i, dB_i, dNeg_i, dAdd_i, dAdd_s, dAdd_t, dAdd_l, dMul_i, dMul_l, dEq_i, dEq_s, dEq_b, dNe_i, dNe_s, dNe_b, dIsN_n, dIsN_i, dIsN_l, dIsN_t, dNotN_n, dNotN_i, dNotN_l, dNotN_t, dRev_t, dIx_t, dIx_l, atI_0, atI_1, atI_2, atI_3, atI_4, rLen_s, rLen_t, rLen_l, rLen_c, rInt_i, rInt_b, rAbs_i, rList_t, rList_l, rLen_put, dIx_put, tyM_put, dIn_s, Bool.not_true, Bool.not_false, rLen_t]
    refine ite2 (fun h2 => ?_) fun h2 => ?_
    · refine bad (-1) ?_
      show (if 8 < ds.length then some (-1 : Int) else _) = _
      rw [if_pos (by omega)]
    have h8 : ¬ 8 < ds.length := by omega
    have jd : judge (.tup ds) = (judL none 0 ds).map fun i => (i : Int) := if_neg h8
    simp only [wb_law_due_1, wFor, wiE, wRet, wSeq, wIfS, wSet, wVar, wC, wBin, wTest, wAnd, wOr, wNot, wAndV, wOrV, wNotV, wIf, wCall, wCons, wNil, wTup, wLst, wLstM, wCB, wUn, wChain, wSl, wPart, wNo, wAsg, wgTup, wgCons, wgNil, wName, wPar, wSetIx, wAug, wDrop, wNext, wNever, wBM, wLstR1, EK.of, startG, List.map_cons, List.map_nil, List.length_cons, List.length_nil, Nat.reduceAdd, Nat.reduceSub, List.replicate, List.cons_append, List.nil_append, List.getElem?_cons_zero, List.getElem?_cons_succ, List.set_cons_zero, List.set_cons_succ, Option.some.injEq, exists_eq_left', exists_eq_left, D.bl.injEq, D.int.injEq, D.tup.injEq, D.lst.injEq, D.str.injEq, exists_and_left, if_true, Bool.false_eq_true, if_false, true_and, and_true, Int.cast_ofNat_Int, Int.reduceLT, Int.reduceLE, Int.reduceEq, Int.reduceNeg, Int.reduceAdd, Int.reduceSub, decide_true, decide_false, decide_eq_true_eq, List.getElem?_nil, reduceCtorEq, false_and, exists_false, dI_i, dIC_i, dB_i, dNeg_i, dAdd_i, dAdd_s, dAdd_t, dAdd_l, dMul_i, dMul_l, dEq_i, dEq_s, dEq_b, dNe_i, dNe_s, dNe_b, dIsN_n, dIsN_i, dIsN_l, dIsN_t, dNotN_n, dNotN_i, dNotN_l, dNotN_t, dRev_t, dIx_t, dIx_l, atI_0, atI_1, atI_2, atI_3, atI_4, rLen_s, rLen_t, rLen_l, rLen_c, rInt_i, rInt_b, rAbs_i, rList_t, rList_l, rLen_put, dIx_put, tyM_put, dIn_s, Bool.not_true, Bool.not_false]
    refine ⟨fun i Γ S' => S' = S ∧ (∃ x2 x3, Γ = [some (.tup ds), x2, x3]) ∧ judL none 0 ds = judL (prev ds i) i (ds.drop i) ∧ ∀ q, prev ds i = some q → tmB q = true, ⟨rfl, ⟨none, none, rfl⟩, rfl, fun q z => by cases z⟩, fun _ _ _ _ _ => trivial, ?_, ?_⟩
    · rintro i y Γ S' hy ⟨rfl, ⟨x2, x3, rfl⟩, hj, hpv⟩
      obtain ⟨x, hxi, rfl⟩ := enumD_get hy
      have xx := hx x (List.mem_of_getElem? hxi)
      simp only [wRet, wSeq, wIfS, wSet, wVar, wC, wBin, wTest, wAnd, wOr, wNot, wAndV, wOrV, wNotV, wIf, wCall, wCons, wNil, wTup, wLst, wLstM, wCB, wUn, wChain, wSl, wPart, wNo, wAsg, wgTup, wgCons, wgNil, wName, wPar, wSetIx, wAug, wDrop, wNext, wNever, wBM, wLstR1, EK.of, startG, List.map_cons, List.map_nil, List.length_cons, List.length_nil, Nat.reduceAdd, Nat.reduceSub, List.replicate, List.cons_append, List.nil_append, List.getElem?_cons_zero, List.getElem?_cons_succ, List.set_cons_zero, List.set_cons_succ, Option.some.injEq, exists_eq_left', exists_eq_left, D.bl.injEq, D.int.injEq, D.tup.injEq, D.lst.injEq, D.str.injEq, exists_and_left, if_true, Bool.false_eq_true, if_false, true_and, and_true, Int.cast_ofNat_Int, Int.reduceLT, Int.reduceLE, Int.reduceEq, Int.reduceNeg, Int.reduceAdd, Int.reduceSub, decide_true, decide_false, decide_eq_true_eq, List.getElem?_nil, reduceCtorEq, false_and, exists_false, dI_i, dIC_i, dB_i, dNeg_i, dAdd_i, dAdd_s, dAdd_t, dAdd_l, dMul_i, dMul_l, dEq_i, dEq_s, dEq_b, dNe_i, dNe_s, dNe_b, dIsN_n, dIsN_i, dIsN_l, dIsN_t, dNotN_n, dNotN_i, dNotN_l, dNotN_t, dRev_t, dIx_t, dIx_l, atI_0, atI_1, atI_2, atI_3, atI_4, rLen_s, rLen_t, rLen_l, rLen_c, rInt_i, rInt_b, rAbs_i, rList_t, rList_l, rLen_put, dIx_put, tyM_put, dIn_s, Bool.not_true, Bool.not_false]
      refine ⟨_, _, rfl, _, _, rfl, rfl, x, _, _, rfl, xx, _, rfl, iteB (fun h3 => ?_) fun h3 => ?_⟩
      · refine bad i ?_
        rw [jd, judL_stop hxi hj (.inl (by simpa using h3))]
        rfl
      have h3' : tmB x = true := by simpa using h3
      have nxt : ∀ q, prev ds (i + 1) = some q → tmB q = true := fun q hq2 => by
        unfold prev at hq2
        rw [if_neg (by omega), Nat.add_sub_cancel, hxi] at hq2
        cases hq2
        exact h3'
      have go : (∀ q, prev ds i = some q → ahB q x = true) → judL none 0 ds = judL (prev ds (i + 1)) (i + 1) (ds.drop (i + 1)) := fun ha => judL_step hxi hj h3' ha
      simp only [wRet, wSeq, wIfS, wSet, wVar, wC, wBin, wTest, wAnd, wOr, wNot, wAndV, wOrV, wNotV, wIf, wCall, wCons, wNil, wTup, wLst, wLstM, wCB, wUn, wChain, wSl, wPart, wNo, wAsg, wgTup, wgCons, wgNil, wName, wPar, wSetIx, wAug, wDrop, wNext, wNever, wBM, wLstR1, EK.of, startG, List.map_cons, List.map_nil, List.length_cons, List.length_nil, Nat.reduceAdd, Nat.reduceSub, List.replicate, List.cons_append, List.nil_append, List.getElem?_cons_zero, List.getElem?_cons_succ, List.set_cons_zero, List.set_cons_succ, Option.some.injEq, exists_eq_left', exists_eq_left, D.bl.injEq, D.int.injEq, D.tup.injEq, D.lst.injEq, D.str.injEq, exists_and_left, if_true, Bool.false_eq_true, if_false, true_and, and_true, Int.cast_ofNat_Int, Int.reduceLT, Int.reduceLE, Int.reduceEq, Int.reduceNeg, Int.reduceAdd, Int.reduceSub, decide_true, decide_false, decide_eq_true_eq, List.getElem?_nil, reduceCtorEq, false_and, exists_false, dI_i, dIC_i, dB_i, dNeg_i, dAdd_i, dAdd_s, dAdd_t, dAdd_l, dMul_i, dMul_l, dEq_i, dEq_s, dEq_b, dNe_i, dNe_s, dNe_b, dIsN_n, dIsN_i, dIsN_l, dIsN_t, dNotN_n, dNotN_i, dNotN_l, dNotN_t, dRev_t, dIx_t, dIx_l, atI_0, atI_1, atI_2, atI_3, atI_4, rLen_s, rLen_t, rLen_l, rLen_c, rInt_i, rInt_b, rAbs_i, rList_t, rList_l, rLen_put, dIx_put, tyM_put, dIn_s, Bool.not_true, Bool.not_false]
      refine ite2 (fun h4 => ?_) fun h4 => ?_
      · have hi0 : i ≠ 0 := by omega
        have hil : i < ds.length := (List.getElem?_eq_some_iff.mp hxi).1
        have hpi : prev ds i = some ds[i - 1] := by
          unfold prev
          rw [if_neg hi0, List.getElem?_eq_getElem (by omega)]
        have e1 : atI ds ((i : Int) - 1) = some ds[i - 1] := by
          rw [PL.atI_lit (n := i - 1) (by omega), List.getElem?_eq_getElem (by omega)]
        refine dIxA_t.mpr ⟨ds[i - 1], e1, ds[i - 1], x, _, _, _, _, rfl, hx _ (List.getElem_mem _), xx, hpv _ hpi, h3', _, rfl, iteB (fun h5 => ?_) fun h5 => ?_⟩
        · refine bad i ?_
          rw [jd, judL_stop hxi hj (.inr ⟨_, hpi, by simpa using h5⟩)]
          rfl
        · first | refine ⟨rfl, ⟨_, _, rfl⟩, go fun q hq2 => ?_, nxt⟩ | refine ⟨⟨_, _, rfl⟩, go fun q hq2 => ?_, nxt⟩
          rw [hpi] at hq2
          cases hq2
          simpa using h5
      · first | refine ⟨rfl, ⟨_, _, rfl⟩, go fun q hq2 => ?_, nxt⟩ | refine ⟨⟨_, _, rfl⟩, go fun q hq2 => ?_, nxt⟩
        have hi0 : i = 0 := by omega
        subst hi0
        cases hq2
    · rintro Γ S' ⟨rfl, ⟨x2, x3, rfl⟩, hj, hpv⟩
      rw [enumD_len] at hj
      rw [List.drop_length] at hj
      rw [jd, hj] at hq
      simp only [wb_law_due_0, wRet, wSeq, wIfS, wSet, wVar, wC, wBin, wTest, wAnd, wOr, wNot, wAndV, wOrV, wNotV, wIf, wCall, wCons, wNil, wTup, wLst, wLstM, wCB, wUn, wChain, wSl, wPart, wNo, wAsg, wgTup, wgCons, wgNil, wName, wPar, wSetIx, wAug, wDrop, wNext, wNever, wBM, wLstR1, EK.of, startG, List.map_cons, List.map_nil, List.length_cons, List.length_nil, Nat.reduceAdd, Nat.reduceSub, List.replicate, List.cons_append, List.nil_append, List.getElem?_cons_zero, List.getElem?_cons_succ, List.set_cons_zero, List.set_cons_succ, Option.some.injEq, exists_eq_left', exists_eq_left, D.bl.injEq, D.int.injEq, D.tup.injEq, D.lst.injEq, D.str.injEq, exists_and_left, if_true, Bool.false_eq_true, if_false, true_and, and_true, Int.cast_ofNat_Int, Int.reduceLT, Int.reduceLE, Int.reduceEq, Int.reduceNeg, Int.reduceAdd, Int.reduceSub, decide_true, decide_false, decide_eq_true_eq, List.getElem?_nil, reduceCtorEq, false_and, exists_false, dI_i, dIC_i, dB_i, dNeg_i, dAdd_i, dAdd_s, dAdd_t, dAdd_l, dMul_i, dMul_l, dEq_i, dEq_s, dEq_b, dNe_i, dNe_s, dNe_b, dIsN_n, dIsN_i, dIsN_l, dIsN_t, dNotN_n, dNotN_i, dNotN_l, dNotN_t, dRev_t, dIx_t, dIx_l, atI_0, atI_1, atI_2, atI_3, atI_4, rLen_s, rLen_t, rLen_l, rLen_c, rInt_i, rInt_b, rAbs_i, rList_t, rList_l, rLen_put, dIx_put, tyM_put, dIn_s, Bool.not_true, Bool.not_false]
      exact ⟨by decide, end_id hq⟩
end K01
end
/-! from K01g.lean -/
section
set_option exponentiation.threshold 10000
namespace K01
open PySem L2 PL
variable [TabCtx]
variable {P : Program} {w : World} {kl : Str → Addr} {K : PySem.W.Frag} {mg : Str → Option Value} {base : Heap} {k : Nat}
theorem lc_of {α : Type} {g : WG} {wt : WT} {we : WE} {stay : Sto → Prop} {Γ0 : Gm} {Qf : List D → Sto → Prop} {S : Sto} (φ : α → D) (f : α → Option D) (hs : stay S) : ∀ (L : List α) (acc : List D),
    (∀ a ∈ L, ∀ G : Option D → Sto → Prop, G (f a) S → g (φ a) Γ0 S fun Γ1 S1 => wt Γ1 S1 (fun b S2 => if b = true then we Γ1 S2 (fun y S3 => G (some y) S3) (fun _ _ _ => False) else G none S2) (fun _ _ _ => False)) →
    Qf (acc ++ L.filterMap f) S → wLcGo g wt we stay Γ0 Qf (L.map φ) acc S
  | [], acc, _, h => by simpa [wLcGo] using h
  | a :: L, acc, he, h => by
    rw [List.map_cons]
    unfold wLcGo
    refine ⟨hs, he a List.mem_cons_self (fun o S' => match o with
      | some y => wLcGo g wt we stay Γ0 Qf (L.map φ) (acc ++ [y]) S'
      | none => wLcGo g wt we stay Γ0 Qf (L.map φ) acc S') ?_⟩
    have ih := lc_of (g := g) (wt := wt) (we := we) (Γ0 := Γ0) (Qf := Qf) φ f hs L
    cases hf : f a with
    | none =>
      rw [List.filterMap_cons, hf] at h
      exact ih acc (fun b hb => he b (List.mem_cons_of_mem _ hb)) h
    | some y =>
      rw [List.filterMap_cons, hf] at h
      exact ih (acc ++ [y]) (fun b hb => he b (List.mem_cons_of_mem _ hb)) (by rw [List.append_assoc]; exact h)
/-- with something that stays so -/
theorem lc_inv {g : WG} {we : WE} {stay : Sto → Prop} {Γ0 : Gm} {Qf : List D → Sto → Prop} (I : List D → Sto → Prop) (hst : ∀ acc S, I acc S → stay S) : ∀ (xs acc : List D) (S : Sto), I acc S →
    (∀ x ∈ xs, ∀ acc S, I acc S → ∀ G : D → Sto → Prop, (∀ y S2, I (acc ++ [y]) S2 → G y S2) → g x Γ0 S fun Γ1 S1 => we Γ1 S1 G (fun _ _ _ => False)) →
    (∀ acc2 S, acc2.length = acc.length + xs.length → I acc2 S → Qf acc2 S) → wLcGo g wYes we stay Γ0 Qf xs acc S
  | [], acc, S, hi, _, h => by
    unfold wLcGo
    exact h acc S (by simp) hi
  | x :: xs, acc, S, hi, he, h => by
    unfold wLcGo
    refine ⟨hst _ _ hi, he x List.mem_cons_self acc S hi (fun y S3 => wLcGo g wYes we stay Γ0 Qf xs (acc ++ [y]) S3) fun y S2 hi2 => ?_⟩
    refine lc_inv I hst xs (acc ++ [y]) S2 hi2 (fun z hz => he z (List.mem_cons_of_mem _ hz)) fun acc2 S3 hl => h acc2 S3 ?_
    rw [hl, List.length_append, List.length_cons, List.length_nil, List.length_cons]
    omega
/-! _law_is -/
def sp_law_is (mm n : Nat) : PSp := fun ds S Q _ => ∃ d, ds = [d, d] ∧ Th mm n d ∧ Q (.bl true) S
theorem zip_self (ds : List D) : zipD ds ds = ds.map fun x => .tup [x, x] := by
  unfold zipD
  rw [List.zip_eq_zipWith, List.zipWith_self, List.map_map]
  rfl
theorem rIsiT2 {d : D} {S : Sto} {Q : QK} (h : isPl d = true) (q : Q (.bl (isa (tyn d) "tuple" || isa (tyn d) "list")) S) : rIsiTD [d, .tup [.raw (.ty "tuple"), .raw (.ty "list")]] S Q :=
  ⟨d, ["tuple", "list"], tyn d, rfl, (tyD_pl h).mpr rfl, by decide, by simpa using q⟩
theorem dNe_bb {b : Bool} {S : Sto} {Q : QK} : dNe (.bl b) (.bl b) S Q ↔ Q (.bl false) S := by rw [dNe_b]; simp
theorem dEq_bb {b : Bool} {S : Sto} {Q : QK} : dEq (.bl b) (.bl b) S Q ↔ Q (.bl true) S := by rw [dEq_b]; simp
theorem pure_law_is {mm n : Nat} {sp : PSp} (hmm : mm ≤ 1000) (hr : ∀ m, n = m + 1 → sp = sp_law_is mm m) : ∀ ds S Q E, sp_law_is mm n ds S Q E → wb_law_is w kl sp (NN (PL.End Q)) (EE E) (startG ["_law_thing", "_law_due_here", "_law_one", "_law_other"] ds) S := by
  rintro ds S Q E ⟨d, rfl, hd, hq⟩
  have hp : isPl d = true := by cases hd <;> rfl
  have fin : ∀ {G : Prop}, PL.End Q (.bl true) S → G = PL.End Q (.bl true) S → G := fun h e => e ▸ h
  have he : PL.End Q (.bl true) S := end_id hq
  have comp : ∀ (d : D) (xs : List D) (m : Nat), n = m + 1 → (∀ x ∈ xs, Th mm m x) → xs.length ≤ sizeLine → Sq S d xs → wLc (wiZ (wCons (wVar 0) (wCons (wVar 1) wNil))) (wgTup 2 (wgCons (wName 2) (wgCons (wName 3) wgNil))) wYes
      (wCall sp (wCons (wVar 2) (wCons (wVar 3) wNil))) [2, 3] [some d, some d, none, none] S (fun d S1 => rAllD [d] S1 (PL.End Q)) (EK.of (EE E) [some d, some d, none, none]) := by
    intro d xs m hn hx hz hs
    simp only [wLc, wLcB, wiZ, wRet, wSeq, wIfS, wSet, wVar, wC, wBin, wTest, wAnd, wOr, wNot, wAndV, wOrV, wNotV, wIf, wCall, wCons, wNil, wTup, wLst, wLstM, wCB, wUn, wChain, wSl, wPart, wNo, wAsg, wgTup, wgCons, wgNil, wName, wPar, wSetIx, wAug, wDrop, wNext, wNever, wBM, wLstR1, EK.of, startG, List.map_cons, List.map_nil, List.length_cons, List.length_nil, Nat.reduceAdd, Nat.reduceSub, List.replicate, List.cons_append, List.nil_append, List.getElem?_cons_zero, List.getElem?_cons_succ, List.set_cons_zero, List.set_cons_succ, Option.some.injEq, exists_eq_left', exists_eq_left, D.bl.injEq, D.int.injEq, D.tup.injEq, D.lst.injEq, D.str.injEq, exists_and_left, if_true, Bool.false_eq_true, if_false, true_and, and_true, Int.cast_ofNat_Int, Int.reduceLT, Int.reduceLE, Int.reduceEq, Int.reduceNeg, Int.reduceAdd, Int.reduceSub, decide_true, decide_false, decide_eq_true_eq, List.getElem?_nil, reduceCtorEq, false_and, exists_false, dI_i, dIC_i, dB_i, dNeg_i, dAdd_i, dAdd_s, dAdd_t, dAdd_l, dMul_i, dMul_l, dEq_i, dEq_s, dEq_b, dNe_i, dNe_s, dNe_b, dIsN_n, dIsN_i, dIsN_l, dIsN_t, dNotN_n, dNotN_i, dNotN_l, dNotN_t, dRev_t, dIx_t, dIx_l, atI_0, atI_1, atI_2, atI_3, atI_4, rLen_s, rLen_t, rLen_l, rLen_c, rInt_i, rInt_b, rAbs_i, rList_t, rList_l, rLen_put, dIx_put, tyM_put, dIn_s, Bool.not_true, Bool.not_false]
    refine ⟨d, d, rfl, xs, hs, xs, hs, rfl, ?_⟩
    rw [zip_self]
    refine ⟨by rw [List.length_map]; exact hz, lc_all (fun x => .tup [x, x]) (fun _ => .bl true) ⟨hs, hs⟩ xs [] (fun x hxm G hG => ?_) ?_⟩
    · simp only [wipeG, wRet, wSeq, wIfS, wSet, wVar, wC, wBin, wTest, wAnd, wOr, wNot, wAndV, wOrV, wNotV, wIf, wCall, wCons, wNil, wTup, wLst, wLstM, wCB, wUn, wChain, wSl, wPart, wNo, wAsg, wgTup, wgCons, wgNil, wName, wPar, wSetIx, wAug, wDrop, wNext, wNever, wBM, wLstR1, EK.of, startG, List.map_cons, List.map_nil, List.length_cons, List.length_nil, Nat.reduceAdd, Nat.reduceSub, List.replicate, List.cons_append, List.nil_append, List.getElem?_cons_zero, List.getElem?_cons_succ, List.set_cons_zero, List.set_cons_succ, Option.some.injEq, exists_eq_left', exists_eq_left, D.bl.injEq, D.int.injEq, D.tup.injEq, D.lst.injEq, D.str.injEq, exists_and_left, if_true, Bool.false_eq_true, if_false, true_and, and_true, Int.cast_ofNat_Int, Int.reduceLT, Int.reduceLE, Int.reduceEq, Int.reduceNeg, Int.reduceAdd, Int.reduceSub, decide_true, decide_false, decide_eq_true_eq, List.getElem?_nil, reduceCtorEq, false_and, exists_false, dI_i, dIC_i, dB_i, dNeg_i, dAdd_i, dAdd_s, dAdd_t, dAdd_l, dMul_i, dMul_l, dEq_i, dEq_s, dEq_b, dNe_i, dNe_s, dNe_b, dIsN_n, dIsN_i, dIsN_l, dIsN_t, dNotN_n, dNotN_i, dNotN_l, dNotN_t, dRev_t, dIx_t, dIx_l, atI_0, atI_1, atI_2, atI_3, atI_4, rLen_s, rLen_t, rLen_l, rLen_c, rInt_i, rInt_b, rAbs_i, rList_t, rList_l, rLen_put, dIx_put, tyM_put, dIn_s, Bool.not_true, Bool.not_false]
      refine ⟨x, [x], rfl, x, [], rfl, rfl, ?_⟩
      rw [hr m hn]
      exact ⟨x, rfl, hx x hxm, hG⟩
    · refine ⟨⟨hs, hs⟩, rAll_f (f := fun _ => true) ?_⟩
      rw [show (xs.all fun _ => true) = true by simp]
      exact he
  cases hd with
  | tup h hz =>
    rename_i m ds
    simp only [wb_law_is, wRet, wSeq, wIfS, wSet, wVar, wC, wBin, wTest, wAnd, wOr, wNot, wAndV, wOrV, wNotV, wIf, wCall, wCons, wNil, wTup, wLst, wLstM, wCB, wUn, wChain, wSl, wPart, wNo, wAsg, wgTup, wgCons, wgNil, wName, wPar, wSetIx, wAug, wDrop, wNext, wNever, wBM, wLstR1, EK.of, startG, List.map_cons, List.map_nil, List.length_cons, List.length_nil, Nat.reduceAdd, Nat.reduceSub, List.replicate, List.cons_append, List.nil_append, List.getElem?_cons_zero, List.getElem?_cons_succ, List.set_cons_zero, List.set_cons_succ, Option.some.injEq, exists_eq_left', exists_eq_left, D.bl.injEq, D.int.injEq, D.tup.injEq, D.lst.injEq, D.str.injEq, exists_and_left, if_true, Bool.false_eq_true, if_false, true_and, and_true, Int.cast_ofNat_Int, Int.reduceLT, Int.reduceLE, Int.reduceEq, Int.reduceNeg, Int.reduceAdd, Int.reduceSub, decide_true, decide_false, decide_eq_true_eq, List.getElem?_nil, reduceCtorEq, false_and, exists_false, dI_i, dIC_i, dB_i, dNeg_i, dAdd_i, dAdd_s, dAdd_t, dAdd_l, dMul_i, dMul_l, dEq_i, dEq_s, dEq_b, dNe_i, dNe_s, dNe_b, dIsN_n, dIsN_i, dIsN_l, dIsN_t, dNotN_n, dNotN_i, dNotN_l, dNotN_t, dRev_t, dIx_t, dIx_l, atI_0, atI_1, atI_2, atI_3, atI_4, rLen_s, rLen_t, rLen_l, rLen_c, rInt_i, rInt_b, rAbs_i, rList_t, rList_l, rLen_put, dIx_put, tyM_put, dIn_s, Bool.not_true, Bool.not_false, rIsi_tuple hp, rIsi_list hp, dNe_bb]
    refine ⟨by decide, rIsiT2 hp ⟨_, rfl, ?_⟩⟩
    refine (if_pos (show (isa (tyn (D.tup ds)) "tuple" || isa (tyn (D.tup ds)) "list") = true from (by decide : (isa "tuple" "tuple" || isa "tuple" "list") = true))).mpr ?_
    try simp only [wRet, wSeq, wIfS, wSet, wVar, wC, wBin, wTest, wAnd, wOr, wNot, wAndV, wOrV, wNotV, wIf, wCall, wCons, wNil, wTup, wLst, wLstM, wCB, wUn, wChain, wSl, wPart, wNo, wAsg, wgTup, wgCons, wgNil, wName, wPar, wSetIx, wAug, wDrop, wNext, wNever, wBM, wLstR1, EK.of, startG, List.map_cons, List.map_nil, List.length_cons, List.length_nil, Nat.reduceAdd, Nat.reduceSub, List.replicate, List.cons_append, List.nil_append, List.getElem?_cons_zero, List.getElem?_cons_succ, List.set_cons_zero, List.set_cons_succ, Option.some.injEq, exists_eq_left', exists_eq_left, D.bl.injEq, D.int.injEq, D.tup.injEq, D.lst.injEq, D.str.injEq, exists_and_left, if_true, Bool.false_eq_true, if_false, true_and, and_true, Int.cast_ofNat_Int, Int.reduceLT, Int.reduceLE, Int.reduceEq, Int.reduceNeg, Int.reduceAdd, Int.reduceSub, decide_true, decide_false, decide_eq_true_eq, List.getElem?_nil, reduceCtorEq, false_and, exists_false, dI_i, dIC_i, dB_i, dNeg_i, dAdd_i, dAdd_s, dAdd_t, dAdd_l, dMul_i, dMul_l, dEq_i, dEq_s, dEq_b, dNe_i, dNe_s, dNe_b, dIsN_n, dIsN_i, dIsN_l, dIsN_t, dNotN_n, dNotN_i, dNotN_l, dNotN_t, dRev_t, dIx_t, dIx_l, atI_0, atI_1, atI_2, atI_3, atI_4, rLen_s, rLen_t, rLen_l, rLen_c, rInt_i, rInt_b, rAbs_i, rList_t, rList_l, rLen_put, dIx_put, tyM_put, dIn_s, Bool.not_true, Bool.not_false, eq_self]
    exact comp _ ds m rfl h (Nat.le_trans hz (Nat.le_trans hmm (by decide))) rfl
  | lst h hz =>
    rename_i m ds
    simp only [wb_law_is, wRet, wSeq, wIfS, wSet, wVar, wC, wBin, wTest, wAnd, wOr, wNot, wAndV, wOrV, wNotV, wIf, wCall, wCons, wNil, wTup, wLst, wLstM, wCB, wUn, wChain, wSl, wPart, wNo, wAsg, wgTup, wgCons, wgNil, wName, wPar, wSetIx, wAug, wDrop, wNext, wNever, wBM, wLstR1, EK.of, startG, List.map_cons, List.map_nil, List.length_cons, List.length_nil, Nat.reduceAdd, Nat.reduceSub, List.replicate, List.cons_append, List.nil_append, List.getElem?_cons_zero, List.getElem?_cons_succ, List.set_cons_zero, List.set_cons_succ, Option.some.injEq, exists_eq_left', exists_eq_left, D.bl.injEq, D.int.injEq, D.tup.injEq, D.lst.injEq, D.str.injEq, exists_and_left, if_true, Bool.false_eq_true, if_false, true_and, and_true, Int.cast_ofNat_Int, Int.reduceLT, Int.reduceLE, Int.reduceEq, Int.reduceNeg, Int.reduceAdd, Int.reduceSub, decide_true, decide_false, decide_eq_true_eq, List.getElem?_nil, reduceCtorEq, false_and, exists_false, dI_i, dIC_i, dB_i, dNeg_i, dAdd_i, dAdd_s, dAdd_t, dAdd_l, dMul_i, dMul_l, dEq_i, dEq_s, dEq_b, dNe_i, dNe_s, dNe_b, dIsN_n, dIsN_i, dIsN_l, dIsN_t, dNotN_n, dNotN_i, dNotN_l, dNotN_t, dRev_t, dIx_t, dIx_l, atI_0, atI_1, atI_2, atI_3, atI_4, rLen_s, rLen_t, rLen_l, rLen_c, rInt_i, rInt_b, rAbs_i, rList_t, rList_l, rLen_put, dIx_put, tyM_put, dIn_s, Bool.not_true, Bool.not_false, rIsi_tuple hp, rIsi_list hp, dNe_bb]
    refine ⟨by decide, rIsiT2 hp ⟨_, rfl, ?_⟩⟩
    refine (if_pos (show (isa (tyn (D.lst ds)) "tuple" || isa (tyn (D.lst ds)) "list") = true from (by decide : (isa "list" "tuple" || isa "list" "list") = true))).mpr ?_
    try simp only [wRet, wSeq, wIfS, wSet, wVar, wC, wBin, wTest, wAnd, wOr, wNot, wAndV, wOrV, wNotV, wIf, wCall, wCons, wNil, wTup, wLst, wLstM, wCB, wUn, wChain, wSl, wPart, wNo, wAsg, wgTup, wgCons, wgNil, wName, wPar, wSetIx, wAug, wDrop, wNext, wNever, wBM, wLstR1, EK.of, startG, List.map_cons, List.map_nil, List.length_cons, List.length_nil, Nat.reduceAdd, Nat.reduceSub, List.replicate, List.cons_append, List.nil_append, List.getElem?_cons_zero, List.getElem?_cons_succ, List.set_cons_zero, List.set_cons_succ, Option.some.injEq, exists_eq_left', exists_eq_left, D.bl.injEq, D.int.injEq, D.tup.injEq, D.lst.injEq, D.str.injEq, exists_and_left, if_true, Bool.false_eq_true, if_false, true_and, and_true, Int.cast_ofNat_Int, Int.reduceLT, Int.reduceLE, Int.reduceEq, Int.reduceNeg, Int.reduceAdd, Int.reduceSub, decide_true, decide_false, decide_eq_true_eq, List.getElem?_nil, reduceCtorEq, false_and, exists_false, dI_i, dIC_i, dB_i, dNeg_i, dAdd_i, dAdd_s, dAdd_t, dAdd_l, dMul_i, dMul_l, dEq_i, dEq_s, dEq_b, dNe_i, dNe_s, dNe_b, dIsN_n, dIsN_i, dIsN_l, dIsN_t, dNotN_n, dNotN_i, dNotN_l, dNotN_t, dRev_t, dIx_t, dIx_l, atI_0, atI_1, atI_2, atI_3, atI_4, rLen_s, rLen_t, rLen_l, rLen_c, rInt_i, rInt_b, rAbs_i, rList_t, rList_l, rLen_put, dIx_put, tyM_put, dIn_s, Bool.not_true, Bool.not_false, eq_self]
    exact comp _ ds m rfl h (Nat.le_trans hz (Nat.le_trans hmm (by decide))) rfl
  | dct =>
    simp only [wb_law_is, wRet, wSeq, wIfS, wSet, wVar, wC, wBin, wTest, wAnd, wOr, wNot, wAndV, wOrV, wNotV, wIf, wCall, wCons, wNil, wTup, wLst, wLstM, wCB, wUn, wChain, wSl, wPart, wNo, wAsg, wgTup, wgCons, wgNil, wName, wPar, wSetIx, wAug, wDrop, wNext, wNever, wBM, wLstR1, EK.of, startG, List.map_cons, List.map_nil, List.length_cons, List.length_nil, Nat.reduceAdd, Nat.reduceSub, List.replicate, List.cons_append, List.nil_append, List.getElem?_cons_zero, List.getElem?_cons_succ, List.set_cons_zero, List.set_cons_succ, Option.some.injEq, exists_eq_left', exists_eq_left, D.bl.injEq, D.int.injEq, D.tup.injEq, D.lst.injEq, D.str.injEq, exists_and_left, if_true, Bool.false_eq_true, if_false, true_and, and_true, Int.cast_ofNat_Int, Int.reduceLT, Int.reduceLE, Int.reduceEq, Int.reduceNeg, Int.reduceAdd, Int.reduceSub, decide_true, decide_false, decide_eq_true_eq, List.getElem?_nil, reduceCtorEq, false_and, exists_false, dI_i, dIC_i, dB_i, dNeg_i, dAdd_i, dAdd_s, dAdd_t, dAdd_l, dMul_i, dMul_l, dEq_i, dEq_s, dEq_b, dNe_i, dNe_s, dNe_b, dIsN_n, dIsN_i, dIsN_l, dIsN_t, dNotN_n, dNotN_i, dNotN_l, dNotN_t, dRev_t, dIx_t, dIx_l, atI_0, atI_1, atI_2, atI_3, atI_4, rLen_s, rLen_t, rLen_l, rLen_c, rInt_i, rInt_b, rAbs_i, rList_t, rList_l, rLen_put, dIx_put, tyM_put, dIn_s, Bool.not_true, Bool.not_false, rIsi_bool hp, dEq_bb]
    refine ⟨by decide, rIsiT2 hp ⟨_, rfl, ?_⟩⟩
    refine (if_neg (show ¬ (isa (tyn (D.dct [])) "tuple" || isa (tyn (D.dct [])) "list") = true from (by decide : ¬ (isa "dict" "tuple" || isa "dict" "list") = true))).mpr ?_
    try simp only [wRet, wSeq, wIfS, wSet, wVar, wC, wBin, wTest, wAnd, wOr, wNot, wAndV, wOrV, wNotV, wIf, wCall, wCons, wNil, wTup, wLst, wLstM, wCB, wUn, wChain, wSl, wPart, wNo, wAsg, wgTup, wgCons, wgNil, wName, wPar, wSetIx, wAug, wDrop, wNext, wNever, wBM, wLstR1, EK.of, startG, List.map_cons, List.map_nil, List.length_cons, List.length_nil, Nat.reduceAdd, Nat.reduceSub, List.replicate, List.cons_append, List.nil_append, List.getElem?_cons_zero, List.getElem?_cons_succ, List.set_cons_zero, List.set_cons_succ, Option.some.injEq, exists_eq_left', exists_eq_left, D.bl.injEq, D.int.injEq, D.tup.injEq, D.lst.injEq, D.str.injEq, exists_and_left, if_true, Bool.false_eq_true, if_false, true_and, and_true, Int.cast_ofNat_Int, Int.reduceLT, Int.reduceLE, Int.reduceEq, Int.reduceNeg, Int.reduceAdd, Int.reduceSub, decide_true, decide_false, decide_eq_true_eq, List.getElem?_nil, reduceCtorEq, false_and, exists_false, dI_i, dIC_i, dB_i, dNeg_i, dAdd_i, dAdd_s, dAdd_t, dAdd_l, dMul_i, dMul_l, dEq_i, dEq_s, dEq_b, dNe_i, dNe_s, dNe_b, dIsN_n, dIsN_i, dIsN_l, dIsN_t, dNotN_n, dNotN_i, dNotN_l, dNotN_t, dRev_t, dIx_t, dIx_l, atI_0, atI_1, atI_2, atI_3, atI_4, rLen_s, rLen_t, rLen_l, rLen_c, rInt_i, rInt_b, rAbs_i, rList_t, rList_l, rLen_put, dIx_put, tyM_put, dIn_s, Bool.not_true, Bool.not_false, dEq_bb]
    exact .inl ⟨[], rfl, rfl, .inl rfl, he⟩
  | non =>
    simp only [wb_law_is, wRet, wSeq, wIfS, wSet, wVar, wC, wBin, wTest, wAnd, wOr, wNot, wAndV, wOrV, wNotV, wIf, wCall, wCons, wNil, wTup, wLst, wLstM, wCB, wUn, wChain, wSl, wPart, wNo, wAsg, wgTup, wgCons, wgNil, wName, wPar, wSetIx, wAug, wDrop, wNext, wNever, wBM, wLstR1, EK.of, startG, List.map_cons, List.map_nil, List.length_cons, List.length_nil, Nat.reduceAdd, Nat.reduceSub, List.replicate, List.cons_append, List.nil_append, List.getElem?_cons_zero, List.getElem?_cons_succ, List.set_cons_zero, List.set_cons_succ, Option.some.injEq, exists_eq_left', exists_eq_left, D.bl.injEq, D.int.injEq, D.tup.injEq, D.lst.injEq, D.str.injEq, exists_and_left, if_true, Bool.false_eq_true, if_false, true_and, and_true, Int.cast_ofNat_Int, Int.reduceLT, Int.reduceLE, Int.reduceEq, Int.reduceNeg, Int.reduceAdd, Int.reduceSub, decide_true, decide_false, decide_eq_true_eq, List.getElem?_nil, reduceCtorEq, false_and, exists_false, dI_i, dIC_i, dB_i, dNeg_i, dAdd_i, dAdd_s, dAdd_t, dAdd_l, dMul_i, dMul_l, dEq_i, dEq_s, dEq_b, dNe_i, dNe_s, dNe_b, dIsN_n, dIsN_i, dIsN_l, dIsN_t, dNotN_n, dNotN_i, dNotN_l, dNotN_t, dRev_t, dIx_t, dIx_l, atI_0, atI_1, atI_2, atI_3, atI_4, rLen_s, rLen_t, rLen_l, rLen_c, rInt_i, rInt_b, rAbs_i, rList_t, rList_l, rLen_put, dIx_put, tyM_put, dIn_s, Bool.not_true, Bool.not_false, rIsi_bool hp, dEq_bb]
    refine ⟨by decide, rIsiT2 hp ⟨_, rfl, ?_⟩⟩
    refine (if_neg (show ¬ (isa (tyn D.non) "tuple" || isa (tyn D.non) "list") = true from (by decide : ¬ (isa "NoneType" "tuple" || isa "NoneType" "list") = true))).mpr ?_
    try simp only [wRet, wSeq, wIfS, wSet, wVar, wC, wBin, wTest, wAnd, wOr, wNot, wAndV, wOrV, wNotV, wIf, wCall, wCons, wNil, wTup, wLst, wLstM, wCB, wUn, wChain, wSl, wPart, wNo, wAsg, wgTup, wgCons, wgNil, wName, wPar, wSetIx, wAug, wDrop, wNext, wNever, wBM, wLstR1, EK.of, startG, List.map_cons, List.map_nil, List.length_cons, List.length_nil, Nat.reduceAdd, Nat.reduceSub, List.replicate, List.cons_append, List.nil_append, List.getElem?_cons_zero, List.getElem?_cons_succ, List.set_cons_zero, List.set_cons_succ, Option.some.injEq, exists_eq_left', exists_eq_left, D.bl.injEq, D.int.injEq, D.tup.injEq, D.lst.injEq, D.str.injEq, exists_and_left, if_true, Bool.false_eq_true, if_false, true_and, and_true, Int.cast_ofNat_Int, Int.reduceLT, Int.reduceLE, Int.reduceEq, Int.reduceNeg, Int.reduceAdd, Int.reduceSub, decide_true, decide_false, decide_eq_true_eq, List.getElem?_nil, reduceCtorEq, false_and, exists_false, dI_i, dIC_i, dB_i, dNeg_i, dAdd_i, dAdd_s, dAdd_t, dAdd_l, dMul_i, dMul_l, dEq_i, dEq_s, dEq_b, dNe_i, dNe_s, dNe_b, dIsN_n, dIsN_i, dIsN_l, dIsN_t, dNotN_n, dNotN_i, dNotN_l, dNotN_t, dRev_t, dIx_t, dIx_l, atI_0, atI_1, atI_2, atI_3, atI_4, rLen_s, rLen_t, rLen_l, rLen_c, rInt_i, rInt_b, rAbs_i, rList_t, rList_l, rLen_put, dIx_put, tyM_put, dIn_s, Bool.not_true, Bool.not_false, dEq_bb]
    exact .inr ⟨fun _ z => (by cases z), .inl ⟨rfl, he⟩⟩
  | bl b =>
    simp only [wb_law_is, wRet, wSeq, wIfS, wSet, wVar, wC, wBin, wTest, wAnd, wOr, wNot, wAndV, wOrV, wNotV, wIf, wCall, wCons, wNil, wTup, wLst, wLstM, wCB, wUn, wChain, wSl, wPart, wNo, wAsg, wgTup, wgCons, wgNil, wName, wPar, wSetIx, wAug, wDrop, wNext, wNever, wBM, wLstR1, EK.of, startG, List.map_cons, List.map_nil, List.length_cons, List.length_nil, Nat.reduceAdd, Nat.reduceSub, List.replicate, List.cons_append, List.nil_append, List.getElem?_cons_zero, List.getElem?_cons_succ, List.set_cons_zero, List.set_cons_succ, Option.some.injEq, exists_eq_left', exists_eq_left, D.bl.injEq, D.int.injEq, D.tup.injEq, D.lst.injEq, D.str.injEq, exists_and_left, if_true, Bool.false_eq_true, if_false, true_and, and_true, Int.cast_ofNat_Int, Int.reduceLT, Int.reduceLE, Int.reduceEq, Int.reduceNeg, Int.reduceAdd, Int.reduceSub, decide_true, decide_false, decide_eq_true_eq, List.getElem?_nil, reduceCtorEq, false_and, exists_false, dI_i, dIC_i, dB_i, dNeg_i, dAdd_i, dAdd_s, dAdd_t, dAdd_l, dMul_i, dMul_l, dEq_i, dEq_s, dEq_b, dNe_i, dNe_s, dNe_b, dIsN_n, dIsN_i, dIsN_l, dIsN_t, dNotN_n, dNotN_i, dNotN_l, dNotN_t, dRev_t, dIx_t, dIx_l, atI_0, atI_1, atI_2, atI_3, atI_4, rLen_s, rLen_t, rLen_l, rLen_c, rInt_i, rInt_b, rAbs_i, rList_t, rList_l, rLen_put, dIx_put, tyM_put, dIn_s, Bool.not_true, Bool.not_false, rIsi_bool hp, dEq_bb]
    refine ⟨by decide, rIsiT2 hp ⟨_, rfl, ?_⟩⟩
    refine (if_neg (show ¬ (isa (tyn (D.bl b)) "tuple" || isa (tyn (D.bl b)) "list") = true from (by decide : ¬ (isa "bool" "tuple" || isa "bool" "list") = true))).mpr ?_
    try simp only [wRet, wSeq, wIfS, wSet, wVar, wC, wBin, wTest, wAnd, wOr, wNot, wAndV, wOrV, wNotV, wIf, wCall, wCons, wNil, wTup, wLst, wLstM, wCB, wUn, wChain, wSl, wPart, wNo, wAsg, wgTup, wgCons, wgNil, wName, wPar, wSetIx, wAug, wDrop, wNext, wNever, wBM, wLstR1, EK.of, startG, List.map_cons, List.map_nil, List.length_cons, List.length_nil, Nat.reduceAdd, Nat.reduceSub, List.replicate, List.cons_append, List.nil_append, List.getElem?_cons_zero, List.getElem?_cons_succ, List.set_cons_zero, List.set_cons_succ, Option.some.injEq, exists_eq_left', exists_eq_left, D.bl.injEq, D.int.injEq, D.tup.injEq, D.lst.injEq, D.str.injEq, exists_and_left, if_true, Bool.false_eq_true, if_false, true_and, and_true, Int.cast_ofNat_Int, Int.reduceLT, Int.reduceLE, Int.reduceEq, Int.reduceNeg, Int.reduceAdd, Int.reduceSub, decide_true, decide_false, decide_eq_true_eq, List.getElem?_nil, reduceCtorEq, false_and, exists_false, dI_i, dIC_i, dB_i, dNeg_i, dAdd_i, dAdd_s, dAdd_t, dAdd_l, dMul_i, dMul_l, dEq_i, dEq_s, dEq_b, dNe_i, dNe_s, dNe_b, dIsN_n, dIsN_i, dIsN_l, dIsN_t, dNotN_n, dNotN_i, dNotN_l, dNotN_t, dRev_t, dIx_t, dIx_l, atI_0, atI_1, atI_2, atI_3, atI_4, rLen_s, rLen_t, rLen_l, rLen_c, rInt_i, rInt_b, rAbs_i, rList_t, rList_l, rLen_put, dIx_put, tyM_put, dIn_s, Bool.not_true, Bool.not_false, dEq_bb]
    exact .inr ⟨fun _ z => (by cases z), dEq_bb.mpr he⟩
  | int i hi =>
    simp only [wb_law_is, wRet, wSeq, wIfS, wSet, wVar, wC, wBin, wTest, wAnd, wOr, wNot, wAndV, wOrV, wNotV, wIf, wCall, wCons, wNil, wTup, wLst, wLstM, wCB, wUn, wChain, wSl, wPart, wNo, wAsg, wgTup, wgCons, wgNil, wName, wPar, wSetIx, wAug, wDrop, wNext, wNever, wBM, wLstR1, EK.of, startG, List.map_cons, List.map_nil, List.length_cons, List.length_nil, Nat.reduceAdd, Nat.reduceSub, List.replicate, List.cons_append, List.nil_append, List.getElem?_cons_zero, List.getElem?_cons_succ, List.set_cons_zero, List.set_cons_succ, Option.some.injEq, exists_eq_left', exists_eq_left, D.bl.injEq, D.int.injEq, D.tup.injEq, D.lst.injEq, D.str.injEq, exists_and_left, if_true, Bool.false_eq_true, if_false, true_and, and_true, Int.cast_ofNat_Int, Int.reduceLT, Int.reduceLE, Int.reduceEq, Int.reduceNeg, Int.reduceAdd, Int.reduceSub, decide_true, decide_false, decide_eq_true_eq, List.getElem?_nil, reduceCtorEq, false_and, exists_false, dI_i, dIC_i, dB_i, dNeg_i, dAdd_i, dAdd_s, dAdd_t, dAdd_l, dMul_i, dMul_l, dEq_i, dEq_s, dEq_b, dNe_i, dNe_s, dNe_b, dIsN_n, dIsN_i, dIsN_l, dIsN_t, dNotN_n, dNotN_i, dNotN_l, dNotN_t, dRev_t, dIx_t, dIx_l, atI_0, atI_1, atI_2, atI_3, atI_4, rLen_s, rLen_t, rLen_l, rLen_c, rInt_i, rInt_b, rAbs_i, rList_t, rList_l, rLen_put, dIx_put, tyM_put, dIn_s, Bool.not_true, Bool.not_false, rIsi_bool hp, dEq_bb]
    refine ⟨by decide, rIsiT2 hp ⟨_, rfl, ?_⟩⟩
    refine (if_neg (show ¬ (isa (tyn (D.int i)) "tuple" || isa (tyn (D.int i)) "list") = true from (by decide : ¬ (isa "int" "tuple" || isa "int" "list") = true))).mpr ?_
    try simp only [wRet, wSeq, wIfS, wSet, wVar, wC, wBin, wTest, wAnd, wOr, wNot, wAndV, wOrV, wNotV, wIf, wCall, wCons, wNil, wTup, wLst, wLstM, wCB, wUn, wChain, wSl, wPart, wNo, wAsg, wgTup, wgCons, wgNil, wName, wPar, wSetIx, wAug, wDrop, wNext, wNever, wBM, wLstR1, EK.of, startG, List.map_cons, List.map_nil, List.length_cons, List.length_nil, Nat.reduceAdd, Nat.reduceSub, List.replicate, List.cons_append, List.nil_append, List.getElem?_cons_zero, List.getElem?_cons_succ, List.set_cons_zero, List.set_cons_succ, Option.some.injEq, exists_eq_left', exists_eq_left, D.bl.injEq, D.int.injEq, D.tup.injEq, D.lst.injEq, D.str.injEq, exists_and_left, if_true, Bool.false_eq_true, if_false, true_and, and_true, Int.cast_ofNat_Int, Int.reduceLT, Int.reduceLE, Int.reduceEq, Int.reduceNeg, Int.reduceAdd, Int.reduceSub, decide_true, decide_false, decide_eq_true_eq, List.getElem?_nil, reduceCtorEq, false_and, exists_false, dI_i, dIC_i, dB_i, dNeg_i, dAdd_i, dAdd_s, dAdd_t, dAdd_l, dMul_i, dMul_l, dEq_i, dEq_s, dEq_b, dNe_i, dNe_s, dNe_b, dIsN_n, dIsN_i, dIsN_l, dIsN_t, dNotN_n, dNotN_i, dNotN_l, dNotN_t, dRev_t, dIx_t, dIx_l, atI_0, atI_1, atI_2, atI_3, atI_4, rLen_s, rLen_t, rLen_l, rLen_c, rInt_i, rInt_b, rAbs_i, rList_t, rList_l, rLen_put, dIx_put, tyM_put, dIn_s, Bool.not_true, Bool.not_false, dEq_bb]
    exact .inr ⟨fun _ z => (by cases z), dEq_i.mpr (by simpa using he)⟩
  | str x =>
    simp only [wb_law_is, wRet, wSeq, wIfS, wSet, wVar, wC, wBin, wTest, wAnd, wOr, wNot, wAndV, wOrV, wNotV, wIf, wCall, wCons, wNil, wTup, wLst, wLstM, wCB, wUn, wChain, wSl, wPart, wNo, wAsg, wgTup, wgCons, wgNil, wName, wPar, wSetIx, wAug, wDrop, wNext, wNever, wBM, wLstR1, EK.of, startG, List.map_cons, List.map_nil, List.length_cons, List.length_nil, Nat.reduceAdd, Nat.reduceSub, List.replicate, List.cons_append, List.nil_append, List.getElem?_cons_zero, List.getElem?_cons_succ, List.set_cons_zero, List.set_cons_succ, Option.some.injEq, exists_eq_left', exists_eq_left, D.bl.injEq, D.int.injEq, D.tup.injEq, D.lst.injEq, D.str.injEq, exists_and_left, if_true, Bool.false_eq_true, if_false, true_and, and_true, Int.cast_ofNat_Int, Int.reduceLT, Int.reduceLE, Int.reduceEq, Int.reduceNeg, Int.reduceAdd, Int.reduceSub, decide_true, decide_false, decide_eq_true_eq, List.getElem?_nil, reduceCtorEq, false_and, exists_false, dI_i, dIC_i, dB_i, dNeg_i, dAdd_i, dAdd_s, dAdd_t, dAdd_l, dMul_i, dMul_l, dEq_i, dEq_s, dEq_b, dNe_i, dNe_s, dNe_b, dIsN_n, dIsN_i, dIsN_l, dIsN_t, dNotN_n, dNotN_i, dNotN_l, dNotN_t, dRev_t, dIx_t, dIx_l, atI_0, atI_1, atI_2, atI_3, atI_4, rLen_s, rLen_t, rLen_l, rLen_c, rInt_i, rInt_b, rAbs_i, rList_t, rList_l, rLen_put, dIx_put, tyM_put, dIn_s, Bool.not_true, Bool.not_false, rIsi_bool hp, dEq_bb]
    refine ⟨by decide, rIsiT2 hp ⟨_, rfl, ?_⟩⟩
    refine (if_neg (show ¬ (isa (tyn (D.str x)) "tuple" || isa (tyn (D.str x)) "list") = true from (by decide : ¬ (isa "str" "tuple" || isa "str" "list") = true))).mpr ?_
    try simp only [wRet, wSeq, wIfS, wSet, wVar, wC, wBin, wTest, wAnd, wOr, wNot, wAndV, wOrV, wNotV, wIf, wCall, wCons, wNil, wTup, wLst, wLstM, wCB, wUn, wChain, wSl, wPart, wNo, wAsg, wgTup, wgCons, wgNil, wName, wPar, wSetIx, wAug, wDrop, wNext, wNever, wBM, wLstR1, EK.of, startG, List.map_cons, List.map_nil, List.length_cons, List.length_nil, Nat.reduceAdd, Nat.reduceSub, List.replicate, List.cons_append, List.nil_append, List.getElem?_cons_zero, List.getElem?_cons_succ, List.set_cons_zero, List.set_cons_succ, Option.some.injEq, exists_eq_left', exists_eq_left, D.bl.injEq, D.int.injEq, D.tup.injEq, D.lst.injEq, D.str.injEq, exists_and_left, if_true, Bool.false_eq_true, if_false, true_and, and_true, Int.cast_ofNat_Int, Int.reduceLT, Int.reduceLE, Int.reduceEq, Int.reduceNeg, Int.reduceAdd, Int.reduceSub, decide_true, decide_false, decide_eq_true_eq, List.getElem?_nil, reduceCtorEq, false_and, exists_false, dI_i, dIC_i, dB_i, dNeg_i, dAdd_i, dAdd_s, dAdd_t, dAdd_l, dMul_i, dMul_l, dEq_i, dEq_s, dEq_b, dNe_i, dNe_s, dNe_b, dIsN_n, dIsN_i, dIsN_l, dIsN_t, dNotN_n, dNotN_i, dNotN_l, dNotN_t, dRev_t, dIx_t, dIx_l, atI_0, atI_1, atI_2, atI_3, atI_4, rLen_s, rLen_t, rLen_l, rLen_c, rInt_i, rInt_b, rAbs_i, rList_t, rList_l, rLen_put, dIx_put, tyM_put, dIn_s, Bool.not_true, Bool.not_false, dEq_bb]
    exact .inr ⟨fun _ z => (by cases z), dEq_s.mpr (by simpa using he)⟩
theorem ok_law_is (mm : Nat) (hmm : mm ≤ 1000) (e : En w kl K mg) (t : Tx1 K mg "_law_is" st_law_is) : ∀ n, Fn1 P w K mg base (n + 1) "_law_is" ["_law_thing", "_law_due_here"] (sp_law_is mm n)
  | 0 => mk_law_is (k := 0) e t (Fn1.bot t bd_law_is) (fun ds S Q E ⟨d, h, _⟩ => by rw [h]; rfl) (pure_law_is hmm fun m h => by cases h)
  | n + 1 => mk_law_is (k := n + 1) e t (ok_law_is mm hmm e t n) (fun ds S Q E ⟨d, h, _⟩ => by rw [h]; rfl) (pure_law_is hmm fun m h => by cases h; rfl)
/-! _law_deep -/
def deep : Nat → D
  | 0 => .tup []
  | n + 1 => .lst [.tup [deep n]]
def sp_law_deep : PSp := fun ds S Q _ => ds = [] ∧ Q (deep 11) S
theorem ok_law_deep (e : En w kl K mg) (t : Tx1 K mg "_law_deep" st_law_deep) : Fn1 P w K mg base 1 "_law_deep" [] sp_law_deep := by
  refine mk_law_deep (k := 0) e t (fun ds S Q E => ?_) (fun ds S Q E => ?_)
  · rintro ⟨rfl, _⟩
    rfl
  · rintro ⟨rfl, hq⟩
    simp only [wb_law_deep, wFor, wLc, wLcM, wLcB, wiS, wiT, wiL, wiR1, wiR2, wipeG, wRet, wSeq, wIfS, wSet, wVar, wC, wBin, wTest, wAnd, wOr, wNot, wAndV, wOrV, wNotV, wIf, wCall, wCons, wNil, wTup, wLst, wLstM, wCB, wUn, wChain, wSl, wPart, wNo, wAsg, wgTup, wgCons, wgNil, wName, wPar, wSetIx, wAug, wDrop, wNext, wNever, wBM, wLstR1, EK.of, startG, List.map_cons, List.map_nil, List.length_cons, List.length_nil, Nat.reduceAdd, Nat.reduceSub, List.replicate, List.cons_append, List.nil_append, List.getElem?_cons_zero, List.getElem?_cons_succ, List.set_cons_zero, List.set_cons_succ, Option.some.injEq, exists_eq_left', exists_eq_left, D.bl.injEq, D.int.injEq, D.tup.injEq, D.lst.injEq, D.str.injEq, exists_and_left, if_true, Bool.false_eq_true, if_false, true_and, and_true, Int.cast_ofNat_Int, Int.reduceLT, Int.reduceLE, Int.reduceEq, Int.reduceNeg, Int.reduceAdd, Int.reduceSub, decide_true, decide_false, decide_eq_true_eq, List.getElem?_nil, reduceCtorEq, false_and, exists_false, dI_i, dIC_i, dB_i, dNeg_i, dAdd_i, dAdd_s, dAdd_t, dAdd_l, dMul_i, dMul_l, dEq_i, dEq_s, dEq_b, dNe_i, dNe_s, dNe_b, dIsN_n, dIsN_i, dIsN_l, dIsN_t, dNotN_n, dNotN_i, dNotN_l, dNotN_t, dRev_t, dIx_t, dIx_l, atI_0, atI_1, atI_2, atI_3, atI_4, rLen_s, rLen_t, rLen_l, rLen_c, rInt_i, rInt_b, rAbs_i, rList_t, rList_l, rLen_put, dIx_put, tyM_put, dIn_s, Bool.not_true, Bool.not_false]
    refine ⟨by decide, _, rfl, by decide, by decide, fun n Γ S1 => S1 = S ∧ ∃ x1, Γ = [some (deep n), x1], ⟨rfl, none, rfl⟩, fun _ _ _ _ _ => trivial, ?_, ?_⟩
    · rintro n x Γ S1 _ ⟨rfl, x1, rfl⟩
      simp only [wRet, wSeq, wIfS, wSet, wVar, wC, wBin, wTest, wAnd, wOr, wNot, wAndV, wOrV, wNotV, wIf, wCall, wCons, wNil, wTup, wLst, wLstM, wCB, wUn, wChain, wSl, wPart, wNo, wAsg, wgTup, wgCons, wgNil, wName, wPar, wSetIx, wAug, wDrop, wNext, wNever, wBM, wLstR1, EK.of, startG, List.map_cons, List.map_nil, List.length_cons, List.length_nil, Nat.reduceAdd, Nat.reduceSub, List.replicate, List.cons_append, List.nil_append, List.getElem?_cons_zero, List.getElem?_cons_succ, List.set_cons_zero, List.set_cons_succ, Option.some.injEq, exists_eq_left', exists_eq_left, D.bl.injEq, D.int.injEq, D.tup.injEq, D.lst.injEq, D.str.injEq, exists_and_left, if_true, Bool.false_eq_true, if_false, true_and, and_true, Int.cast_ofNat_Int, Int.reduceLT, Int.reduceLE, Int.reduceEq, Int.reduceNeg, Int.reduceAdd, Int.reduceSub, decide_true, decide_false, decide_eq_true_eq, List.getElem?_nil, reduceCtorEq, false_and, exists_false, dI_i, dIC_i, dB_i, dNeg_i, dAdd_i, dAdd_s, dAdd_t, dAdd_l, dMul_i, dMul_l, dEq_i, dEq_s, dEq_b, dNe_i, dNe_s, dNe_b, dIsN_n, dIsN_i, dIsN_l, dIsN_t, dNotN_n, dNotN_i, dNotN_l, dNotN_t, dRev_t, dIx_t, dIx_l, atI_0, atI_1, atI_2, atI_3, atI_4, rLen_s, rLen_t, rLen_l, rLen_c, rInt_i, rInt_b, rAbs_i, rList_t, rList_l, rLen_put, dIx_put, tyM_put, dIn_s, Bool.not_true, Bool.not_false]
      first | exact ⟨by decide, _, rfl⟩ | exact ⟨by decide, by decide, _, rfl⟩
    · rintro Γ S1 ⟨rfl, x1, rfl⟩
      simp only [wRet, wSeq, wIfS, wSet, wVar, wC, wBin, wTest, wAnd, wOr, wNot, wAndV, wOrV, wNotV, wIf, wCall, wCons, wNil, wTup, wLst, wLstM, wCB, wUn, wChain, wSl, wPart, wNo, wAsg, wgTup, wgCons, wgNil, wName, wPar, wSetIx, wAug, wDrop, wNext, wNever, wBM, wLstR1, EK.of, startG, List.map_cons, List.map_nil, List.length_cons, List.length_nil, Nat.reduceAdd, Nat.reduceSub, List.replicate, List.cons_append, List.nil_append, List.getElem?_cons_zero, List.getElem?_cons_succ, List.set_cons_zero, List.set_cons_succ, Option.some.injEq, exists_eq_left', exists_eq_left, D.bl.injEq, D.int.injEq, D.tup.injEq, D.lst.injEq, D.str.injEq, exists_and_left, if_true, Bool.false_eq_true, if_false, true_and, and_true, Int.cast_ofNat_Int, Int.reduceLT, Int.reduceLE, Int.reduceEq, Int.reduceNeg, Int.reduceAdd, Int.reduceSub, decide_true, decide_false, decide_eq_true_eq, List.getElem?_nil, reduceCtorEq, false_and, exists_false, dI_i, dIC_i, dB_i, dNeg_i, dAdd_i, dAdd_s, dAdd_t, dAdd_l, dMul_i, dMul_l, dEq_i, dEq_s, dEq_b, dNe_i, dNe_s, dNe_b, dIsN_n, dIsN_i, dIsN_l, dIsN_t, dNotN_n, dNotN_i, dNotN_l, dNotN_t, dRev_t, dIx_t, dIx_l, atI_0, atI_1, atI_2, atI_3, atI_4, rLen_s, rLen_t, rLen_l, rLen_c, rInt_i, rInt_b, rAbs_i, rList_t, rList_l, rLen_put, dIx_put, tyM_put, dIn_s, Bool.not_true, Bool.not_false]
      exact end_id hq

/-- the bag lies at p, its great numbers at g -/
def Bag (S : Sto) (p g : Addr) : Prop := ∃ (s c : Int) (al : D) (cs : List Int), S p = some (.lst [.int s, .int c, .ref g, al]) ∧ S g = some (.lst (cs.map D.int)) ∧ g ≠ p ∧ (al = .non ∨ ∃ a, al = .int a)
/-- the bag still lies there, all else is as it was -/
def Go (p g : Addr) (S S' : Sto) : Prop := Bag S' p g ∧ ∀ q o, q ≠ p → q ≠ g → S q = some o → S' q = some o
theorem Go.refl {p g : Addr} {S : Sto} (h : Bag S p g) : Go p g S S := ⟨h, fun _ _ _ _ e => e⟩
theorem Go.trans {p g : Addr} {S S' S'' : Sto} (h1 : Go p g S S') (h2 : Go p g S' S'') : Go p g S S'' := ⟨h2.1, fun q o a b e => h2.2 q o a b (h1.2 q o a b e)⟩
theorem Bag.put {p g d : Addr} {S : Sto} {o : Ob} (h : Bag S p g) (h1 : p ≠ d) (h2 : g ≠ d) : Bag (S.put d o) p g := by
  obtain ⟨s, c, al, cs, a, b, n, x⟩ := h
  exact ⟨s, c, al, cs, (Sto.put_ne h1).trans a, (Sto.put_ne h2).trans b, n, x⟩
theorem Bag.ne {p g d : Addr} {S : Sto} (h : Bag S p g) (hd : S d = none) : p ≠ d ∧ g ≠ d := by
  obtain ⟨s, c, al, cs, a, b, n, x⟩ := h
  exact ⟨fun z => (by rw [z, hd] at a; cases a), fun z => (by rw [z, hd] at b; cases b)⟩
/-- what is new may be written -/
theorem Go.put {p g d : Addr} {S S1 : Sto} {o : Ob} (h : Go p g S S1) (h1 : p ≠ d) (h2 : g ≠ d) (hd : S d = none) : Go p g S (S1.put d o) :=
  ⟨h.1.put h1 h2, fun q ob a b e => by
    have : q ≠ d := fun z => by rw [z, hd] at e; cases e
    exact (Sto.put_ne this).trans (h.2 q ob a b e)⟩
def sp_law_bag : PSp := fun ds S Q _ => ∃ ns : List Int, ds = [.scr ns] ∧ ns.length ≤ sizeLine ∧ ∀ p g S', Bag S' p g → Q (.ref p) S'
def sp_law_pick : PSp := fun ds S Q _ => ∃ (p g : Addr) (m : Int), ds = [.ref p, .int m] ∧ Bag S p g ∧ 0 < m ∧ m < 10 ^ 40 ∧ ∀ S', Go p g S S' → ∀ n : Int, 0 ≤ n → n < m → Q (.int n) S'
def sp_law_some : PSp := fun ds S Q _ => ∃ (p g : Addr) (xs : List D), ds = [.ref p, .lst xs] ∧ Bag S p g ∧ xs ≠ [] ∧ xs.length < 1000 ∧ ∀ S', Go p g S S' → ∀ x ∈ xs, Q x S'
theorem cutD_map {α β : Type} (f : α → β) (xs : List α) (lo hi : Option Int) : cutD (xs.map f) lo hi = (cutD xs lo hi).map f := by
  unfold cutD
  rw [List.length_map, List.map_take, List.map_drop]
theorem cutD_len {α : Type} (xs : List α) (lo hi : Option Int) : (cutD xs lo hi).length ≤ xs.length := by
  unfold cutD
  rw [List.length_take, List.length_drop]
  omega
theorem fm (x : Int) {m : Int} (h : 0 < m) : 0 ≤ x.fmod m ∧ x.fmod m < m := by
  rw [Int.fmod_eq_emod_of_nonneg _ (Int.le_of_lt h)]
  exact ⟨Int.emod_nonneg _ (by omega), Int.emod_lt_of_pos _ h⟩
theorem ok_law_bag (e : En w kl K mg) (t : Tx1 K mg "_law_bag" st_law_bag) : Fn1 P w K mg base 1 "_law_bag" ["_law_script"] sp_law_bag := by
  refine mk_law_bag (k := 0) e t (fun ds S Q E => ?_) (fun ds S Q E => ?_)
  · rintro ⟨ns, rfl, _⟩
    rfl
  · rintro ⟨ns, rfl, hl, hq⟩
    have h3 := cutD_len ns none (some 63)
    have rest : ∀ (s : Int) (x2 : Option D), wb_law_bag_1 w kl (NN (PL.End Q)) (EE E) [some (.scr ns), some (.int s), x2, none, none] S := by
      intro s x2
      simp only [wb_law_bag_1, wb_law_bag_0, wLc, wLcM, wLcB, wiS, wiT, wiL, wiR1, wiR2, wipeG, wRet, wSeq, wIfS, wSet, wVar, wC, wBin, wTest, wAnd, wOr, wNot, wAndV, wOrV, wNotV, wIf, wCall, wCons, wNil, wTup, wLst, wLstM, wCB, wUn, wChain, wSl, wPart, wNo, wAsg, wgTup, wgCons, wgNil, wName, wPar, wSetIx, wAug, wDrop, wNext, wNever, wBM, wLstR1, EK.of, startG, List.map_cons, List.map_nil, List.length_cons, List.length_nil, Nat.reduceAdd, Nat.reduceSub, List.replicate, List.cons_append, List.nil_append, List.getElem?_cons_zero, List.getElem?_cons_succ, List.set_cons_zero, List.set_cons_succ, Option.some.injEq, exists_eq_left', exists_eq_left, D.bl.injEq, D.int.injEq, D.tup.injEq, D.lst.injEq, D.str.injEq, exists_and_left, if_true, Bool.false_eq_true, if_false, true_and, and_true, Int.cast_ofNat_Int, Int.reduceLT, Int.reduceLE, Int.reduceEq, Int.reduceNeg, Int.reduceAdd, Int.reduceSub, decide_true, decide_false, decide_eq_true_eq, List.getElem?_nil, reduceCtorEq, false_and, exists_false, dI_i, dIC_i, dB_i, dNeg_i, dAdd_i, dAdd_s, dAdd_t, dAdd_l, dMul_i, dMul_l, dEq_i, dEq_s, dEq_b, dNe_i, dNe_s, dNe_b, dIsN_n, dIsN_i, dIsN_l, dIsN_t, dNotN_n, dNotN_i, dNotN_l, dNotN_t, dRev_t, dIx_t, dIx_l, atI_0, atI_1, atI_2, atI_3, atI_4, rLen_s, rLen_t, rLen_l, rLen_c, rInt_i, rInt_b, rAbs_i, rList_t, rList_l, rLen_put, dIx_put, tyM_put, dIn_s, Bool.not_true, Bool.not_false, dSl, Sq, cutD_map, wLcM, wLcB]
      have fin : ∀ (S2 : Sto) (cs : List Int) (p : Addr) (al : D), S2 p = none → (al = .non ∨ ∃ a, al = .int a) → 4 ≤ sizeLine ∧ ∀ (p_1 : Addr), S2.put p (Ob.lst (cs.map D.int)) p_1 = none →
          PL.End Q (D.ref p_1) ((S2.put p (Ob.lst (cs.map D.int))).put p_1 (Ob.lst [D.int s, D.int 1, D.ref p, al])) := by
        intro S2 cs p al hp ha
        refine ⟨by decide, fun q hq1 => end_id (hq q p _ ⟨s, 1, al, cs, Sto.put_same, ?_, ?_, ha⟩)⟩
        · have ne : p ≠ q := fun z => by rw [← z, Sto.put_same] at hq1; cases hq1
          rw [Sto.put_ne ne, Sto.put_same]
        · intro z
          rw [← z, Sto.put_same] at hq1
          cases hq1
      refine ⟨rfl, by rw [List.length_map]; exact Nat.le_trans h3 hl, lc_of D.int (fun i => (if (10 : Int) ^ (18 : Int).toNat ≤ (if i < 0 then -i else i) then some (if i < 0 then -i else i) else none).map D.int) trivial _ [] (fun a _ G hG => ?_) ?_⟩
      · simp only [wRet, wSeq, wIfS, wSet, wVar, wC, wBin, wTest, wAnd, wOr, wNot, wAndV, wOrV, wNotV, wIf, wCall, wCons, wNil, wTup, wLst, wLstM, wCB, wUn, wChain, wSl, wPart, wNo, wAsg, wgTup, wgCons, wgNil, wName, wPar, wSetIx, wAug, wDrop, wNext, wNever, wBM, wLstR1, EK.of, startG, List.map_cons, List.map_nil, List.length_cons, List.length_nil, Nat.reduceAdd, Nat.reduceSub, List.replicate, List.cons_append, List.nil_append, List.getElem?_cons_zero, List.getElem?_cons_succ, List.set_cons_zero, List.set_cons_succ, Option.some.injEq, exists_eq_left', exists_eq_left, D.bl.injEq, D.int.injEq, D.tup.injEq, D.lst.injEq, D.str.injEq, exists_and_left, if_true, Bool.false_eq_true, if_false, true_and, and_true, Int.cast_ofNat_Int, Int.reduceLT, Int.reduceLE, Int.reduceEq, Int.reduceNeg, Int.reduceAdd, Int.reduceSub, decide_true, decide_false, decide_eq_true_eq, List.getElem?_nil, reduceCtorEq, false_and, exists_false, dI_i, dIC_i, dB_i, dNeg_i, dAdd_i, dAdd_s, dAdd_t, dAdd_l, dMul_i, dMul_l, dEq_i, dEq_s, dEq_b, dNe_i, dNe_s, dNe_b, dIsN_n, dIsN_i, dIsN_l, dIsN_t, dNotN_n, dNotN_i, dNotN_l, dNotN_t, dRev_t, dIx_t, dIx_l, atI_0, atI_1, atI_2, atI_3, atI_4, rLen_s, rLen_t, rLen_l, rLen_c, rInt_i, rInt_b, rAbs_i, rList_t, rList_l, rLen_put, dIx_put, tyM_put, dIn_s, Bool.not_true, Bool.not_false]
        refine ⟨⟨by decide, by decide, by decide⟩, ite2 (fun z => ?_) fun z => ?_⟩
        · rw [if_pos z] at hG
          exact hG
        · rw [if_neg z] at hG
          exact hG
      · rw [List.nil_append, show (fun i : Int => (if (10 : Int) ^ (18 : Int).toNat ≤ (if i < 0 then -i else i) then some (if i < 0 then -i else i) else none).map D.int) = fun i => Option.map D.int ((fun i : Int => if (10 : Int) ^ (18 : Int).toNat ≤ (if i < 0 then -i else i) then some (if i < 0 then -i else i) else none) i) from rfl, ← List.map_filterMap]
        intro p hp
        refine ite2 (fun _ => ite2 (fun _ => ?_) fun _ => fin _ _ _ _ hp (.inl rfl)) fun _ => fin _ _ _ _ hp (.inl rfl)
        refine ⟨rfl, by rw [List.length_map]; exact hl, lc_all D.int D.int trivial ns [] (fun a _ G hG => ?_) ?_⟩
        · simp only [wRet, wSeq, wIfS, wSet, wVar, wC, wBin, wTest, wAnd, wOr, wNot, wAndV, wOrV, wNotV, wIf, wCall, wCons, wNil, wTup, wLst, wLstM, wCB, wUn, wChain, wSl, wPart, wNo, wAsg, wgTup, wgCons, wgNil, wName, wPar, wSetIx, wAug, wDrop, wNext, wNever, wBM, wLstR1, EK.of, startG, List.map_cons, List.map_nil, List.length_cons, List.length_nil, Nat.reduceAdd, Nat.reduceSub, List.replicate, List.cons_append, List.nil_append, List.getElem?_cons_zero, List.getElem?_cons_succ, List.set_cons_zero, List.set_cons_succ, Option.some.injEq, exists_eq_left', exists_eq_left, D.bl.injEq, D.int.injEq, D.tup.injEq, D.lst.injEq, D.str.injEq, exists_and_left, if_true, Bool.false_eq_true, if_false, true_and, and_true, Int.cast_ofNat_Int, Int.reduceLT, Int.reduceLE, Int.reduceEq, Int.reduceNeg, Int.reduceAdd, Int.reduceSub, decide_true, decide_false, decide_eq_true_eq, List.getElem?_nil, reduceCtorEq, false_and, exists_false, dI_i, dIC_i, dB_i, dNeg_i, dAdd_i, dAdd_s, dAdd_t, dAdd_l, dMul_i, dMul_l, dEq_i, dEq_s, dEq_b, dNe_i, dNe_s, dNe_b, dIsN_n, dIsN_i, dIsN_l, dIsN_t, dNotN_n, dNotN_i, dNotN_l, dNotN_t, dRev_t, dIx_t, dIx_l, atI_0, atI_1, atI_2, atI_3, atI_4, rLen_s, rLen_t, rLen_l, rLen_c, rInt_i, rInt_b, rAbs_i, rList_t, rList_l, rLen_put, dIx_put, tyM_put, dIn_s, Bool.not_true, Bool.not_false]
          exact hG
        · refine rSum_l ?_
          simp only [wRet, wSeq, wIfS, wSet, wVar, wC, wBin, wTest, wAnd, wOr, wNot, wAndV, wOrV, wNotV, wIf, wCall, wCons, wNil, wTup, wLst, wLstM, wCB, wUn, wChain, wSl, wPart, wNo, wAsg, wgTup, wgCons, wgNil, wName, wPar, wSetIx, wAug, wDrop, wNext, wNever, wBM, wLstR1, EK.of, startG, List.map_cons, List.map_nil, List.length_cons, List.length_nil, Nat.reduceAdd, Nat.reduceSub, List.replicate, List.cons_append, List.nil_append, List.getElem?_cons_zero, List.getElem?_cons_succ, List.set_cons_zero, List.set_cons_succ, Option.some.injEq, exists_eq_left', exists_eq_left, D.bl.injEq, D.int.injEq, D.tup.injEq, D.lst.injEq, D.str.injEq, exists_and_left, if_true, Bool.false_eq_true, if_false, true_and, and_true, Int.cast_ofNat_Int, Int.reduceLT, Int.reduceLE, Int.reduceEq, Int.reduceNeg, Int.reduceAdd, Int.reduceSub, decide_true, decide_false, decide_eq_true_eq, List.getElem?_nil, reduceCtorEq, false_and, exists_false, dI_i, dIC_i, dB_i, dNeg_i, dAdd_i, dAdd_s, dAdd_t, dAdd_l, dMul_i, dMul_l, dEq_i, dEq_s, dEq_b, dNe_i, dNe_s, dNe_b, dIsN_n, dIsN_i, dIsN_l, dIsN_t, dNotN_n, dNotN_i, dNotN_l, dNotN_t, dRev_t, dIx_t, dIx_l, atI_0, atI_1, atI_2, atI_3, atI_4, rLen_s, rLen_t, rLen_l, rLen_c, rInt_i, rInt_b, rAbs_i, rList_t, rList_l, rLen_put, dIx_put, tyM_put, dIn_s, Bool.not_true, Bool.not_false]
          exact fin _ _ _ _ hp (.inr ⟨_, rfl⟩)
    simp only [wb_law_bag, wFor, wLc, wLcM, wLcB, wiS, wiT, wiL, wiR1, wiR2, wipeG, wRet, wSeq, wIfS, wSet, wVar, wC, wBin, wTest, wAnd, wOr, wNot, wAndV, wOrV, wNotV, wIf, wCall, wCons, wNil, wTup, wLst, wLstM, wCB, wUn, wChain, wSl, wPart, wNo, wAsg, wgTup, wgCons, wgNil, wName, wPar, wSetIx, wAug, wDrop, wNext, wNever, wBM, wLstR1, EK.of, startG, List.map_cons, List.map_nil, List.length_cons, List.length_nil, Nat.reduceAdd, Nat.reduceSub, List.replicate, List.cons_append, List.nil_append, List.getElem?_cons_zero, List.getElem?_cons_succ, List.set_cons_zero, List.set_cons_succ, Option.some.injEq, exists_eq_left', exists_eq_left, D.bl.injEq, D.int.injEq, D.tup.injEq, D.lst.injEq, D.str.injEq, exists_and_left, if_true, Bool.false_eq_true, if_false, true_and, and_true, Int.cast_ofNat_Int, Int.reduceLT, Int.reduceLE, Int.reduceEq, Int.reduceNeg, Int.reduceAdd, Int.reduceSub, decide_true, decide_false, decide_eq_true_eq, List.getElem?_nil, reduceCtorEq, false_and, exists_false, dI_i, dIC_i, dB_i, dNeg_i, dAdd_i, dAdd_s, dAdd_t, dAdd_l, dMul_i, dMul_l, dEq_i, dEq_s, dEq_b, dNe_i, dNe_s, dNe_b, dIsN_n, dIsN_i, dIsN_l, dIsN_t, dNotN_n, dNotN_i, dNotN_l, dNotN_t, dRev_t, dIx_t, dIx_l, atI_0, atI_1, atI_2, atI_3, atI_4, rLen_s, rLen_t, rLen_l, rLen_c, rInt_i, rInt_b, rAbs_i, rList_t, rList_l, rLen_put, dIx_put, tyM_put, dIn_s, Bool.not_true, Bool.not_false, dSl, Sq, cutD_map]
    refine ⟨rfl, fun i Γ S1 => S1 = S ∧ ∃ (s : Int) (x2 : Option D), Γ = [some (.scr ns), some (.int s), x2, none, none], ⟨rfl, _, _, rfl⟩, fun _ _ _ _ _ => trivial, ?_, ?_⟩
    · rintro i x Γ S1 hx ⟨rfl, s, x2, rfl⟩
      obtain ⟨a, _, rfl⟩ := List.mem_map.mp (List.mem_of_getElem? hx)
      simp only [wRet, wSeq, wIfS, wSet, wVar, wC, wBin, wTest, wAnd, wOr, wNot, wAndV, wOrV, wNotV, wIf, wCall, wCons, wNil, wTup, wLst, wLstM, wCB, wUn, wChain, wSl, wPart, wNo, wAsg, wgTup, wgCons, wgNil, wName, wPar, wSetIx, wAug, wDrop, wNext, wNever, wBM, wLstR1, EK.of, startG, List.map_cons, List.map_nil, List.length_cons, List.length_nil, Nat.reduceAdd, Nat.reduceSub, List.replicate, List.cons_append, List.nil_append, List.getElem?_cons_zero, List.getElem?_cons_succ, List.set_cons_zero, List.set_cons_succ, Option.some.injEq, exists_eq_left', exists_eq_left, D.bl.injEq, D.int.injEq, D.tup.injEq, D.lst.injEq, D.str.injEq, exists_and_left, if_true, Bool.false_eq_true, if_false, true_and, and_true, Int.cast_ofNat_Int, Int.reduceLT, Int.reduceLE, Int.reduceEq, Int.reduceNeg, Int.reduceAdd, Int.reduceSub, decide_true, decide_false, decide_eq_true_eq, List.getElem?_nil, reduceCtorEq, false_and, exists_false, dI_i, dIC_i, dB_i, dNeg_i, dAdd_i, dAdd_s, dAdd_t, dAdd_l, dMul_i, dMul_l, dEq_i, dEq_s, dEq_b, dNe_i, dNe_s, dNe_b, dIsN_n, dIsN_i, dIsN_l, dIsN_t, dNotN_n, dNotN_i, dNotN_l, dNotN_t, dRev_t, dIx_t, dIx_l, atI_0, atI_1, atI_2, atI_3, atI_4, rLen_s, rLen_t, rLen_l, rLen_c, rInt_i, rInt_b, rAbs_i, rList_t, rList_l, rLen_put, dIx_put, tyM_put, dIn_s, Bool.not_true, Bool.not_false]
      refine ⟨mulOk_r (by decide) (by decide), by decide, by decide, _, _, rfl⟩
    · rintro Γ S1 ⟨rfl, s, x2, rfl⟩
      exact rest s x2
section
variable {S : Sto} {Q : QK} {p : Addr} {ds xs : List D} {i : Int} {v : D} {q : Sto → Prop} {n : Nat}
theorem setA_at (hp : S p = some (.lst xs)) (hi : i = (n : Int)) (hn : n < xs.length) (h : q (S.put p (.lst (xs.set n v)))) : rSetA w (.ref p) (.int i) v S q := by
  refine .inl ⟨p, xs, i, n, rfl, rfl, hp, ?_, h⟩
  unfold ixN
  rw [if_pos (by omega), if_pos (by omega), hi, Int.toNat_natCast]
end
theorem divT {i j : Int} (h1 : 0 < j) (h2 : j < 10 ^ 40) : CDivA i j := by
  refine ⟨by omega, ?_⟩
  have e : (10 : Int) ^ 40 = ((10 ^ 40 : Nat) : Int) := by decide
  rw [e] at h2
  have h3 : j.natAbs < 10 ^ 40 := by omega
  have : j.natAbs.log2 < 140 := (Nat.log2_lt (by omega)).mpr (Nat.lt_trans h3 (by decide))
  omega
theorem ok_law_pick (e : En w kl K mg) (t : Tx1 K mg "_law_pick" st_law_pick) : Fn1 P w K mg base 1 "_law_pick" ["_law_bag_here", "_law_many"] sp_law_pick := by
  refine mk_law_pick (k := 0) e t (fun ds S Q E => ?_) (fun ds S Q E => ?_)
  · rintro ⟨p, g, m, rfl, _⟩
    rfl
  · rintro ⟨p, g, m, rfl, hh, hm, hm2, hq⟩
    have b1 := fun (x : Int) => fm x (show (0 : Int) < 2147483647 by decide)
    have last : ∀ (S' : Sto) (x2 x4 : Option D), Go p g S S' → wb_law_pick_1 w kl (NN (PL.End Q)) (EE E) [some (.ref p), some (.int m), x2, none, x4] S' := by
      intro S' x2 x4 hb
      obtain ⟨s, c, al, cs, h1, h2, h3, h4⟩ := id hb.1
      simp only [wb_law_pick_1, wRet, wSeq, wIfS, wSet, wVar, wC, wBin, wTest, wAnd, wOr, wNot, wAndV, wOrV, wNotV, wIf, wCall, wCons, wNil, wTup, wLst, wLstM, wCB, wUn, wChain, wSl, wPart, wNo, wAsg, wgTup, wgCons, wgNil, wName, wPar, wSetIx, wAug, wDrop, wNext, wNever, wBM, wLstR1, EK.of, startG, List.map_cons, List.map_nil, List.length_cons, List.length_nil, Nat.reduceAdd, Nat.reduceSub, List.replicate, List.cons_append, List.nil_append, List.getElem?_cons_zero, List.getElem?_cons_succ, List.set_cons_zero, List.set_cons_succ, Option.some.injEq, exists_eq_left', exists_eq_left, D.bl.injEq, D.int.injEq, D.tup.injEq, D.lst.injEq, D.str.injEq, exists_and_left, if_true, Bool.false_eq_true, if_false, true_and, and_true, Int.cast_ofNat_Int, Int.reduceLT, Int.reduceLE, Int.reduceEq, Int.reduceNeg, Int.reduceAdd, Int.reduceSub, decide_true, decide_false, decide_eq_true_eq, List.getElem?_nil, reduceCtorEq, false_and, exists_false, dI_i, dIC_i, dB_i, dNeg_i, dAdd_i, dAdd_s, dAdd_t, dAdd_l, dMul_i, dMul_l, dEq_i, dEq_s, dEq_b, dNe_i, dNe_s, dNe_b, dIsN_n, dIsN_i, dIsN_l, dIsN_t, dNotN_n, dNotN_i, dNotN_l, dNotN_t, dRev_t, dIx_t, dIx_l, atI_0, atI_1, atI_2, atI_3, atI_4, rLen_s, rLen_t, rLen_l, rLen_c, rInt_i, rInt_b, rAbs_i, rList_t, rList_l, rLen_put, dIx_put, tyM_put, dIn_s, Bool.not_true, Bool.not_false, dIxA_r h1]
      refine ⟨mulOk_l (by decide) (by decide), mulOk_r (by decide) (by decide), by decide, divOk (by decide) (by decide), mulOk_l (Int.lt_of_lt_of_le (by decide) (b1 _).1) (Int.lt_trans (b1 _).2 (by decide)), by decide,
        divOk (by decide) (by decide), mulOk_l (Int.lt_of_lt_of_le (by decide) (b1 _).1) (Int.lt_trans (b1 _).2 (by decide)), by decide, divOk (by decide) (by decide), by omega, ?_⟩
      exact end_id (hq _ hb _ (fm _ hm).1 (fm _ hm).2)
    have fin : ∀ (N : Nd) (S' : Sto) (x2 : Option D) (n : Int), N.rt = PL.End Q → Go p g S S' → 0 ≤ n → n < m → wb_law_pick_0 w kl N (EE E) [some (.ref p), some (.int m), x2, none, some (.int n)] S' := by
      intro N S' x2 n hN hb h0 h1
      simp only [wb_law_pick_0, wRet, wSeq, wIfS, wSet, wVar, wC, wBin, wTest, wAnd, wOr, wNot, wAndV, wOrV, wNotV, wIf, wCall, wCons, wNil, wTup, wLst, wLstM, wCB, wUn, wChain, wSl, wPart, wNo, wAsg, wgTup, wgCons, wgNil, wName, wPar, wSetIx, wAug, wDrop, wNext, wNever, wBM, wLstR1, EK.of, startG, List.map_cons, List.map_nil, List.length_cons, List.length_nil, Nat.reduceAdd, Nat.reduceSub, List.replicate, List.cons_append, List.nil_append, List.getElem?_cons_zero, List.getElem?_cons_succ, List.set_cons_zero, List.set_cons_succ, Option.some.injEq, exists_eq_left', exists_eq_left, D.bl.injEq, D.int.injEq, D.tup.injEq, D.lst.injEq, D.str.injEq, exists_and_left, if_true, Bool.false_eq_true, if_false, true_and, and_true, Int.cast_ofNat_Int, Int.reduceLT, Int.reduceLE, Int.reduceEq, Int.reduceNeg, Int.reduceAdd, Int.reduceSub, decide_true, decide_false, decide_eq_true_eq, List.getElem?_nil, reduceCtorEq, false_and, exists_false, dI_i, dIC_i, dB_i, dNeg_i, dAdd_i, dAdd_s, dAdd_t, dAdd_l, dMul_i, dMul_l, dEq_i, dEq_s, dEq_b, dNe_i, dNe_s, dNe_b, dIsN_n, dIsN_i, dIsN_l, dIsN_t, dNotN_n, dNotN_i, dNotN_l, dNotN_t, dRev_t, dIx_t, dIx_l, atI_0, atI_1, atI_2, atI_3, atI_4, rLen_s, rLen_t, rLen_l, rLen_c, rInt_i, rInt_b, rAbs_i, rList_t, rList_l, rLen_put, dIx_put, tyM_put, dIn_s, Bool.not_true, Bool.not_false, hN]
      exact end_id (hq _ hb _ h0 h1)
    have mid : ∀ (S' : Sto), Go p g S S' → wb_law_pick_2 w kl (NN (PL.End Q)) (EE E) [some (.ref p), some (.int m), none, none, none] S' := by
      intro S' hb
      obtain ⟨s, c, al, cs, h1, h2, h3, h4⟩ := id hb.1
      simp only [wb_law_pick_2, wRet, wSeq, wIfS, wSet, wVar, wC, wBin, wTest, wAnd, wOr, wNot, wAndV, wOrV, wNotV, wIf, wCall, wCons, wNil, wTup, wLst, wLstM, wCB, wUn, wChain, wSl, wPart, wNo, wAsg, wgTup, wgCons, wgNil, wName, wPar, wSetIx, wAug, wDrop, wNext, wNever, wBM, wLstR1, EK.of, startG, List.map_cons, List.map_nil, List.length_cons, List.length_nil, Nat.reduceAdd, Nat.reduceSub, List.replicate, List.cons_append, List.nil_append, List.getElem?_cons_zero, List.getElem?_cons_succ, List.set_cons_zero, List.set_cons_succ, Option.some.injEq, exists_eq_left', exists_eq_left, D.bl.injEq, D.int.injEq, D.tup.injEq, D.lst.injEq, D.str.injEq, exists_and_left, if_true, Bool.false_eq_true, if_false, true_and, and_true, Int.cast_ofNat_Int, Int.reduceLT, Int.reduceLE, Int.reduceEq, Int.reduceNeg, Int.reduceAdd, Int.reduceSub, decide_true, decide_false, decide_eq_true_eq, List.getElem?_nil, reduceCtorEq, false_and, exists_false, dI_i, dIC_i, dB_i, dNeg_i, dAdd_i, dAdd_s, dAdd_t, dAdd_l, dMul_i, dMul_l, dEq_i, dEq_s, dEq_b, dNe_i, dNe_s, dNe_b, dIsN_n, dIsN_i, dIsN_l, dIsN_t, dNotN_n, dNotN_i, dNotN_l, dNotN_t, dRev_t, dIx_t, dIx_l, atI_0, atI_1, atI_2, atI_3, atI_4, rLen_s, rLen_t, rLen_l, rLen_c, rInt_i, rInt_b, rAbs_i, rList_t, rList_l, rLen_put, dIx_put, tyM_put, dIn_s, Bool.not_true, Bool.not_false, dIxA_r h1]
      refine setA_at (n := 1) h1 rfl (by simp) ?_
      have a1 : (S'.put p (.lst (List.set [.int s, .int c, .ref g, al] 1 (.int (c + 1))))) p = some (.lst [.int s, .int (c + 1), .ref g, al]) := Sto.put_same
      have a2 : (S'.put p (.lst (List.set [.int s, .int c, .ref g, al] 1 (.int (c + 1))))) g = some (.lst (cs.map D.int)) := by rw [Sto.put_ne h3]; exact h2
      have hb1 : Go p g S (S'.put p (.lst (List.set [.int s, .int c, .ref g, al] 1 (.int (c + 1))))) := hb.trans ⟨⟨s, c + 1, al, cs, a1, a2, h3, h4⟩, fun q o z _ e => (Sto.put_ne z).trans e⟩
      generalize S'.put p (.lst (List.set [.int s, .int c, .ref g, al] 1 (.int (c + 1)))) = S1 at a1 a2 hb1
      simp only [wRet, wSeq, wIfS, wSet, wVar, wC, wBin, wTest, wAnd, wOr, wNot, wAndV, wOrV, wNotV, wIf, wCall, wCons, wNil, wTup, wLst, wLstM, wCB, wUn, wChain, wSl, wPart, wNo, wAsg, wgTup, wgCons, wgNil, wName, wPar, wSetIx, wAug, wDrop, wNext, wNever, wBM, wLstR1, EK.of, startG, List.map_cons, List.map_nil, List.length_cons, List.length_nil, Nat.reduceAdd, Nat.reduceSub, List.replicate, List.cons_append, List.nil_append, List.getElem?_cons_zero, List.getElem?_cons_succ, List.set_cons_zero, List.set_cons_succ, Option.some.injEq, exists_eq_left', exists_eq_left, D.bl.injEq, D.int.injEq, D.tup.injEq, D.lst.injEq, D.str.injEq, exists_and_left, if_true, Bool.false_eq_true, if_false, true_and, and_true, Int.cast_ofNat_Int, Int.reduceLT, Int.reduceLE, Int.reduceEq, Int.reduceNeg, Int.reduceAdd, Int.reduceSub, decide_true, decide_false, decide_eq_true_eq, List.getElem?_nil, reduceCtorEq, false_and, exists_false, dI_i, dIC_i, dB_i, dNeg_i, dAdd_i, dAdd_s, dAdd_t, dAdd_l, dMul_i, dMul_l, dEq_i, dEq_s, dEq_b, dNe_i, dNe_s, dNe_b, dIsN_n, dIsN_i, dIsN_l, dIsN_t, dNotN_n, dNotN_i, dNotN_l, dNotN_t, dRev_t, dIx_t, dIx_l, atI_0, atI_1, atI_2, atI_3, atI_4, rLen_s, rLen_t, rLen_l, rLen_c, rInt_i, rInt_b, rAbs_i, rList_t, rList_l, rLen_put, dIx_put, tyM_put, dIn_s, Bool.not_true, Bool.not_false, dIxA_r a1, rLen_r a2, dIxA_r a2]
      refine ite2 (fun z => ?_) fun z => last _ _ _ hb1
      cases cs with
      | nil => simp at z
      | cons x cs =>
        simp only [wRet, wSeq, wIfS, wSet, wVar, wC, wBin, wTest, wAnd, wOr, wNot, wAndV, wOrV, wNotV, wIf, wCall, wCons, wNil, wTup, wLst, wLstM, wCB, wUn, wChain, wSl, wPart, wNo, wAsg, wgTup, wgCons, wgNil, wName, wPar, wSetIx, wAug, wDrop, wNext, wNever, wBM, wLstR1, EK.of, startG, List.map_cons, List.map_nil, List.length_cons, List.length_nil, Nat.reduceAdd, Nat.reduceSub, List.replicate, List.cons_append, List.nil_append, List.getElem?_cons_zero, List.getElem?_cons_succ, List.set_cons_zero, List.set_cons_succ, Option.some.injEq, exists_eq_left', exists_eq_left, D.bl.injEq, D.int.injEq, D.tup.injEq, D.lst.injEq, D.str.injEq, exists_and_left, if_true, Bool.false_eq_true, if_false, true_and, and_true, Int.cast_ofNat_Int, Int.reduceLT, Int.reduceLE, Int.reduceEq, Int.reduceNeg, Int.reduceAdd, Int.reduceSub, decide_true, decide_false, decide_eq_true_eq, List.getElem?_nil, reduceCtorEq, false_and, exists_false, dI_i, dIC_i, dB_i, dNeg_i, dAdd_i, dAdd_s, dAdd_t, dAdd_l, dMul_i, dMul_l, dEq_i, dEq_s, dEq_b, dNe_i, dNe_s, dNe_b, dIsN_n, dIsN_i, dIsN_l, dIsN_t, dNotN_n, dNotN_i, dNotN_l, dNotN_t, dRev_t, dIx_t, dIx_l, atI_0, atI_1, atI_2, atI_3, atI_4, rLen_s, rLen_t, rLen_l, rLen_c, rInt_i, rInt_b, rAbs_i, rList_t, rList_l, rLen_put, dIx_put, tyM_put, dIn_s, Bool.not_true, Bool.not_false]
        have a3 : S1 g = some (.lst (.int x :: cs.map D.int)) := a2
        refine ⟨by omega, (dIxA_r a3).mpr ?_⟩
        simp only [wRet, wSeq, wIfS, wSet, wVar, wC, wBin, wTest, wAnd, wOr, wNot, wAndV, wOrV, wNotV, wIf, wCall, wCons, wNil, wTup, wLst, wLstM, wCB, wUn, wChain, wSl, wPart, wNo, wAsg, wgTup, wgCons, wgNil, wName, wPar, wSetIx, wAug, wDrop, wNext, wNever, wBM, wLstR1, EK.of, startG, List.map_cons, List.map_nil, List.length_cons, List.length_nil, Nat.reduceAdd, Nat.reduceSub, List.replicate, List.cons_append, List.nil_append, List.getElem?_cons_zero, List.getElem?_cons_succ, List.set_cons_zero, List.set_cons_succ, Option.some.injEq, exists_eq_left', exists_eq_left, D.bl.injEq, D.int.injEq, D.tup.injEq, D.lst.injEq, D.str.injEq, exists_and_left, if_true, Bool.false_eq_true, if_false, true_and, and_true, Int.cast_ofNat_Int, Int.reduceLT, Int.reduceLE, Int.reduceEq, Int.reduceNeg, Int.reduceAdd, Int.reduceSub, decide_true, decide_false, decide_eq_true_eq, List.getElem?_nil, reduceCtorEq, false_and, exists_false, dI_i, dIC_i, dB_i, dNeg_i, dAdd_i, dAdd_s, dAdd_t, dAdd_l, dMul_i, dMul_l, dEq_i, dEq_s, dEq_b, dNe_i, dNe_s, dNe_b, dIsN_n, dIsN_i, dIsN_l, dIsN_t, dNotN_n, dNotN_i, dNotN_l, dNotN_t, dRev_t, dIx_t, dIx_l, atI_0, atI_1, atI_2, atI_3, atI_4, rLen_s, rLen_t, rLen_l, rLen_c, rInt_i, rInt_b, rAbs_i, rList_t, rList_l, rLen_put, dIx_put, tyM_put, dIn_s, Bool.not_true, Bool.not_false]
        refine ⟨divT hm hm2, setA_at (n := 0) a3 rfl (by simp) ?_⟩
        have a4 : (S1.put g (.lst (List.set (.int x :: cs.map D.int) 0 (.int (x.fdiv m))))) g = some (.lst (.int (x.fdiv m) :: cs.map D.int)) := Sto.put_same
        have a5 : (S1.put g (.lst (List.set (.int x :: cs.map D.int) 0 (.int (x.fdiv m))))) p = some (.lst [.int s, .int (c + 1), .ref g, al]) := by rw [Sto.put_ne (Ne.symm h3)]; exact a1
        have hb2 : Go p g S (S1.put g (.lst (List.set (.int x :: cs.map D.int) 0 (.int (x.fdiv m))))) := hb1.trans ⟨⟨s, c + 1, al, x.fdiv m :: cs, a5, a4, h3, h4⟩, fun q o _ z e => (Sto.put_ne z).trans e⟩
        generalize S1.put g (.lst (List.set (.int x :: cs.map D.int) 0 (.int (x.fdiv m)))) = S2 at a4 a5 hb2
        refine (dIxA_r a4).mpr ?_
        simp only [wRet, wSeq, wIfS, wSet, wVar, wC, wBin, wTest, wAnd, wOr, wNot, wAndV, wOrV, wNotV, wIf, wCall, wCons, wNil, wTup, wLst, wLstM, wCB, wUn, wChain, wSl, wPart, wNo, wAsg, wgTup, wgCons, wgNil, wName, wPar, wSetIx, wAug, wDrop, wNext, wNever, wBM, wLstR1, EK.of, startG, List.map_cons, List.map_nil, List.length_cons, List.length_nil, Nat.reduceAdd, Nat.reduceSub, List.replicate, List.cons_append, List.nil_append, List.getElem?_cons_zero, List.getElem?_cons_succ, List.set_cons_zero, List.set_cons_succ, Option.some.injEq, exists_eq_left', exists_eq_left, D.bl.injEq, D.int.injEq, D.tup.injEq, D.lst.injEq, D.str.injEq, exists_and_left, if_true, Bool.false_eq_true, if_false, true_and, and_true, Int.cast_ofNat_Int, Int.reduceLT, Int.reduceLE, Int.reduceEq, Int.reduceNeg, Int.reduceAdd, Int.reduceSub, decide_true, decide_false, decide_eq_true_eq, List.getElem?_nil, reduceCtorEq, false_and, exists_false, dI_i, dIC_i, dB_i, dNeg_i, dAdd_i, dAdd_s, dAdd_t, dAdd_l, dMul_i, dMul_l, dEq_i, dEq_s, dEq_b, dNe_i, dNe_s, dNe_b, dIsN_n, dIsN_i, dIsN_l, dIsN_t, dNotN_n, dNotN_i, dNotN_l, dNotN_t, dRev_t, dIx_t, dIx_l, atI_0, atI_1, atI_2, atI_3, atI_4, rLen_s, rLen_t, rLen_l, rLen_c, rInt_i, rInt_b, rAbs_i, rList_t, rList_l, rLen_put, dIx_put, tyM_put, dIn_s, Bool.not_true, Bool.not_false]
        refine ite2 (fun z => ⟨.inl ⟨_, a4, rfl⟩, g, _, 0, 0, _, rfl, rfl, a4, by decide, by decide, ?_, rfl, fin _ _ _ _ rfl (hb2.trans ⟨⟨s, c + 1, al, cs, ?_, Sto.put_same, h3, h4⟩, fun q o _ z e => (Sto.put_ne z).trans e⟩) (fm _ hm).1 (fm _ hm).2⟩) fun z => fin _ _ _ _ rfl hb2 (fm _ hm).1 (fm _ hm).2
        · simp [seqIndex?]
        · rw [Sto.put_ne (Ne.symm h3)]
          exact a5
    simp only [wb_law_pick, wRet, wSeq, wIfS, wSet, wVar, wC, wBin, wTest, wAnd, wOr, wNot, wAndV, wOrV, wNotV, wIf, wCall, wCons, wNil, wTup, wLst, wLstM, wCB, wUn, wChain, wSl, wPart, wNo, wAsg, wgTup, wgCons, wgNil, wName, wPar, wSetIx, wAug, wDrop, wNext, wNever, wBM, wLstR1, EK.of, startG, List.map_cons, List.map_nil, List.length_cons, List.length_nil, Nat.reduceAdd, Nat.reduceSub, List.replicate, List.cons_append, List.nil_append, List.getElem?_cons_zero, List.getElem?_cons_succ, List.set_cons_zero, List.set_cons_succ, Option.some.injEq, exists_eq_left', exists_eq_left, D.bl.injEq, D.int.injEq, D.tup.injEq, D.lst.injEq, D.str.injEq, exists_and_left, if_true, Bool.false_eq_true, if_false, true_and, and_true, Int.cast_ofNat_Int, Int.reduceLT, Int.reduceLE, Int.reduceEq, Int.reduceNeg, Int.reduceAdd, Int.reduceSub, decide_true, decide_false, decide_eq_true_eq, List.getElem?_nil, reduceCtorEq, false_and, exists_false, dI_i, dIC_i, dB_i, dNeg_i, dAdd_i, dAdd_s, dAdd_t, dAdd_l, dMul_i, dMul_l, dEq_i, dEq_s, dEq_b, dNe_i, dNe_s, dNe_b, dIsN_n, dIsN_i, dIsN_l, dIsN_t, dNotN_n, dNotN_i, dNotN_l, dNotN_t, dRev_t, dIx_t, dIx_l, atI_0, atI_1, atI_2, atI_3, atI_4, rLen_s, rLen_t, rLen_l, rLen_c, rInt_i, rInt_b, rAbs_i, rList_t, rList_l, rLen_put, dIx_put, tyM_put, dIn_s, Bool.not_true, Bool.not_false]
    obtain ⟨s, c, al, cs, h1, h2, h3, h4⟩ := id hh
    simp only [wRet, wSeq, wIfS, wSet, wVar, wC, wBin, wTest, wAnd, wOr, wNot, wAndV, wOrV, wNotV, wIf, wCall, wCons, wNil, wTup, wLst, wLstM, wCB, wUn, wChain, wSl, wPart, wNo, wAsg, wgTup, wgCons, wgNil, wName, wPar, wSetIx, wAug, wDrop, wNext, wNever, wBM, wLstR1, EK.of, startG, List.map_cons, List.map_nil, List.length_cons, List.length_nil, Nat.reduceAdd, Nat.reduceSub, List.replicate, List.cons_append, List.nil_append, List.getElem?_cons_zero, List.getElem?_cons_succ, List.set_cons_zero, List.set_cons_succ, Option.some.injEq, exists_eq_left', exists_eq_left, D.bl.injEq, D.int.injEq, D.tup.injEq, D.lst.injEq, D.str.injEq, exists_and_left, if_true, Bool.false_eq_true, if_false, true_and, and_true, Int.cast_ofNat_Int, Int.reduceLT, Int.reduceLE, Int.reduceEq, Int.reduceNeg, Int.reduceAdd, Int.reduceSub, decide_true, decide_false, decide_eq_true_eq, List.getElem?_nil, reduceCtorEq, false_and, exists_false, dI_i, dIC_i, dB_i, dNeg_i, dAdd_i, dAdd_s, dAdd_t, dAdd_l, dMul_i, dMul_l, dEq_i, dEq_s, dEq_b, dNe_i, dNe_s, dNe_b, dIsN_n, dIsN_i, dIsN_l, dIsN_t, dNotN_n, dNotN_i, dNotN_l, dNotN_t, dRev_t, dIx_t, dIx_l, atI_0, atI_1, atI_2, atI_3, atI_4, rLen_s, rLen_t, rLen_l, rLen_c, rInt_i, rInt_b, rAbs_i, rList_t, rList_l, rLen_put, dIx_put, tyM_put, dIn_s, Bool.not_true, Bool.not_false, dIxA_r h1]
    rcases h4 with rfl | ⟨a, rfl⟩
    · simp only [wRet, wSeq, wIfS, wSet, wVar, wC, wBin, wTest, wAnd, wOr, wNot, wAndV, wOrV, wNotV, wIf, wCall, wCons, wNil, wTup, wLst, wLstM, wCB, wUn, wChain, wSl, wPart, wNo, wAsg, wgTup, wgCons, wgNil, wName, wPar, wSetIx, wAug, wDrop, wNext, wNever, wBM, wLstR1, EK.of, startG, List.map_cons, List.map_nil, List.length_cons, List.length_nil, Nat.reduceAdd, Nat.reduceSub, List.replicate, List.cons_append, List.nil_append, List.getElem?_cons_zero, List.getElem?_cons_succ, List.set_cons_zero, List.set_cons_succ, Option.some.injEq, exists_eq_left', exists_eq_left, D.bl.injEq, D.int.injEq, D.tup.injEq, D.lst.injEq, D.str.injEq, exists_and_left, if_true, Bool.false_eq_true, if_false, true_and, and_true, Int.cast_ofNat_Int, Int.reduceLT, Int.reduceLE, Int.reduceEq, Int.reduceNeg, Int.reduceAdd, Int.reduceSub, decide_true, decide_false, decide_eq_true_eq, List.getElem?_nil, reduceCtorEq, false_and, exists_false, dI_i, dIC_i, dB_i, dNeg_i, dAdd_i, dAdd_s, dAdd_t, dAdd_l, dMul_i, dMul_l, dEq_i, dEq_s, dEq_b, dNe_i, dNe_s, dNe_b, dIsN_n, dIsN_i, dIsN_l, dIsN_t, dNotN_n, dNotN_i, dNotN_l, dNotN_t, dRev_t, dIx_t, dIx_l, atI_0, atI_1, atI_2, atI_3, atI_4, rLen_s, rLen_t, rLen_l, rLen_c, rInt_i, rInt_b, rAbs_i, rList_t, rList_l, rLen_put, dIx_put, tyM_put, dIn_s, Bool.not_true, Bool.not_false]
      exact mid _ (.refl hh)
    · simp only [wRet, wSeq, wIfS, wSet, wVar, wC, wBin, wTest, wAnd, wOr, wNot, wAndV, wOrV, wNotV, wIf, wCall, wCons, wNil, wTup, wLst, wLstM, wCB, wUn, wChain, wSl, wPart, wNo, wAsg, wgTup, wgCons, wgNil, wName, wPar, wSetIx, wAug, wDrop, wNext, wNever, wBM, wLstR1, EK.of, startG, List.map_cons, List.map_nil, List.length_cons, List.length_nil, Nat.reduceAdd, Nat.reduceSub, List.replicate, List.cons_append, List.nil_append, List.getElem?_cons_zero, List.getElem?_cons_succ, List.set_cons_zero, List.set_cons_succ, Option.some.injEq, exists_eq_left', exists_eq_left, D.bl.injEq, D.int.injEq, D.tup.injEq, D.lst.injEq, D.str.injEq, exists_and_left, if_true, Bool.false_eq_true, if_false, true_and, and_true, Int.cast_ofNat_Int, Int.reduceLT, Int.reduceLE, Int.reduceEq, Int.reduceNeg, Int.reduceAdd, Int.reduceSub, decide_true, decide_false, decide_eq_true_eq, List.getElem?_nil, reduceCtorEq, false_and, exists_false, dI_i, dIC_i, dB_i, dNeg_i, dAdd_i, dAdd_s, dAdd_t, dAdd_l, dMul_i, dMul_l, dEq_i, dEq_s, dEq_b, dNe_i, dNe_s, dNe_b, dIsN_n, dIsN_i, dIsN_l, dIsN_t, dNotN_n, dNotN_i, dNotN_l, dNotN_t, dRev_t, dIx_t, dIx_l, atI_0, atI_1, atI_2, atI_3, atI_4, rLen_s, rLen_t, rLen_l, rLen_c, rInt_i, rInt_b, rAbs_i, rList_t, rList_l, rLen_put, dIx_put, tyM_put, dIn_s, Bool.not_true, Bool.not_false, dIxA_r h1]
      refine ⟨by omega, end_id (hq _ (.refl hh) _ (fm _ hm).1 (fm _ hm).2)⟩
theorem ok_law_some (e : En w kl K mg) (t : Tx1 K mg "_law_some" st_law_some) (F : Fn1 P w K mg base 1 "_law_pick" ["_law_bag_here", "_law_many"] sp_law_pick) : Fn1 P w K mg base 2 "_law_some" ["_law_bag_here", "_law_things"] sp_law_some := by
  refine mk_law_some (k := 1) e t F (fun ds S Q E => ?_) (fun ds S Q E => ?_)
  · rintro ⟨p, g, xs, rfl, _⟩
    rfl
  · rintro ⟨p, g, xs, rfl, hh, hx, hl, hq⟩
    have : 0 < xs.length := List.length_pos_iff.mpr hx
    simp only [wb_law_some, wRet, wSeq, wIfS, wSet, wVar, wC, wBin, wTest, wAnd, wOr, wNot, wAndV, wOrV, wNotV, wIf, wCall, wCons, wNil, wTup, wLst, wLstM, wCB, wUn, wChain, wSl, wPart, wNo, wAsg, wgTup, wgCons, wgNil, wName, wPar, wSetIx, wAug, wDrop, wNext, wNever, wBM, wLstR1, EK.of, startG, List.map_cons, List.map_nil, List.length_cons, List.length_nil, Nat.reduceAdd, Nat.reduceSub, List.replicate, List.cons_append, List.nil_append, List.getElem?_cons_zero, List.getElem?_cons_succ, List.set_cons_zero, List.set_cons_succ, Option.some.injEq, exists_eq_left', exists_eq_left, D.bl.injEq, D.int.injEq, D.tup.injEq, D.lst.injEq, D.str.injEq, exists_and_left, if_true, Bool.false_eq_true, if_false, true_and, and_true, Int.cast_ofNat_Int, Int.reduceLT, Int.reduceLE, Int.reduceEq, Int.reduceNeg, Int.reduceAdd, Int.reduceSub, decide_true, decide_false, decide_eq_true_eq, List.getElem?_nil, reduceCtorEq, false_and, exists_false, dI_i, dIC_i, dB_i, dNeg_i, dAdd_i, dAdd_s, dAdd_t, dAdd_l, dMul_i, dMul_l, dEq_i, dEq_s, dEq_b, dNe_i, dNe_s, dNe_b, dIsN_n, dIsN_i, dIsN_l, dIsN_t, dNotN_n, dNotN_i, dNotN_l, dNotN_t, dRev_t, dIx_t, dIx_l, atI_0, atI_1, atI_2, atI_3, atI_4, rLen_s, rLen_t, rLen_l, rLen_c, rInt_i, rInt_b, rAbs_i, rList_t, rList_l, rLen_put, dIx_put, tyM_put, dIn_s, Bool.not_true, Bool.not_false]
    refine ⟨p, g, _, rfl, hh, by omega, Int.lt_trans (show ((xs.length : Nat) : Int) < 1000 by omega) (by decide), fun S' hh' n h0 h1 => ?_⟩
    refine dIxA_l.mpr ?_
    have hn : n.toNat < xs.length := by omega
    refine ⟨xs[n.toNat], ?_, end_id (hq S' hh' _ (List.getElem_mem hn))⟩
    rw [atI_pos h0, List.getElem?_eq_getElem hn]
end K01
end
/-! from K01h.lean -/
section
set_option exponentiation.threshold 10000
namespace K01
open PySem L2 PL LamX
variable [TabCtx]
variable {P : Program} {w : World} {kl : Str → Addr} {K : PySem.W.Frag} {mg : Str → Option Value} {base : Heap} {k : Nat}
/-! fractions -/
def sp_frac : PSp := fun ds S Q _ => ∃ a b : Int, ds = [.int a, .int b] ∧ 0 < b ∧ b < 10 ^ 40 ∧ ∀ g a' b' : Int, 0 < g → a = g * a' → b = g * b' → Int.gcd a' b' = 1 → Q (fr a' b') S
theorem ok_law_frac (e : En w kl K mg) (t : Tx1 K mg "_law_frac" st_law_frac) (F : Fn1 P w K mg base 1 "_law_common" ["_law_one", "_law_other"] sp_gcd) : Fn1 P w K mg base 2 "_law_frac" ["_law_top", "_law_bottom"] sp_frac := by
  refine mk_law_frac (k := 1) e t F (fun ds S Q E => ?_) (fun ds S Q E => ?_)
  · rintro ⟨a, b, rfl, _⟩
    rfl
  · rintro ⟨a, b, rfl, hb, hb2, hq⟩
    simp only [wb_law_frac, wRet, wSeq, wIfS, wSet, wVar, wC, wBin, wTest, wAnd, wOr, wNot, wAndV, wOrV, wNotV, wIf, wCall, wCons, wNil, wTup, wLst, wLstM, wCB, wUn, wChain, wSl, wPart, wNo, wAsg, wgTup, wgCons, wgNil, wName, wPar, wSetIx, wAug, wDrop, wNext, wNever, wBM, wLstR1, EK.of, startG, List.map_cons, List.map_nil, List.length_cons, List.length_nil, Nat.reduceAdd, Nat.reduceSub, List.replicate, List.cons_append, List.nil_append, List.getElem?_cons_zero, List.getElem?_cons_succ, List.set_cons_zero, List.set_cons_succ, Option.some.injEq, exists_eq_left', exists_eq_left, D.bl.injEq, D.int.injEq, D.tup.injEq, D.lst.injEq, D.str.injEq, exists_and_left, if_true, Bool.false_eq_true, if_false, true_and, and_true, Int.cast_ofNat_Int, Int.reduceLT, Int.reduceLE, Int.reduceEq, Int.reduceNeg, Int.reduceAdd, Int.reduceSub, decide_true, decide_false, decide_eq_true_eq, List.getElem?_nil, reduceCtorEq, false_and, exists_false, dI_i, dIC_i, dB_i, dNeg_i, dAdd_i, dAdd_s, dAdd_t, dAdd_l, dMul_i, dMul_l, dEq_i, dEq_s, dEq_b, dNe_i, dNe_s, dNe_b, dIsN_n, dIsN_i, dIsN_l, dIsN_t, dNotN_n, dNotN_i, dNotN_l, dNotN_t, dRev_t, dIx_t, dIx_l, atI_0, atI_1, atI_2, atI_3, atI_4, rLen_s, rLen_t, rLen_l, rLen_c, rInt_i, rInt_b, rAbs_i, rList_t, rList_l, rLen_put, dIx_put, tyM_put, dIn_s, Bool.not_true, Bool.not_false]
    have hg0 : 0 < Int.gcd a b := Int.gcd_pos_of_ne_zero_right _ (by omega)
    have hgb : ((Int.gcd a b : Nat) : Int) ≤ b := Int.le_of_dvd hb (Int.gcd_dvd_right ..)
    refine ite2 (fun h => absurd h (by omega)) fun h => ?_
    refine ⟨a, b, rfl, 1, _, rfl, ?_⟩
    rw [show (if ((Int.gcd a b : Nat) : Int) > 1 then ((Int.gcd a b : Nat) : Int) else 1) = ((Int.gcd a b : Nat) : Int) by split <;> omega]
    simp only [wRet, wSeq, wIfS, wSet, wVar, wC, wBin, wTest, wAnd, wOr, wNot, wAndV, wOrV, wNotV, wIf, wCall, wCons, wNil, wTup, wLst, wLstM, wCB, wUn, wChain, wSl, wPart, wNo, wAsg, wgTup, wgCons, wgNil, wName, wPar, wSetIx, wAug, wDrop, wNext, wNever, wBM, wLstR1, EK.of, startG, List.map_cons, List.map_nil, List.length_cons, List.length_nil, Nat.reduceAdd, Nat.reduceSub, List.replicate, List.cons_append, List.nil_append, List.getElem?_cons_zero, List.getElem?_cons_succ, List.set_cons_zero, List.set_cons_succ, Option.some.injEq, exists_eq_left', exists_eq_left, D.bl.injEq, D.int.injEq, D.tup.injEq, D.lst.injEq, D.str.injEq, exists_and_left, if_true, Bool.false_eq_true, if_false, true_and, and_true, Int.cast_ofNat_Int, Int.reduceLT, Int.reduceLE, Int.reduceEq, Int.reduceNeg, Int.reduceAdd, Int.reduceSub, decide_true, decide_false, decide_eq_true_eq, List.getElem?_nil, reduceCtorEq, false_and, exists_false, dI_i, dIC_i, dB_i, dNeg_i, dAdd_i, dAdd_s, dAdd_t, dAdd_l, dMul_i, dMul_l, dEq_i, dEq_s, dEq_b, dNe_i, dNe_s, dNe_b, dIsN_n, dIsN_i, dIsN_l, dIsN_t, dNotN_n, dNotN_i, dNotN_l, dNotN_t, dRev_t, dIx_t, dIx_l, atI_0, atI_1, atI_2, atI_3, atI_4, rLen_s, rLen_t, rLen_l, rLen_c, rInt_i, rInt_b, rAbs_i, rList_t, rList_l, rLen_put, dIx_put, tyM_put, dIn_s, Bool.not_true, Bool.not_false]
    have ok : CDivA a ((Int.gcd a b : Nat) : Int) := divT (by omega) (by omega)
    have ok2 : CDivA b ((Int.gcd a b : Nat) : Int) := divT (by omega) (by omega)
    obtain ⟨a', ha⟩ := Int.gcd_dvd_left (a := a) (b := b)
    obtain ⟨b', hb'⟩ := Int.gcd_dvd_right (a := a) (b := b)
    have e1 : a.fdiv ((Int.gcd a b : Nat) : Int) = a' := by
      rw [Int.fdiv_eq_ediv_of_nonneg _ (by omega)]
      exact Int.ediv_eq_of_eq_mul_right (by omega) ha
    have e2 : b.fdiv ((Int.gcd a b : Nat) : Int) = b' := by
      rw [Int.fdiv_eq_ediv_of_nonneg _ (by omega)]
      exact Int.ediv_eq_of_eq_mul_right (by omega) hb'
    rw [e1, e2]
    refine ⟨ok, ok2, by decide, ?_⟩
    refine end_id (hq _ a' b' (by omega) ha hb' ?_)
    have h1 : Int.gcd a b = Int.gcd (((Int.gcd a b : Nat) : Int) * a') (((Int.gcd a b : Nat) : Int) * b') := by rw [← ha, ← hb']
    rw [Int.gcd_mul_left, Int.natAbs_natCast] at h1
    exact Nat.eq_of_mul_eq_mul_left hg0 (by omega)
/-! keys (q, k) -/
structure KOk (t : K3) : Prop where
  m1 : 0 < t.2.1
  m4 : t.2.1 ≤ 4
  lo : -4 * t.2.1 ≤ t.1
  hi : t.1 ≤ 4 * t.2.1
  g : Int.gcd t.1 t.2.1 = 1
  k0 : 0 ≤ t.2.2
  k3 : t.2.2 ≤ 3
def ltK (a b : K3) : Prop := if a.1 = b.1 ∧ a.2.1 = b.2.1 then a.2.2 < b.2.2 else a.1 * b.2.1 < b.1 * a.2.1
theorem cop_dvd {a b d : Int} (g : Int.gcd a b = 1) (h : b ∣ a * d) : b ∣ d := by
  have h1 := Int.natAbs_dvd_natAbs.mpr h
  rw [Int.natAbs_mul] at h1
  have : Nat.Coprime b.natAbs a.natAbs := by rw [Nat.coprime_comm]; exact g
  exact Int.natAbs_dvd_natAbs.mp (this.dvd_of_dvd_mul_left h1)
theorem frac_eq {a b c d : Int} (hb : 0 < b) (hd : 0 < d) (g1 : Int.gcd a b = 1) (g2 : Int.gcd c d = 1) (h : a * d = c * b) : a = c ∧ b = d := by
  have e1 : b ∣ d := by
    have : b ∣ a * d := ⟨c, by rw [h, Int.mul_comm]⟩
    exact cop_dvd g1 this
  have e2 : d ∣ b := by
    have : d ∣ c * b := ⟨a, by rw [← h, Int.mul_comm]⟩
    exact cop_dvd g2 this
  have e3 := Int.le_of_dvd hd e1
  have e4 := Int.le_of_dvd hb e2
  have : b = d := by omega
  subst this
  exact ⟨Int.eq_of_mul_eq_mul_right (by omega) h, rfl⟩
theorem leL_trans (z : Int) (a b c : K3) (h1 : leL z a b = true) (h2 : leL z b c = true) : leL z a c = true := by
  unfold leL at *
  simp only [decide_eq_true_eq] at *
  omega
theorem leL_total (z : Int) (a b : K3) : (leL z a b || leL z b a) = true := by
  unfold leL
  simp only [Bool.or_eq_true, decide_eq_true_eq]
  omega
theorem mul_fdiv {z m : Int} (hm : 0 < m) (h : m ∣ z) : z.fdiv m * m = z := by
  rw [Int.fdiv_eq_ediv_of_nonneg _ (by omega)]
  exact Int.ediv_mul_cancel h
theorem ltK_of {z : Int} (hz : 0 < z) {a b : K3} (ha : KOk a) (hb : KOk b) (da : a.2.1 ∣ z) (db : b.2.1 ∣ z) (h : leL z a b = true) (hn : a ≠ b) : ltK a b := by
  unfold leL at h
  rw [decide_eq_true_eq] at h
  have e1 := mul_fdiv ha.m1 da
  have e2 := mul_fdiv hb.m1 db
  have m1 : a.1 * z.fdiv a.2.1 * (a.2.1 * b.2.1) = z * (a.1 * b.2.1) := by rw [← e1]; simp only [e1]; rw [show a.1 * z.fdiv a.2.1 * (a.2.1 * b.2.1) = (z.fdiv a.2.1 * a.2.1) * (a.1 * b.2.1) by grind, e1]
  have m2 : b.1 * z.fdiv b.2.1 * (a.2.1 * b.2.1) = z * (b.1 * a.2.1) := by rw [show b.1 * z.fdiv b.2.1 * (a.2.1 * b.2.1) = (z.fdiv b.2.1 * b.2.1) * (b.1 * a.2.1) by grind, e2]
  have pm : 0 < a.2.1 * b.2.1 := Int.mul_pos ha.m1 hb.m1
  unfold ltK
  rcases h with h | ⟨h, hk⟩
  · have h3 : z * (a.1 * b.2.1) < z * (b.1 * a.2.1) := by
      rw [← m1, ← m2]
      exact Int.mul_lt_mul_of_pos_right h pm
    have h4 := Int.lt_of_mul_lt_mul_left h3 (by omega)
    rw [if_neg]
    · exact h4
    · rintro ⟨x, y⟩
      rw [x, y] at h4
      omega
  · have h3 : z * (a.1 * b.2.1) = z * (b.1 * a.2.1) := by rw [← m1, ← m2, h]
    have h4 := Int.eq_of_mul_eq_mul_left (by omega) h3
    have h5 := frac_eq ha.m1 hb.m1 ha.g hb.g h4
    rw [if_pos h5]
    have : a.2.2 ≠ b.2.2 := fun z => hn (by
      obtain ⟨x, y, u⟩ := a
      obtain ⟨x', y', u'⟩ := b
      obtain ⟨h1, h2⟩ := h5
      dsimp only at *
      rw [h1, h2, z])
    omega
def lcB (z : Int) : Prop := z = 1 ∨ z = 2 ∨ z = 3 ∨ z = 4 ∨ z = 6 ∨ z = 12
theorem lc_step {z m : Int} (hz : lcB z) (h1 : 0 < m) (h2 : m ≤ 4) : lcB ((z * m).fdiv ((Int.gcd z m : Nat) : Int)) ∧ z ∣ (z * m).fdiv ((Int.gcd z m : Nat) : Int) ∧ m ∣ (z * m).fdiv ((Int.gcd z m : Nat) : Int) := by
  have hm : m = 1 ∨ m = 2 ∨ m = 3 ∨ m = 4 := by omega
  rcases hz with rfl | rfl | rfl | rfl | rfl | rfl <;> rcases hm with rfl | rfl | rfl | rfl <;> (unfold lcB; decide)
theorem lcB_pos {z : Int} (h : lcB z) : 0 < z ∧ z ≤ 12 := by unfold lcB at h; omega
def sp_ordered : PSp := fun ds S Q _ => ∃ ks : List K3, ds = [.lst (ks.map kD3)] ∧ (∀ t ∈ ks, KOk t) ∧ ks.Nodup ∧ ks.length ≤ 1000 ∧ ∀ ks' : List K3, ks'.Perm ks → ks'.Pairwise ltK → Q (.lst (ks'.map kD3)) S
theorem ok_law_ordered (e : En w kl K mg) {c Pt : Addr} (TB : LamX.TabB base mg c Pt) (hT : (Pt, fun _ _ => ("_law_ordered.<locals>.<lambda>" : Str)) ∈ TabCtx.T) (hTu : ∀ p ∈ TabCtx.T, p.1 = Pt → p.2 = fun _ _ => ("_law_ordered.<locals>.<lambda>" : Str)) (F : Fn1 P w K mg base 1 "_law_common" ["_law_one", "_law_other"] sp_gcd) (t : TxC K mg "_law_ordered" st_law_ordered c) : Fn1 P w K mg base 2 "_law_ordered" ["_law_keys"] sp_ordered := by
  refine mk_law_ordered (k := 1) e TB hT hTu F t (fun ds S Q E => ?_) (fun ds S Q E => ?_)
  · rintro ⟨ks, rfl, _⟩
    rfl
  · rintro ⟨ks, rfl, hk, hn, hl, hq⟩
    simp only [wb_law_ordered, wFor, wiL, wRet, wSeq, wIfS, wSet, wVar, wC, wBin, wTest, wAnd, wOr, wNot, wAndV, wOrV, wNotV, wIf, wCall, wCons, wNil, wTup, wLst, wLstM, wCB, wUn, wChain, wSl, wPart, wNo, wAsg, wgTup, wgCons, wgNil, wName, wPar, wSetIx, wAug, wDrop, wNext, wNever, wBM, wLstR1, EK.of, startG, List.map_cons, List.map_nil, List.length_cons, List.length_nil, Nat.reduceAdd, Nat.reduceSub, List.replicate, List.cons_append, List.nil_append, List.getElem?_cons_zero, List.getElem?_cons_succ, List.set_cons_zero, List.set_cons_succ, Option.some.injEq, exists_eq_left', exists_eq_left, D.bl.injEq, D.int.injEq, D.tup.injEq, D.lst.injEq, D.str.injEq, exists_and_left, if_true, Bool.false_eq_true, if_false, true_and, and_true, Int.cast_ofNat_Int, Int.reduceLT, Int.reduceLE, Int.reduceEq, Int.reduceNeg, Int.reduceAdd, Int.reduceSub, decide_true, decide_false, decide_eq_true_eq, List.getElem?_nil, reduceCtorEq, false_and, exists_false, dI_i, dIC_i, dB_i, dNeg_i, dAdd_i, dAdd_s, dAdd_t, dAdd_l, dMul_i, dMul_l, dEq_i, dEq_s, dEq_b, dNe_i, dNe_s, dNe_b, dIsN_n, dIsN_i, dIsN_l, dIsN_t, dNotN_n, dNotN_i, dNotN_l, dNotN_t, dRev_t, dIx_t, dIx_l, atI_0, atI_1, atI_2, atI_3, atI_4, rLen_s, rLen_t, rLen_l, rLen_c, rInt_i, rInt_b, rAbs_i, rList_t, rList_l, rLen_put, dIx_put, tyM_put, dIn_s, Bool.not_true, Bool.not_false]
    refine ⟨rfl, _, rfl, fun i Γ S1 => S1 = S ∧ ∃ z : Int, lcB z ∧ (∃ x2 x3, Γ = [some (.lst (ks.map kD3)), some (.int z), x2, x3]) ∧ ∀ j < i, ∀ t, ks[j]? = some t → t.2.1 ∣ z, ⟨rfl, 1, .inl rfl, ⟨_, _, rfl⟩, fun j h => absurd h (by omega)⟩, fun _ _ _ _ _ => rfl, ?_, ?_⟩
    · rintro i y Γ S1 hy ⟨rfl, z, hz, ⟨x2, x3, rfl⟩, hd⟩
      rw [List.getElem?_map] at hy
      obtain ⟨t, ht, rfl⟩ := Option.map_eq_some_iff.mp hy
      have kt := hk t (List.mem_of_getElem? ht)
      obtain ⟨s1, s2, s3⟩ := lc_step hz kt.m1 kt.m4
      obtain ⟨zp, zl⟩ := lcB_pos hz
      have hg0 : 0 < Int.gcd z t.2.1 := Int.gcd_pos_of_ne_zero_left _ (by omega)
      have hgz : ((Int.gcd z t.2.1 : Nat) : Int) ≤ z := Int.le_of_dvd zp (Int.gcd_dvd_left ..)
      have kd : kD3 t = .tup [.tup [.int t.1, .int t.2.1], .int t.2.2] := rfl
      rw [kd]
      simp only [wRet, wSeq, wIfS, wSet, wVar, wC, wBin, wTest, wAnd, wOr, wNot, wAndV, wOrV, wNotV, wIf, wCall, wCons, wNil, wTup, wLst, wLstM, wCB, wUn, wChain, wSl, wPart, wNo, wAsg, wgTup, wgCons, wgNil, wName, wPar, wSetIx, wAug, wDrop, wNext, wNever, wBM, wLstR1, EK.of, startG, List.map_cons, List.map_nil, List.length_cons, List.length_nil, Nat.reduceAdd, Nat.reduceSub, List.replicate, List.cons_append, List.nil_append, List.getElem?_cons_zero, List.getElem?_cons_succ, List.set_cons_zero, List.set_cons_succ, Option.some.injEq, exists_eq_left', exists_eq_left, D.bl.injEq, D.int.injEq, D.tup.injEq, D.lst.injEq, D.str.injEq, exists_and_left, if_true, Bool.false_eq_true, if_false, true_and, and_true, Int.cast_ofNat_Int, Int.reduceLT, Int.reduceLE, Int.reduceEq, Int.reduceNeg, Int.reduceAdd, Int.reduceSub, decide_true, decide_false, decide_eq_true_eq, List.getElem?_nil, reduceCtorEq, false_and, exists_false, dI_i, dIC_i, dB_i, dNeg_i, dAdd_i, dAdd_s, dAdd_t, dAdd_l, dMul_i, dMul_l, dEq_i, dEq_s, dEq_b, dNe_i, dNe_s, dNe_b, dIsN_n, dIsN_i, dIsN_l, dIsN_t, dNotN_n, dNotN_i, dNotN_l, dNotN_t, dRev_t, dIx_t, dIx_l, atI_0, atI_1, atI_2, atI_3, atI_4, rLen_s, rLen_t, rLen_l, rLen_c, rInt_i, rInt_b, rAbs_i, rList_t, rList_l, rLen_put, dIx_put, tyM_put, dIn_s, Bool.not_true, Bool.not_false, dIxA_t]
      refine ⟨_, _, rfl, _, _, rfl, rfl, dIxA_t.mpr ⟨_, atI_1, ?_⟩⟩
      refine dMul_i.mpr ⟨mulOk_l (by omega) (by omega), dIxA_t.mpr ⟨_, atI_1, z, t.2.1, rfl, dDiv_i.mpr ⟨divOk (by omega) (by omega), ?_⟩⟩⟩
      refine ⟨rfl, _, s1, ⟨_, _, rfl⟩, fun j hj u hu => ?_⟩
      by_cases h : j = i
      · subst h
        rw [ht] at hu
        cases hu
        exact s3
      · exact Int.dvd_trans (hd j (by omega) u hu) s2
    · rintro Γ S1 ⟨rfl, z, hz, ⟨x2, x3, rfl⟩, hd⟩
      rw [List.length_map] at hd
      obtain ⟨zp, zl⟩ := lcB_pos hz
      have dv : ∀ t ∈ ks, t.2.1 ∣ z := fun t ht => by
        obtain ⟨j, hj, e⟩ := List.getElem_of_mem ht
        exact hd j hj t (by rw [List.getElem?_eq_getElem hj, e])
      simp only [wSortL, wRet, wSeq, wIfS, wSet, wVar, wC, wBin, wTest, wAnd, wOr, wNot, wAndV, wOrV, wNotV, wIf, wCall, wCons, wNil, wTup, wLst, wLstM, wCB, wUn, wChain, wSl, wPart, wNo, wAsg, wgTup, wgCons, wgNil, wName, wPar, wSetIx, wAug, wDrop, wNext, wNever, wBM, wLstR1, EK.of, startG, List.map_cons, List.map_nil, List.length_cons, List.length_nil, Nat.reduceAdd, Nat.reduceSub, List.replicate, List.cons_append, List.nil_append, List.getElem?_cons_zero, List.getElem?_cons_succ, List.set_cons_zero, List.set_cons_succ, Option.some.injEq, exists_eq_left', exists_eq_left, D.bl.injEq, D.int.injEq, D.tup.injEq, D.lst.injEq, D.str.injEq, exists_and_left, if_true, Bool.false_eq_true, if_false, true_and, and_true, Int.cast_ofNat_Int, Int.reduceLT, Int.reduceLE, Int.reduceEq, Int.reduceNeg, Int.reduceAdd, Int.reduceSub, decide_true, decide_false, decide_eq_true_eq, List.getElem?_nil, reduceCtorEq, false_and, exists_false, dI_i, dIC_i, dB_i, dNeg_i, dAdd_i, dAdd_s, dAdd_t, dAdd_l, dMul_i, dMul_l, dEq_i, dEq_s, dEq_b, dNe_i, dNe_s, dNe_b, dIsN_n, dIsN_i, dIsN_l, dIsN_t, dNotN_n, dNotN_i, dNotN_l, dNotN_t, dRev_t, dIx_t, dIx_l, atI_0, atI_1, atI_2, atI_3, atI_4, rLen_s, rLen_t, rLen_l, rLen_c, rInt_i, rInt_b, rAbs_i, rList_t, rList_l, rLen_put, dIx_put, tyM_put, dIn_s, Bool.not_true, Bool.not_false]
      refine ⟨rfl, ks, rfl, Nat.le_trans hl (by decide), fun t ht => ?_, ?_⟩
      · have kt := hk t ht
        have := kt.m1
        have := kt.m4
        have := kt.lo
        have := kt.hi
        exact ⟨divOk (by omega) (by omega), mulOk_l (by omega) (by omega)⟩
      · have pm := List.mergeSort_perm ks (leL z)
        refine end_id (hq _ pm ?_)
        have p1 : (ks.mergeSort (leL z)).Pairwise fun a b => leL z a b = true := List.pairwise_mergeSort (leL_trans z) (leL_total z) ks
        have p2 : (ks.mergeSort (leL z)).Pairwise (· ≠ ·) := pm.nodup_iff.mpr hn
        refine List.Pairwise.imp_of_mem ?_ (List.pairwise_and_iff.mpr ⟨p1, p2⟩)
        rintro a b ha hb ⟨h1, h2⟩
        have ha' := pm.mem_iff.mp ha
        have hb' := pm.mem_iff.mp hb
        exact ltK_of zp (hk a ha') (hk b hb') (dv a ha') (dv b hb') h1 h2
/-! tables -/
def kN (t : K3) : NestedKey := .tup [.tup [.num t.1, .num t.2.1], .num t.2.2]
theorem keyD_k (t : K3) : keyD (kN t) = kD3 t := by simp only [kN, keyD, keyDL, kD3]
theorem kN_inj {p q : K3} (h : kN p = kN q) : p = q := by
  obtain ⟨a, b, c⟩ := p
  obtain ⟨a', b', c'⟩ := q
  simp only [kN, NestedKey.tup.injEq, List.cons.injEq, NestedKey.num.injEq, and_true] at h
  obtain ⟨⟨h1, h2⟩, h3⟩ := h
  rw [h1, h2, h3]
theorem isKey_k (t : K3) : IsKey (kD3 t) (kN t) := ⟨(keyD_k t).symm, ⟨_, rfl⟩, by simp [kN, NestedKey.depth, NestedKey.depthAll]⟩
abbrev Tab := List (K3 × (Int × Int))
def kv (T : Tab) : List (NestedKey × D) := T.map fun e => (kN e.1, fr e.2.1 e.2.2)
def lookT (T : Tab) (t : K3) : Option (Int × Int) := (T.find? fun e => decide (e.1 = t)).map (·.2)
def putT (T : Tab) (t : K3) (c : Int × Int) : Tab := if (lookT T t).isSome then T.map (fun e => if e.1 = t then (e.1, c) else e) else T ++ [(t, c)]
theorem lookN_kv (T : Tab) (p : K3) : lookN (kv T) (kN p) = (lookT T p).map fun c => fr c.1 c.2 := by
  unfold lookN lookT kv
  rw [List.find?_map, Option.map_map, Option.map_map]
  have : ((fun e : NestedKey × D => decide (e.1 = kN p)) ∘ fun e : K3 × (Int × Int) => (kN e.1, fr e.2.1 e.2.2)) = fun e => decide (e.1 = p) := by
    funext e
    simp only [Function.comp]
    exact decide_eq_decide.mpr ⟨fun h => kN_inj h, fun h => by rw [h]⟩
  rw [this]
  rfl
theorem setN_kv (T : Tab) (p : K3) (c : Int × Int) : setN (kv T) (kN p) (fr c.1 c.2) = kv (putT T p c) := by
  unfold setN putT
  rw [lookN_kv, Option.isSome_map]
  by_cases h : (lookT T p).isSome = true
  · rw [if_pos h, if_pos h]
    unfold kv
    rw [List.map_map, List.map_map]
    refine List.map_congr_left fun e _ => ?_
    simp only [Function.comp]
    by_cases he : e.1 = p
    · rw [if_pos he, if_pos (by rw [he])]
    · rw [if_neg he, if_neg (fun z => he (kN_inj z))]
  · rw [if_neg h, if_neg h]
    unfold kv
    rw [List.map_append]
    rfl
structure COk (c : Int × Int) : Prop where
  nz : c.1 ≠ 0
  pos : 0 < c.2
  g : Int.gcd c.1 c.2 = 1
  b1 : c.1.natAbs < 10 ^ 40
  b2 : c.2.natAbs < 10 ^ 40
structure TOk (T : Tab) (n : Nat) : Prop where
  nd : (T.map (·.1)).Nodup
  ok : ∀ e ∈ T, KOk e.1 ∧ COk e.2
  len : T.length ≤ n
theorem lookT_none {T : Tab} {t : K3} (h : (lookT T t).isSome = false) : t ∉ T.map (·.1) := by
  intro hm
  obtain ⟨e, he, rfl⟩ := List.mem_map.mp hm
  unfold lookT at h
  rw [Option.isSome_map] at h
  cases hf : T.find? fun x => decide (x.1 = e.1) with
  | none =>
    have h2 := List.find?_eq_none.mp hf e he
    simp at h2
  | some x =>
    rw [hf] at h
    cases h
theorem putT_ok {T : Tab} {n : Nat} {t : K3} {c : Int × Int} (h : TOk T n) (ht : KOk t) (hc : COk c) : TOk (putT T t c) (n + 1) := by
  unfold putT
  split
  · have e : (T.map (fun e => if e.1 = t then (e.1, c) else e)).map (·.1) = T.map (·.1) := by
      rw [List.map_map]
      refine List.map_congr_left fun e _ => ?_
      simp only [Function.comp]
      split <;> rfl
    refine ⟨by rw [e]; exact h.nd, fun e he => ?_, by rw [List.length_map]; have := h.len; omega⟩
    obtain ⟨u, hu, rfl⟩ := List.mem_map.mp he
    have := h.ok u hu
    by_cases z : u.1 = t
    · rw [if_pos z]
      exact ⟨this.1, hc⟩
    · rw [if_neg z]
      exact this
  · rename_i z
    have z' := lookT_none (Bool.eq_false_iff.mpr z)
    refine ⟨?_, fun e he => ?_, by rw [List.length_append]; have := h.len; simp; omega⟩
    · rw [List.map_append, List.nodup_append]
      refine ⟨h.nd, by simp, fun a ha b hb => ?_⟩
      simp at hb
      rw [hb]
      exact fun z => z' (z ▸ ha)
    · rcases List.mem_append.mp he with he | he
      · exact h.ok e he
      · simp at he
        rw [he]
        exact ⟨ht, hc⟩
theorem lookT_mem {T : Tab} {t : K3} (h : t ∈ T.map (·.1)) : ∃ c, lookT T t = some c ∧ (t, c) ∈ T := by
  cases hf : T.find? fun e => decide (e.1 = t) with
  | none =>
    obtain ⟨e, he, rfl⟩ := List.mem_map.mp h
    have h2 := List.find?_eq_none.mp hf e he
    simp at h2
  | some e =>
    have h1 := List.find?_some hf
    have h2 := List.mem_of_find?_eq_some hf
    simp at h1
    refine ⟨e.2, by unfold lookT; rw [hf]; rfl, ?_⟩
    rw [← h1]
    exact h2
/-- right terms of a curve -/
structure CrvOk (n : Nat) (ds : List D) : Prop where
  len : ds.length ≤ n
  tm : ∀ d ∈ ds, tmB d = true ∧ Th 3 2 d
  ah : ds.Pairwise fun a b => ahB a b = true
def trD (T : Tab) (t : K3) : D := match lookT T t with
  | some c => .tup [fr c.1 c.2, .int t.2.2, fr t.1 t.2.1]
  | none => .non
theorem th_fr {a b : Int} (h1 : a.natAbs < 10 ^ 40) (h2 : b.natAbs < 10 ^ 40) : Th 3 1 (fr a b) := .tup (fun d hd => by
  simp at hd
  rcases hd with rfl | rfl
  · exact .int _ h1
  · exact .int _ h2) (by simp)
theorem tr_ok {t : K3} {c : Int × Int} (h1 : KOk t) (h2 : COk c) : tmB (.tup [fr c.1 c.2, .int t.2.2, fr t.1 t.2.1]) = true ∧ Th 3 2 (.tup [fr c.1 c.2, .int t.2.2, fr t.1 t.2.1]) := by
  have := h1.m1
  have := h1.m4
  have := h1.lo
  have := h1.hi
  have := h1.k0
  have := h1.k3
  have e40 : (18 : Nat) < 10 ^ 40 := by decide
  constructor
  · rw [tm3]
    have f1 : frB (fr c.1 c.2) = true := by show (decide (0 < c.2) && decide (Int.gcd c.1 c.2 = 1)) = true; rw [decide_eq_true h2.pos, decide_eq_true h2.g]; rfl
    have f2 : nzB (fr c.1 c.2) = true := decide_eq_true h2.nz
    have f3 : wiB 0 3 (.int t.2.2) = true := by show (decide (0 ≤ t.2.2) && decide (t.2.2 ≤ 3)) = true; rw [decide_eq_true h1.k0, decide_eq_true h1.k3]; rfl
    have f4 : frB (fr t.1 t.2.1) = true := by show (decide (0 < t.2.1) && decide (Int.gcd t.1 t.2.1 = 1)) = true; rw [decide_eq_true h1.m1, decide_eq_true h1.g]; rfl
    have f5 : ftB (fr t.1 t.2.1) = true := by show (decide (-4 * t.2.1 ≤ t.1) && decide (t.1 ≤ 4 * t.2.1)) = true; rw [decide_eq_true h1.lo, decide_eq_true h1.hi]; rfl
    have f6 : dnB (fr t.1 t.2.1) = true := decide_eq_true h1.m4
    rw [f1, f2, f3, f4, f5, f6]
    rfl
  · refine .tup (fun d hd => ?_) (by simp)
    simp only [List.mem_cons, List.not_mem_nil, or_false] at hd
    rcases hd with rfl | rfl | rfl
    · exact th_fr h2.b1 h2.b2
    · exact .int _ (Nat.lt_of_le_of_lt (show t.2.2.natAbs ≤ 18 by omega) e40)
    · exact th_fr (Nat.lt_of_le_of_lt (show t.1.natAbs ≤ 18 by omega) e40) (Nat.lt_of_le_of_lt (show t.2.1.natAbs ≤ 18 by omega) e40)
theorem crv_of {T : Tab} {n : Nat} (h : TOk T n) {ks : List K3} (hp : ks.Perm (T.map (·.1))) (hs : ks.Pairwise ltK) : CrvOk n (ks.map (trD T)) := by
  have get : ∀ t ∈ ks, ∃ c, trD T t = .tup [fr c.1 c.2, .int t.2.2, fr t.1 t.2.1] ∧ KOk t ∧ COk c := fun t ht => by
    obtain ⟨c, h1, h2⟩ := lookT_mem (hp.mem_iff.mp ht)
    have h3 := h.ok _ h2
    exact ⟨c, by unfold trD; rw [h1], h3.1, h3.2⟩
  refine ⟨?_, fun d hd => ?_, ?_⟩
  · rw [List.length_map, hp.length_eq, List.length_map]
    exact h.len
  · obtain ⟨t, ht, rfl⟩ := List.mem_map.mp hd
    obtain ⟨c, e, h1, h2⟩ := get t ht
    rw [e]
    exact tr_ok h1 h2
  · rw [List.pairwise_map]
    refine List.Pairwise.imp_of_mem ?_ hs
    intro a b ha hb hab
    obtain ⟨c, e, _, _⟩ := get a ha
    obtain ⟨c', e', _, _⟩ := get b hb
    rw [e, e']
    show (if a.1 = b.1 ∧ a.2.1 = b.2.1 then decide (a.2.2 < b.2.2) else decide (a.1 * b.2.1 < b.1 * a.2.1)) = true
    unfold ltK at hab
    by_cases z : a.1 = b.1 ∧ a.2.1 = b.2.1
    · rw [if_pos z] at hab ⊢
      exact decide_eq_true hab
    · rw [if_neg z] at hab ⊢
      exact decide_eq_true hab
def sp_terms (w : World) : PSp := fun ds S Q _ => ∃ (p ep : Nat) (T : Tab) (n : Nat), ds = [.ref p] ∧ S p = some (.dcn w (kv T) ep) ∧ TOk T n ∧ n ≤ 1000 ∧ ∀ ds, CrvOk n ds → Q (.tup ds) S
theorem ok_law_terms (e : En w kl K mg) (t : Tx1 K mg "_law_terms" st_law_terms) (F : Fn1 P w K mg base 2 "_law_ordered" ["_law_keys"] sp_ordered) : Fn1 P w K mg base 3 "_law_terms" ["_law_parts"] (sp_terms w) := by
  refine mk_law_terms (k := 2) e t F (fun ds S Q E => ?_) (fun ds S Q E => ?_)
  · rintro ⟨p, ep, T, n, rfl, _⟩
    rfl
  · rintro ⟨p, ep, T, n, rfl, hS, hT, hn, hq⟩
    have dn : DctN w S (.ref p) (kv T) := .inr ⟨p, ep, rfl, hS⟩
    have lz : T.length ≤ sizeLine := Nat.le_trans hT.len (Nat.le_trans hn (by decide))
    have ixs : ∀ (e : K3 × (Int × Int)) (c : Int × Int), lookT T e.1 = some c → ∀ Q : QK, Q (fr c.1 c.2) S → dIxA w (.ref p) (kD3 e.1) S Q := fun e c h Q hQ =>
      dIxA_n dn (isKey_k e.1) (by rw [lookN_kv, h]; rfl) hQ
    simp only [wb_law_terms, wLc, wLcB, wiN, wiL, wLc, wLcM, wLcB, wiS, wiT, wiL, wiR1, wiR2, wipeG, wRet, wSeq, wIfS, wSet, wVar, wC, wBin, wTest, wAnd, wOr, wNot, wAndV, wOrV, wNotV, wIf, wCall, wCons, wNil, wTup, wLst, wLstM, wCB, wUn, wChain, wSl, wPart, wNo, wAsg, wgTup, wgCons, wgNil, wName, wPar, wSetIx, wAug, wDrop, wNext, wNever, wBM, wLstR1, EK.of, startG, List.map_cons, List.map_nil, List.length_cons, List.length_nil, Nat.reduceAdd, Nat.reduceSub, List.replicate, List.cons_append, List.nil_append, List.getElem?_cons_zero, List.getElem?_cons_succ, List.set_cons_zero, List.set_cons_succ, Option.some.injEq, exists_eq_left', exists_eq_left, D.bl.injEq, D.int.injEq, D.tup.injEq, D.lst.injEq, D.str.injEq, exists_and_left, if_true, Bool.false_eq_true, if_false, true_and, and_true, Int.cast_ofNat_Int, Int.reduceLT, Int.reduceLE, Int.reduceEq, Int.reduceNeg, Int.reduceAdd, Int.reduceSub, decide_true, decide_false, decide_eq_true_eq, List.getElem?_nil, reduceCtorEq, false_and, exists_false, dI_i, dIC_i, dB_i, dNeg_i, dAdd_i, dAdd_s, dAdd_t, dAdd_l, dMul_i, dMul_l, dEq_i, dEq_s, dEq_b, dNe_i, dNe_s, dNe_b, dIsN_n, dIsN_i, dIsN_l, dIsN_t, dNotN_n, dNotN_i, dNotN_l, dNotN_t, dRev_t, dIx_t, dIx_l, atI_0, atI_1, atI_2, atI_3, atI_4, rLen_s, rLen_t, rLen_l, rLen_c, rInt_i, rInt_b, rAbs_i, rList_t, rList_l, rLen_put, dIx_put, tyM_put, dIn_s, Bool.not_true, Bool.not_false]
    refine ⟨kv T, dn, by rw [List.length_map]; unfold kv; rw [List.length_map]; exact lz, ?_⟩
    rw [show (kv T).map (fun p => keyD p.1) = T.map fun e => kD3 e.1 by unfold kv; rw [List.map_map]; exact List.map_congr_left fun e _ => keyD_k e.1]
    refine lc_of (fun e => kD3 e.1) (fun e => some (kD3 e.1)) ?_ T [] (fun a ha G hG => ?_) ?_
    · exact ⟨ep, hS, hS⟩
    · obtain ⟨c, hc, hm⟩ := lookT_mem (List.mem_map_of_mem (f := (·.1)) ha)
      have nz := (hT.ok _ hm).2.nz
      simp only [wRet, wSeq, wIfS, wSet, wVar, wC, wBin, wTest, wAnd, wOr, wNot, wAndV, wOrV, wNotV, wIf, wCall, wCons, wNil, wTup, wLst, wLstM, wCB, wUn, wChain, wSl, wPart, wNo, wAsg, wgTup, wgCons, wgNil, wName, wPar, wSetIx, wAug, wDrop, wNext, wNever, wBM, wLstR1, EK.of, startG, List.map_cons, List.map_nil, List.length_cons, List.length_nil, Nat.reduceAdd, Nat.reduceSub, List.replicate, List.cons_append, List.nil_append, List.getElem?_cons_zero, List.getElem?_cons_succ, List.set_cons_zero, List.set_cons_succ, Option.some.injEq, exists_eq_left', exists_eq_left, D.bl.injEq, D.int.injEq, D.tup.injEq, D.lst.injEq, D.str.injEq, exists_and_left, if_true, Bool.false_eq_true, if_false, true_and, and_true, Int.cast_ofNat_Int, Int.reduceLT, Int.reduceLE, Int.reduceEq, Int.reduceNeg, Int.reduceAdd, Int.reduceSub, decide_true, decide_false, decide_eq_true_eq, List.getElem?_nil, reduceCtorEq, false_and, exists_false, dI_i, dIC_i, dB_i, dNeg_i, dAdd_i, dAdd_s, dAdd_t, dAdd_l, dMul_i, dMul_l, dEq_i, dEq_s, dEq_b, dNe_i, dNe_s, dNe_b, dIsN_n, dIsN_i, dIsN_l, dIsN_t, dNotN_n, dNotN_i, dNotN_l, dNotN_t, dRev_t, dIx_t, dIx_l, atI_0, atI_1, atI_2, atI_3, atI_4, rLen_s, rLen_t, rLen_l, rLen_c, rInt_i, rInt_b, rAbs_i, rList_t, rList_l, rLen_put, dIx_put, tyM_put, dIn_s, Bool.not_true, Bool.not_false]
      refine ixs a c hc _ ?_
      refine dIxA_t.mpr ⟨_, atI_0, ?_⟩
      simp only [wRet, wSeq, wIfS, wSet, wVar, wC, wBin, wTest, wAnd, wOr, wNot, wAndV, wOrV, wNotV, wIf, wCall, wCons, wNil, wTup, wLst, wLstM, wCB, wUn, wChain, wSl, wPart, wNo, wAsg, wgTup, wgCons, wgNil, wName, wPar, wSetIx, wAug, wDrop, wNext, wNever, wBM, wLstR1, EK.of, startG, List.map_cons, List.map_nil, List.length_cons, List.length_nil, Nat.reduceAdd, Nat.reduceSub, List.replicate, List.cons_append, List.nil_append, List.getElem?_cons_zero, List.getElem?_cons_succ, List.set_cons_zero, List.set_cons_succ, Option.some.injEq, exists_eq_left', exists_eq_left, D.bl.injEq, D.int.injEq, D.tup.injEq, D.lst.injEq, D.str.injEq, exists_and_left, if_true, Bool.false_eq_true, if_false, true_and, and_true, Int.cast_ofNat_Int, Int.reduceLT, Int.reduceLE, Int.reduceEq, Int.reduceNeg, Int.reduceAdd, Int.reduceSub, decide_true, decide_false, decide_eq_true_eq, List.getElem?_nil, reduceCtorEq, false_and, exists_false, dI_i, dIC_i, dB_i, dNeg_i, dAdd_i, dAdd_s, dAdd_t, dAdd_l, dMul_i, dMul_l, dEq_i, dEq_s, dEq_b, dNe_i, dNe_s, dNe_b, dIsN_n, dIsN_i, dIsN_l, dIsN_t, dNotN_n, dNotN_i, dNotN_l, dNotN_t, dRev_t, dIx_t, dIx_l, atI_0, atI_1, atI_2, atI_3, atI_4, rLen_s, rLen_t, rLen_l, rLen_c, rInt_i, rInt_b, rAbs_i, rList_t, rList_l, rLen_put, dIx_put, tyM_put, dIn_s, Bool.not_true, Bool.not_false]
      simp only [nz, decide_false, Bool.not_false, if_true]
      exact hG
    · rw [List.nil_append]
      rw [show List.filterMap (fun e : K3 × (Int × Int) => some (kD3 e.1)) T = (T.map (·.1)).map kD3 by rw [List.map_map]; exact congrFun (List.filterMap_eq_map (f := fun e : K3 × (Int × Int) => kD3 e.1)) T]
      refine ⟨⟨ep, hS, hS⟩, _, rfl, fun t ht => ?_, hT.nd, by rw [List.length_map]; exact Nat.le_trans hT.len hn, fun ks hp hs => ⟨rfl, _, rfl, by rw [List.length_map, hp.length_eq, List.length_map]; exact lz, ?_⟩⟩
      · obtain ⟨e, he, rfl⟩ := List.mem_map.mp ht
        exact (hT.ok e he).1
      · refine lc_all kD3 (trD T) (by exact rfl) ks [] (fun a ha G hG => ?_) ?_
        · obtain ⟨c, hc, hm⟩ := lookT_mem (hp.mem_iff.mp ha)
          have et : trD T a = .tup [fr c.1 c.2, .int a.2.2, fr a.1 a.2.1] := by unfold trD; rw [hc]
          rw [et] at hG
          simp only [wRet, wSeq, wIfS, wSet, wVar, wC, wBin, wTest, wAnd, wOr, wNot, wAndV, wOrV, wNotV, wIf, wCall, wCons, wNil, wTup, wLst, wLstM, wCB, wUn, wChain, wSl, wPart, wNo, wAsg, wgTup, wgCons, wgNil, wName, wPar, wSetIx, wAug, wDrop, wNext, wNever, wBM, wLstR1, EK.of, startG, List.map_cons, List.map_nil, List.length_cons, List.length_nil, Nat.reduceAdd, Nat.reduceSub, List.replicate, List.cons_append, List.nil_append, List.getElem?_cons_zero, List.getElem?_cons_succ, List.set_cons_zero, List.set_cons_succ, Option.some.injEq, exists_eq_left', exists_eq_left, D.bl.injEq, D.int.injEq, D.tup.injEq, D.lst.injEq, D.str.injEq, exists_and_left, if_true, Bool.false_eq_true, if_false, true_and, and_true, Int.cast_ofNat_Int, Int.reduceLT, Int.reduceLE, Int.reduceEq, Int.reduceNeg, Int.reduceAdd, Int.reduceSub, decide_true, decide_false, decide_eq_true_eq, List.getElem?_nil, reduceCtorEq, false_and, exists_false, dI_i, dIC_i, dB_i, dNeg_i, dAdd_i, dAdd_s, dAdd_t, dAdd_l, dMul_i, dMul_l, dEq_i, dEq_s, dEq_b, dNe_i, dNe_s, dNe_b, dIsN_n, dIsN_i, dIsN_l, dIsN_t, dNotN_n, dNotN_i, dNotN_l, dNotN_t, dRev_t, dIx_t, dIx_l, atI_0, atI_1, atI_2, atI_3, atI_4, rLen_s, rLen_t, rLen_l, rLen_c, rInt_i, rInt_b, rAbs_i, rList_t, rList_l, rLen_put, dIx_put, tyM_put, dIn_s, Bool.not_true, Bool.not_false]
          refine ixs (a, c) c hc _ ?_
          refine dIxA_t.mpr ⟨_, atI_1, ?_⟩
          refine dIxA_t.mpr ⟨_, atI_0, ?_⟩
          try simp only [wRet, wSeq, wIfS, wSet, wVar, wC, wBin, wTest, wAnd, wOr, wNot, wAndV, wOrV, wNotV, wIf, wCall, wCons, wNil, wTup, wLst, wLstM, wCB, wUn, wChain, wSl, wPart, wNo, wAsg, wgTup, wgCons, wgNil, wName, wPar, wSetIx, wAug, wDrop, wNext, wNever, wBM, wLstR1, EK.of, startG, List.map_cons, List.map_nil, List.length_cons, List.length_nil, Nat.reduceAdd, Nat.reduceSub, List.replicate, List.cons_append, List.nil_append, List.getElem?_cons_zero, List.getElem?_cons_succ, List.set_cons_zero, List.set_cons_succ, Option.some.injEq, exists_eq_left', exists_eq_left, D.bl.injEq, D.int.injEq, D.tup.injEq, D.lst.injEq, D.str.injEq, exists_and_left, if_true, Bool.false_eq_true, if_false, true_and, and_true, Int.cast_ofNat_Int, Int.reduceLT, Int.reduceLE, Int.reduceEq, Int.reduceNeg, Int.reduceAdd, Int.reduceSub, decide_true, decide_false, decide_eq_true_eq, List.getElem?_nil, reduceCtorEq, false_and, exists_false, dI_i, dIC_i, dB_i, dNeg_i, dAdd_i, dAdd_s, dAdd_t, dAdd_l, dMul_i, dMul_l, dEq_i, dEq_s, dEq_b, dNe_i, dNe_s, dNe_b, dIsN_n, dIsN_i, dIsN_l, dIsN_t, dNotN_n, dNotN_i, dNotN_l, dNotN_t, dRev_t, dIx_t, dIx_l, atI_0, atI_1, atI_2, atI_3, atI_4, rLen_s, rLen_t, rLen_l, rLen_c, rInt_i, rInt_b, rAbs_i, rList_t, rList_l, rLen_put, dIx_put, tyM_put, dIn_s, Bool.not_true, Bool.not_false]
          exact ⟨by decide, hG⟩
        · refine ⟨rfl, _, _, rfl, rfl, end_id (hq _ ?_)⟩
          rw [List.nil_append]
          exact crv_of hT hp hs
end K01
end
/-! from K01i.lean -/
section
set_option exponentiation.threshold 10000
namespace K01
open PySem L2 PL LamX
variable [TabCtx]
variable {P : Program} {w : World} {kl : Str → Addr} {K : PySem.W.Frag} {mg : Str → Option Value} {base : Heap} {k : Nat}
def sp_q : PSp := fun ds S Q _ => ∃ p g : Addr, ds = [.ref p] ∧ Bag S p g ∧ ∀ S', Go p g S S' → ∀ n m : Int, KOk (n, m, 0) → Q (fr n m) S'
def sp_c : PSp := fun ds S Q _ => ∃ p g : Addr, ds = [.ref p] ∧ Bag S p g ∧ ∀ S', Go p g S S' → ∀ c : Int × Int, COk c → Q (fr c.1 c.2) S'
theorem ok_law_q (e : En w kl K mg) (t : Tx1 K mg "_law_q" st_law_q) (F1 : Fn1 P w K mg base 2 "_law_some" ["_law_bag_here", "_law_things"] sp_law_some) (F2 : Fn1 P w K mg base 2 "_law_pick" ["_law_bag_here", "_law_many"] sp_law_pick) (F3 : Fn1 P w K mg base 2 "_law_frac" ["_law_top", "_law_bottom"] sp_frac) : Fn1 P w K mg base 3 "_law_q" ["_law_bag_here"] sp_q := by
  refine mk_law_q (k := 2) e t F1 F2 F3 (fun ds S Q E => ?_) (fun ds S Q E => ?_)
  · rintro ⟨p, g, rfl, _⟩
    rfl
  · rintro ⟨p, g, rfl, hb, hq⟩
    simp only [wb_law_q, wRet, wSeq, wIfS, wSet, wVar, wC, wBin, wTest, wAnd, wOr, wNot, wAndV, wOrV, wNotV, wIf, wCall, wCons, wNil, wTup, wLst, wLstM, wCB, wUn, wChain, wSl, wPart, wNo, wAsg, wgTup, wgCons, wgNil, wName, wPar, wSetIx, wAug, wDrop, wNext, wNever, wBM, wLstR1, EK.of, startG, List.map_cons, List.map_nil, List.length_cons, List.length_nil, Nat.reduceAdd, Nat.reduceSub, List.replicate, List.cons_append, List.nil_append, List.getElem?_cons_zero, List.getElem?_cons_succ, List.set_cons_zero, List.set_cons_succ, Option.some.injEq, exists_eq_left', exists_eq_left, D.bl.injEq, D.int.injEq, D.tup.injEq, D.lst.injEq, D.str.injEq, exists_and_left, if_true, Bool.false_eq_true, if_false, true_and, and_true, Int.cast_ofNat_Int, Int.reduceLT, Int.reduceLE, Int.reduceEq, Int.reduceNeg, Int.reduceAdd, Int.reduceSub, decide_true, decide_false, decide_eq_true_eq, List.getElem?_nil, reduceCtorEq, false_and, exists_false, dI_i, dIC_i, dB_i, dNeg_i, dAdd_i, dAdd_s, dAdd_t, dAdd_l, dMul_i, dMul_l, dEq_i, dEq_s, dEq_b, dNe_i, dNe_s, dNe_b, dIsN_n, dIsN_i, dIsN_l, dIsN_t, dNotN_n, dNotN_i, dNotN_l, dNotN_t, dRev_t, dIx_t, dIx_l, atI_0, atI_1, atI_2, atI_3, atI_4, rLen_s, rLen_t, rLen_l, rLen_c, rInt_i, rInt_b, rAbs_i, rList_t, rList_l, rLen_put, dIx_put, tyM_put, dIn_s, Bool.not_true, Bool.not_false]
    refine ⟨by decide, p, g, _, rfl, hb, by simp, by simp, fun S1 g1 x hx => ?_⟩
    obtain ⟨m, rfl, hm⟩ : ∃ m : Int, x = .int m ∧ 0 < m ∧ m ≤ 4 := by
      simp at hx
      rcases hx with rfl | rfl | rfl | rfl
      · exact ⟨1, rfl, by decide, by decide⟩
      · exact ⟨2, rfl, by decide, by decide⟩
      · exact ⟨3, rfl, by decide, by decide⟩
      · exact ⟨4, rfl, by decide, by decide⟩
    refine ⟨p, g, _, rfl, g1.1, by decide, by decide, fun S2 g2 n _ _ => ?_⟩
    simp only [wRet, wSeq, wIfS, wSet, wVar, wC, wBin, wTest, wAnd, wOr, wNot, wAndV, wOrV, wNotV, wIf, wCall, wCons, wNil, wTup, wLst, wLstM, wCB, wUn, wChain, wSl, wPart, wNo, wAsg, wgTup, wgCons, wgNil, wName, wPar, wSetIx, wAug, wDrop, wNext, wNever, wBM, wLstR1, EK.of, startG, List.map_cons, List.map_nil, List.length_cons, List.length_nil, Nat.reduceAdd, Nat.reduceSub, List.replicate, List.cons_append, List.nil_append, List.getElem?_cons_zero, List.getElem?_cons_succ, List.set_cons_zero, List.set_cons_succ, Option.some.injEq, exists_eq_left', exists_eq_left, D.bl.injEq, D.int.injEq, D.tup.injEq, D.lst.injEq, D.str.injEq, exists_and_left, if_true, Bool.false_eq_true, if_false, true_and, and_true, Int.cast_ofNat_Int, Int.reduceLT, Int.reduceLE, Int.reduceEq, Int.reduceNeg, Int.reduceAdd, Int.reduceSub, decide_true, decide_false, decide_eq_true_eq, List.getElem?_nil, reduceCtorEq, false_and, exists_false, dI_i, dIC_i, dB_i, dNeg_i, dAdd_i, dAdd_s, dAdd_t, dAdd_l, dMul_i, dMul_l, dEq_i, dEq_s, dEq_b, dNe_i, dNe_s, dNe_b, dIsN_n, dIsN_i, dIsN_l, dIsN_t, dNotN_n, dNotN_i, dNotN_l, dNotN_t, dRev_t, dIx_t, dIx_l, atI_0, atI_1, atI_2, atI_3, atI_4, rLen_s, rLen_t, rLen_l, rLen_c, rInt_i, rInt_b, rAbs_i, rList_t, rList_l, rLen_put, dIx_put, tyM_put, dIn_s, Bool.not_true, Bool.not_false]
    refine ite2 (fun h => ?_) fun h => ?_
    · refine ⟨mulOk_l (by decide) (by decide), p, g, _, rfl, g2.1, by omega, Int.lt_of_le_of_lt (show 8 * m + 1 ≤ 33 by omega) (by decide), fun S3 g3 n2 h0 h1 => ?_⟩
      simp only [wRet, wSeq, wIfS, wSet, wVar, wC, wBin, wTest, wAnd, wOr, wNot, wAndV, wOrV, wNotV, wIf, wCall, wCons, wNil, wTup, wLst, wLstM, wCB, wUn, wChain, wSl, wPart, wNo, wAsg, wgTup, wgCons, wgNil, wName, wPar, wSetIx, wAug, wDrop, wNext, wNever, wBM, wLstR1, EK.of, startG, List.map_cons, List.map_nil, List.length_cons, List.length_nil, Nat.reduceAdd, Nat.reduceSub, List.replicate, List.cons_append, List.nil_append, List.getElem?_cons_zero, List.getElem?_cons_succ, List.set_cons_zero, List.set_cons_succ, Option.some.injEq, exists_eq_left', exists_eq_left, D.bl.injEq, D.int.injEq, D.tup.injEq, D.lst.injEq, D.str.injEq, exists_and_left, if_true, Bool.false_eq_true, if_false, true_and, and_true, Int.cast_ofNat_Int, Int.reduceLT, Int.reduceLE, Int.reduceEq, Int.reduceNeg, Int.reduceAdd, Int.reduceSub, decide_true, decide_false, decide_eq_true_eq, List.getElem?_nil, reduceCtorEq, false_and, exists_false, dI_i, dIC_i, dB_i, dNeg_i, dAdd_i, dAdd_s, dAdd_t, dAdd_l, dMul_i, dMul_l, dEq_i, dEq_s, dEq_b, dNe_i, dNe_s, dNe_b, dIsN_n, dIsN_i, dIsN_l, dIsN_t, dNotN_n, dNotN_i, dNotN_l, dNotN_t, dRev_t, dIx_t, dIx_l, atI_0, atI_1, atI_2, atI_3, atI_4, rLen_s, rLen_t, rLen_l, rLen_c, rInt_i, rInt_b, rAbs_i, rList_t, rList_l, rLen_put, dIx_put, tyM_put, dIn_s, Bool.not_true, Bool.not_false]
      refine ⟨mulOk_l (by decide) (by decide), _, m, rfl, hm.1, Int.lt_of_le_of_lt hm.2 (by decide), fun gg a' b' hg ha hb' hgc => ?_⟩
      refine end_id (hq _ ((g1.trans g2).trans g3) a' b' ?_)
      have b0 : 0 < b' := by
        have : 0 < gg * b' := by omega
        exact Int.pos_of_mul_pos_right this hg
      have e1 : -4 * b' ≤ a' := Int.le_of_mul_le_mul_left (show gg * (-4 * b') ≤ gg * a' by rw [← ha, show gg * (-4 * b') = -4 * (gg * b') by grind, ← hb']; omega) hg
      have e2 : a' ≤ 4 * b' := Int.le_of_mul_le_mul_left (show gg * a' ≤ gg * (4 * b') by rw [← ha, show gg * (4 * b') = 4 * (gg * b') by grind, ← hb']; omega) hg
      have e3 : b' ≤ m := by
        rw [hb']
        have := Int.mul_le_mul_of_nonneg_right (show (1 : Int) ≤ gg by omega) (Int.le_of_lt b0)
        omega
      exact ⟨b0, by show b' ≤ 4; omega, e1, e2, hgc, (by decide : (0 : Int) ≤ 0), (by decide : (0 : Int) ≤ 3)⟩
    · exact ⟨by decide, end_id (hq _ (g1.trans g2) 0 1 ⟨by decide, by decide, by decide, by decide, by decide, by decide, by decide⟩)⟩
theorem pow15 : (10 : Int) ^ (15 : Int).toNat = 10 ^ 15 := by decide
theorem pow30 : (10 : Int) ^ (30 : Int).toNat = 10 ^ 30 := by decide
theorem ok_law_c (e : En w kl K mg) (t : Tx1 K mg "_law_c" st_law_c) (F1 : Fn1 P w K mg base 2 "_law_some" ["_law_bag_here", "_law_things"] sp_law_some) (F2 : Fn1 P w K mg base 2 "_law_pick" ["_law_bag_here", "_law_many"] sp_law_pick) (F3 : Fn1 P w K mg base 2 "_law_frac" ["_law_top", "_law_bottom"] sp_frac) : Fn1 P w K mg base 3 "_law_c" ["_law_bag_here"] sp_c := by
  refine mk_law_c (k := 2) e t F1 F2 F3 (fun ds S Q E => ?_) (fun ds S Q E => ?_)
  · rintro ⟨p, g, rfl, _⟩
    rfl
  · rintro ⟨p, g, rfl, hb, hq⟩
    simp only [wb_law_c, wRet, wSeq, wIfS, wSet, wVar, wC, wBin, wTest, wAnd, wOr, wNot, wAndV, wOrV, wNotV, wIf, wCall, wCons, wNil, wTup, wLst, wLstM, wCB, wUn, wChain, wSl, wPart, wNo, wAsg, wgTup, wgCons, wgNil, wName, wPar, wSetIx, wAug, wDrop, wNext, wNever, wBM, wLstR1, EK.of, startG, List.map_cons, List.map_nil, List.length_cons, List.length_nil, Nat.reduceAdd, Nat.reduceSub, List.replicate, List.cons_append, List.nil_append, List.getElem?_cons_zero, List.getElem?_cons_succ, List.set_cons_zero, List.set_cons_succ, Option.some.injEq, exists_eq_left', exists_eq_left, D.bl.injEq, D.int.injEq, D.tup.injEq, D.lst.injEq, D.str.injEq, exists_and_left, if_true, Bool.false_eq_true, if_false, true_and, and_true, Int.cast_ofNat_Int, Int.reduceLT, Int.reduceLE, Int.reduceEq, Int.reduceNeg, Int.reduceAdd, Int.reduceSub, decide_true, decide_false, decide_eq_true_eq, List.getElem?_nil, reduceCtorEq, false_and, exists_false, dI_i, dIC_i, dB_i, dNeg_i, dAdd_i, dAdd_s, dAdd_t, dAdd_l, dMul_i, dMul_l, dEq_i, dEq_s, dEq_b, dNe_i, dNe_s, dNe_b, dIsN_n, dIsN_i, dIsN_l, dIsN_t, dNotN_n, dNotN_i, dNotN_l, dNotN_t, dRev_t, dIx_t, dIx_l, atI_0, atI_1, atI_2, atI_3, atI_4, rLen_s, rLen_t, rLen_l, rLen_c, rInt_i, rInt_b, rAbs_i, rList_t, rList_l, rLen_put, dIx_put, tyM_put, dIn_s, Bool.not_true, Bool.not_false]
    rw [pow15, pow30]
    have big : ∀ i : Int, 0 ≤ i → i ≤ 10 ^ 30 → i < 10 ^ 40 := fun i _ h => Int.lt_of_le_of_lt h (by decide)
    refine ⟨⟨by decide, by decide, by decide⟩, ⟨by decide, by decide, by decide⟩, by decide, p, g, _, rfl, hb, by simp, by simp, fun S1 g1 x hx => ?_⟩
    obtain ⟨G, rfl, hG⟩ : ∃ m : Int, x = .int m ∧ 3 ≤ m ∧ m ≤ 10 ^ 30 := by
      simp only [List.mem_cons, List.not_mem_nil, or_false] at hx
      rcases hx with rfl | rfl | rfl | rfl | rfl | rfl | rfl | rfl <;> exact ⟨_, rfl, by decide, by decide⟩
    simp only [wRet, wSeq, wIfS, wSet, wVar, wC, wBin, wTest, wAnd, wOr, wNot, wAndV, wOrV, wNotV, wIf, wCall, wCons, wNil, wTup, wLst, wLstM, wCB, wUn, wChain, wSl, wPart, wNo, wAsg, wgTup, wgCons, wgNil, wName, wPar, wSetIx, wAug, wDrop, wNext, wNever, wBM, wLstR1, EK.of, startG, List.map_cons, List.map_nil, List.length_cons, List.length_nil, Nat.reduceAdd, Nat.reduceSub, List.replicate, List.cons_append, List.nil_append, List.getElem?_cons_zero, List.getElem?_cons_succ, List.set_cons_zero, List.set_cons_succ, Option.some.injEq, exists_eq_left', exists_eq_left, D.bl.injEq, D.int.injEq, D.tup.injEq, D.lst.injEq, D.str.injEq, exists_and_left, if_true, Bool.false_eq_true, if_false, true_and, and_true, Int.cast_ofNat_Int, Int.reduceLT, Int.reduceLE, Int.reduceEq, Int.reduceNeg, Int.reduceAdd, Int.reduceSub, decide_true, decide_false, decide_eq_true_eq, List.getElem?_nil, reduceCtorEq, false_and, exists_false, dI_i, dIC_i, dB_i, dNeg_i, dAdd_i, dAdd_s, dAdd_t, dAdd_l, dMul_i, dMul_l, dEq_i, dEq_s, dEq_b, dNe_i, dNe_s, dNe_b, dIsN_n, dIsN_i, dIsN_l, dIsN_t, dNotN_n, dNotN_i, dNotN_l, dNotN_t, dRev_t, dIx_t, dIx_l, atI_0, atI_1, atI_2, atI_3, atI_4, rLen_s, rLen_t, rLen_l, rLen_c, rInt_i, rInt_b, rAbs_i, rList_t, rList_l, rLen_put, dIx_put, tyM_put, dIn_s, Bool.not_true, Bool.not_false]
    refine ⟨p, g, _, rfl, g1.1, by omega, big _ (by omega) (by omega), fun S2 g2 n h0 h1 => ?_⟩
    simp only [wRet, wSeq, wIfS, wSet, wVar, wC, wBin, wTest, wAnd, wOr, wNot, wAndV, wOrV, wNotV, wIf, wCall, wCons, wNil, wTup, wLst, wLstM, wCB, wUn, wChain, wSl, wPart, wNo, wAsg, wgTup, wgCons, wgNil, wName, wPar, wSetIx, wAug, wDrop, wNext, wNever, wBM, wLstR1, EK.of, startG, List.map_cons, List.map_nil, List.length_cons, List.length_nil, Nat.reduceAdd, Nat.reduceSub, List.replicate, List.cons_append, List.nil_append, List.getElem?_cons_zero, List.getElem?_cons_succ, List.set_cons_zero, List.set_cons_succ, Option.some.injEq, exists_eq_left', exists_eq_left, D.bl.injEq, D.int.injEq, D.tup.injEq, D.lst.injEq, D.str.injEq, exists_and_left, if_true, Bool.false_eq_true, if_false, true_and, and_true, Int.cast_ofNat_Int, Int.reduceLT, Int.reduceLE, Int.reduceEq, Int.reduceNeg, Int.reduceAdd, Int.reduceSub, decide_true, decide_false, decide_eq_true_eq, List.getElem?_nil, reduceCtorEq, false_and, exists_false, dI_i, dIC_i, dB_i, dNeg_i, dAdd_i, dAdd_s, dAdd_t, dAdd_l, dMul_i, dMul_l, dEq_i, dEq_s, dEq_b, dNe_i, dNe_s, dNe_b, dIsN_n, dIsN_i, dIsN_l, dIsN_t, dNotN_n, dNotN_i, dNotN_l, dNotN_t, dRev_t, dIx_t, dIx_l, atI_0, atI_1, atI_2, atI_3, atI_4, rLen_s, rLen_t, rLen_l, rLen_c, rInt_i, rInt_b, rAbs_i, rList_t, rList_l, rLen_put, dIx_put, tyM_put, dIn_s, Bool.not_true, Bool.not_false]
    refine ⟨by decide, p, g, _, rfl, g2.1, by simp, by simp, fun S3 g3 x hx => ?_⟩
    obtain ⟨B, rfl, hB⟩ : ∃ m : Int, x = .int m ∧ 1 ≤ m ∧ m ≤ 10 ^ 30 := by
      have e30 : (12 : Int) ≤ 10 ^ 30 := by decide
      simp only [List.mem_cons, List.not_mem_nil, or_false] at hx
      rcases hx with rfl | rfl | rfl | rfl | rfl | rfl <;> exact ⟨_, rfl, by omega, by omega⟩
    refine ⟨p, g, _, rfl, g3.1, by omega, big _ (by omega) (by omega), fun S4 g4 n2 h2 h3 => ?_⟩
    simp only [wRet, wSeq, wIfS, wSet, wVar, wC, wBin, wTest, wAnd, wOr, wNot, wAndV, wOrV, wNotV, wIf, wCall, wCons, wNil, wTup, wLst, wLstM, wCB, wUn, wChain, wSl, wPart, wNo, wAsg, wgTup, wgCons, wgNil, wName, wPar, wSetIx, wAug, wDrop, wNext, wNever, wBM, wLstR1, EK.of, startG, List.map_cons, List.map_nil, List.length_cons, List.length_nil, Nat.reduceAdd, Nat.reduceSub, List.replicate, List.cons_append, List.nil_append, List.getElem?_cons_zero, List.getElem?_cons_succ, List.set_cons_zero, List.set_cons_succ, Option.some.injEq, exists_eq_left', exists_eq_left, D.bl.injEq, D.int.injEq, D.tup.injEq, D.lst.injEq, D.str.injEq, exists_and_left, if_true, Bool.false_eq_true, if_false, true_and, and_true, Int.cast_ofNat_Int, Int.reduceLT, Int.reduceLE, Int.reduceEq, Int.reduceNeg, Int.reduceAdd, Int.reduceSub, decide_true, decide_false, decide_eq_true_eq, List.getElem?_nil, reduceCtorEq, false_and, exists_false, dI_i, dIC_i, dB_i, dNeg_i, dAdd_i, dAdd_s, dAdd_t, dAdd_l, dMul_i, dMul_l, dEq_i, dEq_s, dEq_b, dNe_i, dNe_s, dNe_b, dIsN_n, dIsN_i, dIsN_l, dIsN_t, dNotN_n, dNotN_i, dNotN_l, dNotN_t, dRev_t, dIx_t, dIx_l, atI_0, atI_1, atI_2, atI_3, atI_4, rLen_s, rLen_t, rLen_l, rLen_c, rInt_i, rInt_b, rAbs_i, rList_t, rList_l, rLen_put, dIx_put, tyM_put, dIn_s, Bool.not_true, Bool.not_false]
    refine ⟨p, g, _, rfl, g4.1, by decide, by decide, fun S5 g5 n3 _ _ => ?_⟩
    simp only [wRet, wSeq, wIfS, wSet, wVar, wC, wBin, wTest, wAnd, wOr, wNot, wAndV, wOrV, wNotV, wIf, wCall, wCons, wNil, wTup, wLst, wLstM, wCB, wUn, wChain, wSl, wPart, wNo, wAsg, wgTup, wgCons, wgNil, wName, wPar, wSetIx, wAug, wDrop, wNext, wNever, wBM, wLstR1, EK.of, startG, List.map_cons, List.map_nil, List.length_cons, List.length_nil, Nat.reduceAdd, Nat.reduceSub, List.replicate, List.cons_append, List.nil_append, List.getElem?_cons_zero, List.getElem?_cons_succ, List.set_cons_zero, List.set_cons_succ, Option.some.injEq, exists_eq_left', exists_eq_left, D.bl.injEq, D.int.injEq, D.tup.injEq, D.lst.injEq, D.str.injEq, exists_and_left, if_true, Bool.false_eq_true, if_false, true_and, and_true, Int.cast_ofNat_Int, Int.reduceLT, Int.reduceLE, Int.reduceEq, Int.reduceNeg, Int.reduceAdd, Int.reduceSub, decide_true, decide_false, decide_eq_true_eq, List.getElem?_nil, reduceCtorEq, false_and, exists_false, dI_i, dIC_i, dB_i, dNeg_i, dAdd_i, dAdd_s, dAdd_t, dAdd_l, dMul_i, dMul_l, dEq_i, dEq_s, dEq_b, dNe_i, dNe_s, dNe_b, dIsN_n, dIsN_i, dIsN_l, dIsN_t, dNotN_n, dNotN_i, dNotN_l, dNotN_t, dRev_t, dIx_t, dIx_l, atI_0, atI_1, atI_2, atI_3, atI_4, rLen_s, rLen_t, rLen_l, rLen_c, rInt_i, rInt_b, rAbs_i, rList_t, rList_l, rLen_put, dIx_put, tyM_put, dIn_s, Bool.not_true, Bool.not_false]
    have fin : ∀ a : Int, a.natAbs = (1 + n).natAbs → sp_frac [.int a, .int (1 + n2)] S5 (PL.End Q) (EK.of (EE E) [some (.ref p), some (.int G), some (.int (1 + n)), some (.int (1 + n2))]) := by
      intro a ha
      refine ⟨_, _, rfl, by omega, big _ (by omega) (by omega), fun gg a' b' hg ha' hb' hgc => end_id (hq _ ((((g1.trans g2).trans g3).trans g4).trans g5) (a', b') ?_)⟩
      have b0 : 0 < b' := by
        have : 0 < gg * b' := by omega
        exact Int.pos_of_mul_pos_right this hg
      have a0 : a' ≠ 0 := fun z => by rw [z, Int.mul_zero] at ha'; omega
      have le : ∀ u : Int, u.natAbs ≤ (gg * u).natAbs := fun u => by
        rw [Int.natAbs_mul]
        have : 1 * u.natAbs ≤ gg.natAbs * u.natAbs := Nat.mul_le_mul_right _ (by omega)
        omega
      have l1 := le a'
      have l2 := le b'
      rw [← ha', ha] at l1
      rw [← hb'] at l2
      have e : ((10 : Nat) ^ 30 : Nat) < 10 ^ 40 := by decide
      have e' : (10 : Int) ^ 30 = ((10 ^ 30 : Nat) : Int) := by decide
      rw [e'] at hG hB
      generalize (10 : Nat) ^ 30 = X at *
      generalize hY : (10 : Nat) ^ 40 = Y at *
      exact ⟨a0, b0, hgc, by rw [hY]; show a'.natAbs < Y; omega, by rw [hY]; show b'.natAbs < Y; omega⟩
    refine ite2 (fun h => ?_) fun h => ?_
    · exact fin _ rfl
    · exact fin _ (by omega)
theorem CrvOk.mono {n m : Nat} {ds : List D} (h : CrvOk n ds) (hn : n ≤ m) : CrvOk m ds := ⟨Nat.le_trans h.len hn, h.tm, h.ah⟩
def sp_curve : PSp := fun ds S Q _ => ∃ (p g : Addr) (n : Nat), ds = [.ref p, .int (n : Nat)] ∧ Bag S p g ∧ n ≤ 100 ∧ ∀ S', Go p g S S' → ∀ ds, CrvOk n ds → Q (.tup ds) S'
theorem ok_law_curve (e : En w kl K mg) (t : Tx1 K mg "_law_curve" st_law_curve) (F1 : Fn1 P w K mg base 3 "_law_q" ["_law_bag_here"] sp_q) (F2 : Fn1 P w K mg base 3 "_law_pick" ["_law_bag_here", "_law_many"] sp_law_pick) (F3 : Fn1 P w K mg base 3 "_law_some" ["_law_bag_here", "_law_things"] sp_law_some)
    (F4 : Fn1 P w K mg base 3 "_law_c" ["_law_bag_here"] sp_c) (F5 : Fn1 P w K mg base 3 "_law_terms" ["_law_parts"] (sp_terms w)) : Fn1 P w K mg base 4 "_law_curve" ["_law_bag_here", "_law_size"] sp_curve := by
  refine mk_law_curve (k := 3) e t F1 F2 F3 F4 F5 (fun ds S Q E => ?_) (fun ds S Q E => ?_)
  · rintro ⟨p, g, n, rfl, _⟩
    rfl
  · rintro ⟨p, g, n, rfl, hb, hn, hq⟩
    simp only [wb_law_curve, wNNew, wFor, wLc, wLcM, wLcB, wiS, wiT, wiL, wiR1, wiR2, wipeG, wRet, wSeq, wIfS, wSet, wVar, wC, wBin, wTest, wAnd, wOr, wNot, wAndV, wOrV, wNotV, wIf, wCall, wCons, wNil, wTup, wLst, wLstM, wCB, wUn, wChain, wSl, wPart, wNo, wAsg, wgTup, wgCons, wgNil, wName, wPar, wSetIx, wAug, wDrop, wNext, wNever, wBM, wLstR1, EK.of, startG, List.map_cons, List.map_nil, List.length_cons, List.length_nil, Nat.reduceAdd, Nat.reduceSub, List.replicate, List.cons_append, List.nil_append, List.getElem?_cons_zero, List.getElem?_cons_succ, List.set_cons_zero, List.set_cons_succ, Option.some.injEq, exists_eq_left', exists_eq_left, D.bl.injEq, D.int.injEq, D.tup.injEq, D.lst.injEq, D.str.injEq, exists_and_left, if_true, Bool.false_eq_true, if_false, true_and, and_true, Int.cast_ofNat_Int, Int.reduceLT, Int.reduceLE, Int.reduceEq, Int.reduceNeg, Int.reduceAdd, Int.reduceSub, decide_true, decide_false, decide_eq_true_eq, List.getElem?_nil, reduceCtorEq, false_and, exists_false, dI_i, dIC_i, dB_i, dNeg_i, dAdd_i, dAdd_s, dAdd_t, dAdd_l, dMul_i, dMul_l, dEq_i, dEq_s, dEq_b, dNe_i, dNe_s, dNe_b, dIsN_n, dIsN_i, dIsN_l, dIsN_t, dNotN_n, dNotN_i, dNotN_l, dNotN_t, dRev_t, dIx_t, dIx_l, atI_0, atI_1, atI_2, atI_3, atI_4, rLen_s, rLen_t, rLen_l, rLen_c, rInt_i, rInt_b, rAbs_i, rList_t, rList_l, rLen_put, dIx_put, tyM_put, dIn_s, Bool.not_true, Bool.not_false]
    intro d ep hd
    obtain ⟨pd, gd⟩ := hb.ne hd
    have g0 : Go p g S (S.put d (.dcn w [] ep)) := (Go.refl hb).put pd gd hd
    have d0 : (S.put d (.dcn w [] ep)) d = some (.dcn w (kv []) ep) := Sto.put_same
    generalize S.put d (.dcn w [] ep) = S0 at g0 d0
    refine ⟨p, g, rfl, g0.1, fun S1 g1 n1 m1 q1 => ⟨p, g, rfl, g1.1, fun S2 g2 n2 m2 q2 => ?_⟩⟩
    simp only [wRet, wSeq, wIfS, wSet, wVar, wC, wBin, wTest, wAnd, wOr, wNot, wAndV, wOrV, wNotV, wIf, wCall, wCons, wNil, wTup, wLst, wLstM, wCB, wUn, wChain, wSl, wPart, wNo, wAsg, wgTup, wgCons, wgNil, wName, wPar, wSetIx, wAug, wDrop, wNext, wNever, wBM, wLstR1, EK.of, startG, List.map_cons, List.map_nil, List.length_cons, List.length_nil, Nat.reduceAdd, Nat.reduceSub, List.replicate, List.cons_append, List.nil_append, List.getElem?_cons_zero, List.getElem?_cons_succ, List.set_cons_zero, List.set_cons_succ, Option.some.injEq, exists_eq_left', exists_eq_left, D.bl.injEq, D.int.injEq, D.tup.injEq, D.lst.injEq, D.str.injEq, exists_and_left, if_true, Bool.false_eq_true, if_false, true_and, and_true, Int.cast_ofNat_Int, Int.reduceLT, Int.reduceLE, Int.reduceEq, Int.reduceNeg, Int.reduceAdd, Int.reduceSub, decide_true, decide_false, decide_eq_true_eq, List.getElem?_nil, reduceCtorEq, false_and, exists_false, dI_i, dIC_i, dB_i, dNeg_i, dAdd_i, dAdd_s, dAdd_t, dAdd_l, dMul_i, dMul_l, dEq_i, dEq_s, dEq_b, dNe_i, dNe_s, dNe_b, dIsN_n, dIsN_i, dIsN_l, dIsN_t, dNotN_n, dNotN_i, dNotN_l, dNotN_t, dRev_t, dIx_t, dIx_l, atI_0, atI_1, atI_2, atI_3, atI_4, rLen_s, rLen_t, rLen_l, rLen_c, rInt_i, rInt_b, rAbs_i, rList_t, rList_l, rLen_put, dIx_put, tyM_put, dIn_s, Bool.not_true, Bool.not_false]
    refine ⟨by decide, by decide, _, _, rfl, p, g, _, rfl, g2.1, by omega, Int.lt_of_le_of_lt (show ((n : Nat) : Int) + 1 ≤ 101 by omega) (by decide), fun S3 g3 j j0 j1 => ⟨j, rfl, by omega, by omega, ?_⟩⟩
    have dd : S3 d = some (.dcn w (kv []) ep) := g3.2 _ _ (Ne.symm pd) (Ne.symm gd) (g2.2 _ _ (Ne.symm pd) (Ne.symm gd) (g1.2 _ _ (Ne.symm pd) (Ne.symm gd) d0))
    have g03 := ((g0.trans g1).trans g2).trans g3
    refine ⟨fun i Γ S' => Go p g S S' ∧ (∃ (T : Tab) (ep' : Nat), S' d = some (.dcn w (kv T) ep') ∧ TOk T i) ∧ ∃ x2 x5, Γ = [some (.ref p), some (.int (n : Nat)), x2, some (.ref d), some (.lst [fr n1 m1, fr n2 m2, fr 0 1]), x5], ⟨g03, ⟨[], ep, dd, by simp, by simp, by simp⟩, _, _, rfl⟩, fun _ _ _ _ _ => trivial, ?_, ?_⟩
    · rintro i x Γ S' hx ⟨gg, ⟨T, ep', hT, tT⟩, x2, x5, rfl⟩
      have ne1 := Ne.symm pd
      have ne2 := Ne.symm gd
      simp only [wRet, wSeq, wIfS, wSet, wVar, wC, wBin, wTest, wAnd, wOr, wNot, wAndV, wOrV, wNotV, wIf, wCall, wCons, wNil, wTup, wLst, wLstM, wCB, wUn, wChain, wSl, wPart, wNo, wAsg, wgTup, wgCons, wgNil, wName, wPar, wSetIx, wAug, wDrop, wNext, wNever, wBM, wLstR1, EK.of, startG, List.map_cons, List.map_nil, List.length_cons, List.length_nil, Nat.reduceAdd, Nat.reduceSub, List.replicate, List.cons_append, List.nil_append, List.getElem?_cons_zero, List.getElem?_cons_succ, List.set_cons_zero, List.set_cons_succ, Option.some.injEq, exists_eq_left', exists_eq_left, D.bl.injEq, D.int.injEq, D.tup.injEq, D.lst.injEq, D.str.injEq, exists_and_left, if_true, Bool.false_eq_true, if_false, true_and, and_true, Int.cast_ofNat_Int, Int.reduceLT, Int.reduceLE, Int.reduceEq, Int.reduceNeg, Int.reduceAdd, Int.reduceSub, decide_true, decide_false, decide_eq_true_eq, List.getElem?_nil, reduceCtorEq, false_and, exists_false, dI_i, dIC_i, dB_i, dNeg_i, dAdd_i, dAdd_s, dAdd_t, dAdd_l, dMul_i, dMul_l, dEq_i, dEq_s, dEq_b, dNe_i, dNe_s, dNe_b, dIsN_n, dIsN_i, dIsN_l, dIsN_t, dNotN_n, dNotN_i, dNotN_l, dNotN_t, dRev_t, dIx_t, dIx_l, atI_0, atI_1, atI_2, atI_3, atI_4, rLen_s, rLen_t, rLen_l, rLen_c, rInt_i, rInt_b, rAbs_i, rList_t, rList_l, rLen_put, dIx_put, tyM_put, dIn_s, Bool.not_true, Bool.not_false]
      refine ⟨p, g, _, rfl, gg.1, by decide, by decide, fun S4 g4 n4 _ _ => ?_⟩
      simp only [wRet, wSeq, wIfS, wSet, wVar, wC, wBin, wTest, wAnd, wOr, wNot, wAndV, wOrV, wNotV, wIf, wCall, wCons, wNil, wTup, wLst, wLstM, wCB, wUn, wChain, wSl, wPart, wNo, wAsg, wgTup, wgCons, wgNil, wName, wPar, wSetIx, wAug, wDrop, wNext, wNever, wBM, wLstR1, EK.of, startG, List.map_cons, List.map_nil, List.length_cons, List.length_nil, Nat.reduceAdd, Nat.reduceSub, List.replicate, List.cons_append, List.nil_append, List.getElem?_cons_zero, List.getElem?_cons_succ, List.set_cons_zero, List.set_cons_succ, Option.some.injEq, exists_eq_left', exists_eq_left, D.bl.injEq, D.int.injEq, D.tup.injEq, D.lst.injEq, D.str.injEq, exists_and_left, if_true, Bool.false_eq_true, if_false, true_and, and_true, Int.cast_ofNat_Int, Int.reduceLT, Int.reduceLE, Int.reduceEq, Int.reduceNeg, Int.reduceAdd, Int.reduceSub, decide_true, decide_false, decide_eq_true_eq, List.getElem?_nil, reduceCtorEq, false_and, exists_false, dI_i, dIC_i, dB_i, dNeg_i, dAdd_i, dAdd_s, dAdd_t, dAdd_l, dMul_i, dMul_l, dEq_i, dEq_s, dEq_b, dNe_i, dNe_s, dNe_b, dIsN_n, dIsN_i, dIsN_l, dIsN_t, dNotN_n, dNotN_i, dNotN_l, dNotN_t, dRev_t, dIx_t, dIx_l, atI_0, atI_1, atI_2, atI_3, atI_4, rLen_s, rLen_t, rLen_l, rLen_c, rInt_i, rInt_b, rAbs_i, rList_t, rList_l, rLen_put, dIx_put, tyM_put, dIn_s, Bool.not_true, Bool.not_false]
      have put : ∀ (S5 : Sto) (q : Sto → Prop) (E1 E2 : EK) (n5 m5 : Int), Go p g S S5 → S5 d = some (.dcn w (kv T) ep') → KOk (n5, m5, 0) → (∀ S6, Go p g S S6 → (∃ T' ep'', S6 d = some (.dcn w (kv T') ep'') ∧ TOk T' (i + 1)) → q S6) → sp_c [.ref p] S5 (fun v S1 => sp_law_pick [.ref p, .int 4] S1 (fun d_5 S1 => 2 ≤ sizeLine ∧ rSetA w (.ref d) (.tup [fr n5 m5, d_5]) v S1 q) E1) E2 := by
        intro S5 q E1 E2 n5 m5 g5 h5 k5 hN
        refine ⟨p, g, rfl, g5.1, fun S6 g6 c hc => ⟨p, g, _, rfl, g6.1, by decide, by decide, fun S7 g7 kk k0 k1 => ⟨by decide, .inr (.inl ⟨d, kv T, ep', kN (n5, m5, kk), rfl, g7.2 _ _ ne1 ne2 (g6.2 _ _ ne1 ne2 h5), isKey_k (n5, m5, kk), ?_, fun ep'' => ?_⟩)⟩⟩⟩
        · unfold kv
          rw [List.length_map]
          have := tT.len
          have : i ≤ 101 := by
            have := (List.getElem?_eq_some_iff.mp hx).1
            rw [ups_len] at this
            omega
          exact Nat.lt_of_le_of_lt (show T.length ≤ 101 by omega) (by decide)
        · rw [setN_kv]
          have gz := (g5.trans g6).trans g7
          exact hN _ (gz.put pd gd hd) ⟨_, ep'', Sto.put_same, putT_ok tT ⟨k5.m1, k5.m4, k5.lo, k5.hi, k5.g, k0, by show kk ≤ 3; omega⟩ hc⟩
      have dd4 := g4.2 _ _ ne1 ne2 hT
      have gg4 := gg.trans g4
      refine ite2 (fun h => ?_) fun h => ?_
      · refine ⟨p, g, _, rfl, gg4.1, by simp, by simp, fun S5 g5 y hy => ?_⟩
        obtain ⟨n5, m5, rfl, k5⟩ : ∃ n5 m5 : Int, y = fr n5 m5 ∧ KOk (n5, m5, 0) := by
          simp only [List.mem_cons, List.not_mem_nil, or_false] at hy
          rcases hy with rfl | rfl | rfl
          · exact ⟨_, _, rfl, q1⟩
          · exact ⟨_, _, rfl, q2⟩
          · exact ⟨0, 1, rfl, by decide, by decide, by decide, by decide, by decide, by decide, by decide⟩
        exact put S5 _ _ _ n5 m5 (gg4.trans g5) (g5.2 _ _ ne1 ne2 dd4) k5 fun S6 a b => ⟨a, b, _, _, rfl⟩
      · refine ⟨p, g, rfl, gg4.1, fun S5 g5 n5 m5 k5 => ?_⟩
        exact put S5 _ _ _ n5 m5 (gg4.trans g5) (g5.2 _ _ ne1 ne2 dd4) k5 fun S6 a b => ⟨a, b, _, _, rfl⟩
    · rintro Γ S' ⟨gg, ⟨T, ep', hT, tT⟩, x2, x5, rfl⟩
      simp only [wb_law_curve_0, wRet, wSeq, wIfS, wSet, wVar, wC, wBin, wTest, wAnd, wOr, wNot, wAndV, wOrV, wNotV, wIf, wCall, wCons, wNil, wTup, wLst, wLstM, wCB, wUn, wChain, wSl, wPart, wNo, wAsg, wgTup, wgCons, wgNil, wName, wPar, wSetIx, wAug, wDrop, wNext, wNever, wBM, wLstR1, EK.of, startG, List.map_cons, List.map_nil, List.length_cons, List.length_nil, Nat.reduceAdd, Nat.reduceSub, List.replicate, List.cons_append, List.nil_append, List.getElem?_cons_zero, List.getElem?_cons_succ, List.set_cons_zero, List.set_cons_succ, Option.some.injEq, exists_eq_left', exists_eq_left, D.bl.injEq, D.int.injEq, D.tup.injEq, D.lst.injEq, D.str.injEq, exists_and_left, if_true, Bool.false_eq_true, if_false, true_and, and_true, Int.cast_ofNat_Int, Int.reduceLT, Int.reduceLE, Int.reduceEq, Int.reduceNeg, Int.reduceAdd, Int.reduceSub, decide_true, decide_false, decide_eq_true_eq, List.getElem?_nil, reduceCtorEq, false_and, exists_false, dI_i, dIC_i, dB_i, dNeg_i, dAdd_i, dAdd_s, dAdd_t, dAdd_l, dMul_i, dMul_l, dEq_i, dEq_s, dEq_b, dNe_i, dNe_s, dNe_b, dIsN_n, dIsN_i, dIsN_l, dIsN_t, dNotN_n, dNotN_i, dNotN_l, dNotN_t, dRev_t, dIx_t, dIx_l, atI_0, atI_1, atI_2, atI_3, atI_4, rLen_s, rLen_t, rLen_l, rLen_c, rInt_i, rInt_b, rAbs_i, rList_t, rList_l, rLen_put, dIx_put, tyM_put, dIn_s, Bool.not_true, Bool.not_false]
      rw [show (ups 0 j.toNat).length = j.toNat by simp [ups]] at tT
      refine ⟨d, ep', T, _, rfl, hT, tT, by omega, fun ds hds => end_id (hq _ gg ds (hds.mono (by omega)))⟩
end K01
end
/-! from K01j.lean -/
section
set_option exponentiation.threshold 10000
namespace K01
open PySem L2 PL LamX
variable [TabCtx]
variable {P : Program} {w : World} {kl : Str → Addr} {K : PySem.W.Frag} {mg : Str → Option Value} {base : Heap} {k : Nat}
def Al (m n : Nat) (xs : List D) : Prop := ∀ x ∈ xs, Th m n x
theorem al_nil {m n : Nat} : Al m n [] := fun _ h => by cases h
theorem al_cons {m n : Nat} {x : D} {xs : List D} (h1 : Th m n x) (h2 : Al m n xs) : Al m n (x :: xs) := List.forall_mem_cons.mpr ⟨h1, h2⟩
theorem al_app {m n : Nat} {xs ys : List D} (h1 : Al m n xs) (h2 : Al m n ys) : Al m n (xs ++ ys) := fun x h => (List.mem_append.mp h).elim (h1 x) (h2 x)
theorem al_rev {m n : Nat} {xs : List D} (h1 : Al m n xs) : Al m n xs.reverse := fun x h => h1 x (List.mem_reverse.mp h)
theorem al_cut {m n : Nat} {xs : List D} (h1 : Al m n xs) (lo hi : Option Int) : Al m n (cutD xs lo hi) := fun x h => h1 x (List.mem_of_mem_drop (List.mem_of_mem_take h))
theorem al_mono {m n m' n' : Nat} {xs : List D} (h1 : Al m n xs) (hm : m ≤ m') (hn : n ≤ n') : Al m' n' xs := fun x h => (h1 x h).mono hm hn
theorem th_tup {m n : Nat} {xs : List D} (h : Al m n xs) (hz : xs.length ≤ m) : Th m (n + 1) (.tup xs) := .tup h hz
theorem th_lst {m n : Nat} {xs : List D} (h : Al m n xs) (hz : xs.length ≤ m) : Th m (n + 1) (.lst xs) := .lst h hz
theorem th_deep : ∀ n, Th 3 (2 * n + 1) (deep n)
  | 0 => th_tup al_nil (by decide)
  | n + 1 => th_lst (n := 2 * n + 2) (al_cons (th_tup (n := 2 * n + 1) (al_cons (th_deep n) al_nil) (by simp)) al_nil) (by simp)
theorem th_deep11 : Th 3 23 (deep 11) := th_deep 11
def sp_odd : PSp := fun ds S Q _ => ∃ p g : Addr, ds = [.ref p] ∧ Bag S p g ∧ ∀ S', Go p g S S' → ∀ x, Th 3 23 x → Q x S'
theorem ok_law_odd (e : En w kl K mg) (t : Tx1 K mg "_law_odd" st_law_odd) (F1 : Fn1 P w K mg base 2 "_law_deep" [] sp_law_deep) (F2 : Fn1 P w K mg base 2 "_law_some" ["_law_bag_here", "_law_things"] sp_law_some) : Fn1 P w K mg base 3 "_law_odd" ["_law_bag_here"] sp_odd := by
  refine mk_law_odd (k := 2) e t F1 F2 (fun ds S Q E => ?_) (fun ds S Q E => ?_)
  · rintro ⟨p, g, rfl, _⟩
    rfl
  · rintro ⟨p, g, rfl, hb, hq⟩
    simp only [wb_law_odd, wDct0, wRet, wSeq, wIfS, wSet, wVar, wC, wBin, wTest, wAnd, wOr, wNot, wAndV, wOrV, wNotV, wIf, wCall, wCons, wNil, wTup, wLst, wLstM, wCB, wUn, wChain, wSl, wPart, wNo, wAsg, wgTup, wgCons, wgNil, wName, wPar, wSetIx, wAug, wDrop, wNext, wNever, wBM, wLstR1, EK.of, startG, List.map_cons, List.map_nil, List.length_cons, List.length_nil, Nat.reduceAdd, Nat.reduceSub, List.replicate, List.cons_append, List.nil_append, List.getElem?_cons_zero, List.getElem?_cons_succ, List.set_cons_zero, List.set_cons_succ, Option.some.injEq, exists_eq_left', exists_eq_left, D.bl.injEq, D.int.injEq, D.tup.injEq, D.lst.injEq, D.str.injEq, exists_and_left, if_true, Bool.false_eq_true, if_false, true_and, and_true, Int.cast_ofNat_Int, Int.reduceLT, Int.reduceLE, Int.reduceEq, Int.reduceNeg, Int.reduceAdd, Int.reduceSub, decide_true, decide_false, decide_eq_true_eq, List.getElem?_nil, reduceCtorEq, false_and, exists_false, dI_i, dIC_i, dB_i, dNeg_i, dAdd_i, dAdd_s, dAdd_t, dAdd_l, dMul_i, dMul_l, dEq_i, dEq_s, dEq_b, dNe_i, dNe_s, dNe_b, dIsN_n, dIsN_i, dIsN_l, dIsN_t, dNotN_n, dNotN_i, dNotN_l, dNotN_t, dRev_t, dIx_t, dIx_l, atI_0, atI_1, atI_2, atI_3, atI_4, rLen_s, rLen_t, rLen_l, rLen_c, rInt_i, rInt_b, rAbs_i, rList_t, rList_l, rLen_put, dIx_put, tyM_put, dIn_s, Bool.not_true, Bool.not_false]
    refine ⟨by decide, by decide, by decide, by decide, by decide, by decide, by decide, by decide, by decide, by decide, by decide, by decide, by decide, by decide, by decide, by decide, rfl, by decide, by decide, by decide, ⟨by decide, by decide, by decide⟩, by decide, by decide, by decide, p, g, _, rfl, hb, by simp, by simp, fun S' g1 x hx => end_id (hq S' g1 x ?_)⟩
    revert hx
    refine (show Al 3 23 _ from ?_) x
    repeat' first
      | exact Th.non
      | exact Th.bl _
      | exact Th.int _ (by decide)
      | exact Th.str _
      | exact Th.dct
      | exact th_deep11
      | exact al_nil
      | refine al_cons ?_ ?_
      | refine th_tup ?_ (by simp)
      | refine th_lst ?_ (by simp)
/-! bent -/
def sp_bent : PSp := fun ds S Q _ => ∃ (p g : Addr) (m : Nat) (d : D), ds = [.ref p, d] ∧ Bag S p g ∧ Th m 25 d ∧ 8 ≤ m ∧ m ≤ 160 ∧ ∀ S', Go p g S S' → ∀ d', Th (3 * m + 20) 25 d' → Q d' S'
theorem crv_th {n : Nat} {ds : List D} (h : CrvOk n ds) {m j : Nat} (hm : 3 ≤ m) (hj : 2 ≤ j) : Al m j ds := fun x hx => (h.tm x hx).2.mono hm hj
theorem ok_law_bent (e : En w kl K mg) (t : Tx1 K mg "_law_bent" st_law_bent) (F1 : Fn1 P w K mg base 4 "_law_pick" ["_law_bag_here", "_law_many"] sp_law_pick) (F2 : Fn1 P w K mg base 4 "_law_odd" ["_law_bag_here"] sp_odd) (F3 : Fn1 P w K mg base 4 "_law_some" ["_law_bag_here", "_law_things"] sp_law_some) (F4 : Fn1 P w K mg base 4 "_law_curve" ["_law_bag_here", "_law_size"] sp_curve) : Fn1 P w K mg base 5 "_law_bent" ["_law_bag_here", "_law_terms_here"] sp_bent := by
  refine mk_law_bent (k := 4) e t F1 F2 F3 F4 (fun ds S Q E => ?_) (fun ds S Q E => ?_)
  · rintro ⟨p, g, m, d, rfl, _⟩
    rfl
  · rintro ⟨p, g, m, d, rfl, hb, hd, hm, hm2, hq⟩
    have hp := hd.pl
    simp only [wb_law_bent, wRet, wSeq, wIfS, wSet, wVar, wC, wBin, wTest, wAnd, wOr, wNot, wAndV, wOrV, wNotV, wIf, wCall, wCons, wNil, wTup, wLst, wLstM, wCB, wUn, wChain, wSl, wPart, wNo, wAsg, wgTup, wgCons, wgNil, wName, wPar, wSetIx, wAug, wDrop, wNext, wNever, wBM, wLstR1, EK.of, startG, List.map_cons, List.map_nil, List.length_cons, List.length_nil, Nat.reduceAdd, Nat.reduceSub, List.replicate, List.cons_append, List.nil_append, List.getElem?_cons_zero, List.getElem?_cons_succ, List.set_cons_zero, List.set_cons_succ, Option.some.injEq, exists_eq_left', exists_eq_left, D.bl.injEq, D.int.injEq, D.tup.injEq, D.lst.injEq, D.str.injEq, exists_and_left, if_true, Bool.false_eq_true, if_false, true_and, and_true, Int.cast_ofNat_Int, Int.reduceLT, Int.reduceLE, Int.reduceEq, Int.reduceNeg, Int.reduceAdd, Int.reduceSub, decide_true, decide_false, decide_eq_true_eq, List.getElem?_nil, reduceCtorEq, false_and, exists_false, dI_i, dIC_i, dB_i, dNeg_i, dAdd_i, dAdd_s, dAdd_t, dAdd_l, dMul_i, dMul_l, dEq_i, dEq_s, dEq_b, dNe_i, dNe_s, dNe_b, dIsN_n, dIsN_i, dIsN_l, dIsN_t, dNotN_n, dNotN_i, dNotN_l, dNotN_t, dRev_t, dIx_t, dIx_l, atI_0, atI_1, atI_2, atI_3, atI_4, rLen_s, rLen_t, rLen_l, rLen_c, rInt_i, rInt_b, rAbs_i, rList_t, rList_l, rLen_put, dIx_put, tyM_put, dIn_s, Bool.not_true, Bool.not_false, rIsi_tuple hp]
    refine iteB (fun h => ?_) fun h => ?_
    · exact end_id (hq S (.refl hb) d (hd.mono (by omega) (Nat.le_refl _)))
    obtain ⟨ts, rfl, hl, hx⟩ := tup_of hd (by simpa using h)
    have big : ∀ i : Int, i ≤ 1000 → i < 10 ^ 40 := fun i h => Int.lt_of_le_of_lt h (by decide)
    have ax : Al (3 * m + 20) 24 ts := al_mono (m := m) (n := 24) hx (by omega) (Nat.le_refl _)
    have sz : ∀ n : Nat, n ≤ 10000 → n ≤ sizeLine := fun n h => Nat.le_trans h (by decide)
    have out : ∀ S' xs, Go p g S S' → Al (3 * m + 20) 24 xs → xs.length ≤ 3 * ts.length + 20 → PL.End Q (.tup xs) S' := fun S' xs hg ha hz => end_id (hq S' hg _ (th_tup ha (by omega)))
    have cl : ∀ lo hi, (cutD ts lo hi).length ≤ ts.length := fun lo hi => cutD_len ts lo hi
    simp only [wb_law_bent_6, wRet, wSeq, wIfS, wSet, wVar, wC, wBin, wTest, wAnd, wOr, wNot, wAndV, wOrV, wNotV, wIf, wCall, wCons, wNil, wTup, wLst, wLstM, wCB, wUn, wChain, wSl, wPart, wNo, wAsg, wgTup, wgCons, wgNil, wName, wPar, wSetIx, wAug, wDrop, wNext, wNever, wBM, wLstR1, EK.of, startG, List.map_cons, List.map_nil, List.length_cons, List.length_nil, Nat.reduceAdd, Nat.reduceSub, List.replicate, List.cons_append, List.nil_append, List.getElem?_cons_zero, List.getElem?_cons_succ, List.set_cons_zero, List.set_cons_succ, Option.some.injEq, exists_eq_left', exists_eq_left, D.bl.injEq, D.int.injEq, D.tup.injEq, D.lst.injEq, D.str.injEq, exists_and_left, if_true, Bool.false_eq_true, if_false, true_and, and_true, Int.cast_ofNat_Int, Int.reduceLT, Int.reduceLE, Int.reduceEq, Int.reduceNeg, Int.reduceAdd, Int.reduceSub, decide_true, decide_false, decide_eq_true_eq, List.getElem?_nil, reduceCtorEq, false_and, exists_false, dI_i, dIC_i, dB_i, dNeg_i, dAdd_i, dAdd_s, dAdd_t, dAdd_l, dMul_i, dMul_l, dEq_i, dEq_s, dEq_b, dNe_i, dNe_s, dNe_b, dIsN_n, dIsN_i, dIsN_l, dIsN_t, dNotN_n, dNotN_i, dNotN_l, dNotN_t, dRev_t, dIx_t, dIx_l, atI_0, atI_1, atI_2, atI_3, atI_4, rLen_s, rLen_t, rLen_l, rLen_c, rInt_i, rInt_b, rAbs_i, rList_t, rList_l, rLen_put, dIx_put, tyM_put, dIn_s, Bool.not_true, Bool.not_false]
    refine ⟨p, g, _, rfl, hb, by omega, big _ (by omega), fun S1 g1 at_ a0 a1 => ⟨p, g, _, rfl, g1.1, by decide, by decide, fun S2 g2 way y0 y1 => ⟨_, _, rfl, ?_⟩⟩⟩
    have g02 := g1.trans g2
    simp only [wRet, wSeq, wIfS, wSet, wVar, wC, wBin, wTest, wAnd, wOr, wNot, wAndV, wOrV, wNotV, wIf, wCall, wCons, wNil, wTup, wLst, wLstM, wCB, wUn, wChain, wSl, wPart, wNo, wAsg, wgTup, wgCons, wgNil, wName, wPar, wSetIx, wAug, wDrop, wNext, wNever, wBM, wLstR1, EK.of, startG, List.map_cons, List.map_nil, List.length_cons, List.length_nil, Nat.reduceAdd, Nat.reduceSub, List.replicate, List.cons_append, List.nil_append, List.getElem?_cons_zero, List.getElem?_cons_succ, List.set_cons_zero, List.set_cons_succ, Option.some.injEq, exists_eq_left', exists_eq_left, D.bl.injEq, D.int.injEq, D.tup.injEq, D.lst.injEq, D.str.injEq, exists_and_left, if_true, Bool.false_eq_true, if_false, true_and, and_true, Int.cast_ofNat_Int, Int.reduceLT, Int.reduceLE, Int.reduceEq, Int.reduceNeg, Int.reduceAdd, Int.reduceSub, decide_true, decide_false, decide_eq_true_eq, List.getElem?_nil, reduceCtorEq, false_and, exists_false, dI_i, dIC_i, dB_i, dNeg_i, dAdd_i, dAdd_s, dAdd_t, dAdd_l, dMul_i, dMul_l, dEq_i, dEq_s, dEq_b, dNe_i, dNe_s, dNe_b, dIsN_n, dIsN_i, dIsN_l, dIsN_t, dNotN_n, dNotN_i, dNotN_l, dNotN_t, dRev_t, dIx_t, dIx_l, atI_0, atI_1, atI_2, atI_3, atI_4, rLen_s, rLen_t, rLen_l, rLen_c, rInt_i, rInt_b, rAbs_i, rList_t, rList_l, rLen_put, dIx_put, tyM_put, dIn_s, Bool.not_true, Bool.not_false]
    have odd1 : ∀ x, Th 3 23 x → Th (3 * m + 20) 24 x := fun x h => h.mono (by omega) (by decide)
    refine ite2 (fun h0 => ?_) fun h0 => ?_
    · refine ⟨p, g, rfl, g02.1, fun S3 g3 x hx3 => ?_⟩
      simp only [dSl, wRet, wSeq, wIfS, wSet, wVar, wC, wBin, wTest, wAnd, wOr, wNot, wAndV, wOrV, wNotV, wIf, wCall, wCons, wNil, wTup, wLst, wLstM, wCB, wUn, wChain, wSl, wPart, wNo, wAsg, wgTup, wgCons, wgNil, wName, wPar, wSetIx, wAug, wDrop, wNext, wNever, wBM, wLstR1, EK.of, startG, List.map_cons, List.map_nil, List.length_cons, List.length_nil, Nat.reduceAdd, Nat.reduceSub, List.replicate, List.cons_append, List.nil_append, List.getElem?_cons_zero, List.getElem?_cons_succ, List.set_cons_zero, List.set_cons_succ, Option.some.injEq, exists_eq_left', exists_eq_left, D.bl.injEq, D.int.injEq, D.tup.injEq, D.lst.injEq, D.str.injEq, exists_and_left, if_true, Bool.false_eq_true, if_false, true_and, and_true, Int.cast_ofNat_Int, Int.reduceLT, Int.reduceLE, Int.reduceEq, Int.reduceNeg, Int.reduceAdd, Int.reduceSub, decide_true, decide_false, decide_eq_true_eq, List.getElem?_nil, reduceCtorEq, false_and, exists_false, dI_i, dIC_i, dB_i, dNeg_i, dAdd_i, dAdd_s, dAdd_t, dAdd_l, dMul_i, dMul_l, dEq_i, dEq_s, dEq_b, dNe_i, dNe_s, dNe_b, dIsN_n, dIsN_i, dIsN_l, dIsN_t, dNotN_n, dNotN_i, dNotN_l, dNotN_t, dRev_t, dIx_t, dIx_l, atI_0, atI_1, atI_2, atI_3, atI_4, rLen_s, rLen_t, rLen_l, rLen_c, rInt_i, rInt_b, rAbs_i, rList_t, rList_l, rLen_put, dIx_put, tyM_put, dIn_s, Bool.not_true, Bool.not_false]
      refine ⟨by decide, p, g, _, rfl, g3.1, by simp, by simp, fun S4 g4 y hy => end_id (hq S4 ((g02.trans g3).trans g4) y ?_)⟩
      have ay : Al (3 * m + 20) 25 [D.lst ts, x, D.tup (cutD ts none (some at_)), D.tup ts.reverse] :=
        al_cons (th_lst ax (by omega)) (al_cons (hx3.mono (by omega) (by decide)) (al_cons (th_tup (al_cut ax _ _) (Nat.le_trans (cl _ _) (by omega))) (al_cons (th_tup (al_rev ax) (by rw [List.length_reverse]; omega)) al_nil)))
      exact ay y hy
    have c1 := cl none (some at_)
    have c2 := cl (some at_) none
    have c3 := cl (some at_) (some (at_ + 1))
    have c4 := cl (some at_) (some (at_ + 2))
    have c5 := cl (some (at_ + 2)) none
    have c6 := cl (some (at_ + 1)) none
    have k1 := al_cut ax none (some at_)
    have k2 := al_cut ax (some at_) none
    have k3 := al_cut ax (some at_) (some (at_ + 1))
    have k4 := al_cut ax (some at_) (some (at_ + 2))
    have k5 := al_cut ax (some (at_ + 2)) none
    have k6 := al_cut ax (some (at_ + 1)) none
    simp only [wb_law_bent_5, wRet, wSeq, wIfS, wSet, wVar, wC, wBin, wTest, wAnd, wOr, wNot, wAndV, wOrV, wNotV, wIf, wCall, wCons, wNil, wTup, wLst, wLstM, wCB, wUn, wChain, wSl, wPart, wNo, wAsg, wgTup, wgCons, wgNil, wName, wPar, wSetIx, wAug, wDrop, wNext, wNever, wBM, wLstR1, EK.of, startG, List.map_cons, List.map_nil, List.length_cons, List.length_nil, Nat.reduceAdd, Nat.reduceSub, List.replicate, List.cons_append, List.nil_append, List.getElem?_cons_zero, List.getElem?_cons_succ, List.set_cons_zero, List.set_cons_succ, Option.some.injEq, exists_eq_left', exists_eq_left, D.bl.injEq, D.int.injEq, D.tup.injEq, D.lst.injEq, D.str.injEq, exists_and_left, if_true, Bool.false_eq_true, if_false, true_and, and_true, Int.cast_ofNat_Int, Int.reduceLT, Int.reduceLE, Int.reduceEq, Int.reduceNeg, Int.reduceAdd, Int.reduceSub, decide_true, decide_false, decide_eq_true_eq, List.getElem?_nil, reduceCtorEq, false_and, exists_false, dI_i, dIC_i, dB_i, dNeg_i, dAdd_i, dAdd_s, dAdd_t, dAdd_l, dMul_i, dMul_l, dEq_i, dEq_s, dEq_b, dNe_i, dNe_s, dNe_b, dIsN_n, dIsN_i, dIsN_l, dIsN_t, dNotN_n, dNotN_i, dNotN_l, dNotN_t, dRev_t, dIx_t, dIx_l, atI_0, atI_1, atI_2, atI_3, atI_4, rLen_s, rLen_t, rLen_l, rLen_c, rInt_i, rInt_b, rAbs_i, rList_t, rList_l, rLen_put, dIx_put, tyM_put, dIn_s, Bool.not_true, Bool.not_false]
    refine ite2 (fun h1 => ?_) fun h1 => ?_
    · simp only [dSl, wRet, wSeq, wIfS, wSet, wVar, wC, wBin, wTest, wAnd, wOr, wNot, wAndV, wOrV, wNotV, wIf, wCall, wCons, wNil, wTup, wLst, wLstM, wCB, wUn, wChain, wSl, wPart, wNo, wAsg, wgTup, wgCons, wgNil, wName, wPar, wSetIx, wAug, wDrop, wNext, wNever, wBM, wLstR1, EK.of, startG, List.map_cons, List.map_nil, List.length_cons, List.length_nil, Nat.reduceAdd, Nat.reduceSub, List.replicate, List.cons_append, List.nil_append, List.getElem?_cons_zero, List.getElem?_cons_succ, List.set_cons_zero, List.set_cons_succ, Option.some.injEq, exists_eq_left', exists_eq_left, D.bl.injEq, D.int.injEq, D.tup.injEq, D.lst.injEq, D.str.injEq, exists_and_left, if_true, Bool.false_eq_true, if_false, true_and, and_true, Int.cast_ofNat_Int, Int.reduceLT, Int.reduceLE, Int.reduceEq, Int.reduceNeg, Int.reduceAdd, Int.reduceSub, decide_true, decide_false, decide_eq_true_eq, List.getElem?_nil, reduceCtorEq, false_and, exists_false, dI_i, dIC_i, dB_i, dNeg_i, dAdd_i, dAdd_s, dAdd_t, dAdd_l, dMul_i, dMul_l, dEq_i, dEq_s, dEq_b, dNe_i, dNe_s, dNe_b, dIsN_n, dIsN_i, dIsN_l, dIsN_t, dNotN_n, dNotN_i, dNotN_l, dNotN_t, dRev_t, dIx_t, dIx_l, atI_0, atI_1, atI_2, atI_3, atI_4, rLen_s, rLen_t, rLen_l, rLen_c, rInt_i, rInt_b, rAbs_i, rList_t, rList_l, rLen_put, dIx_put, tyM_put, dIn_s, Bool.not_true, Bool.not_false]
      refine ⟨p, g, rfl, g02.1, fun S3 g3 x hx3 => ?_⟩
      refine ⟨by decide, sz _ (by omega), sz _ (by rw [List.length_append, List.length_singleton]; omega), out _ _ (g02.trans g3) (al_app (al_app k1 (al_cons (odd1 x hx3) al_nil)) k2) ?_⟩
      rw [List.length_append, List.length_append, List.length_singleton]
      omega
    simp only [wb_law_bent_4, wRet, wSeq, wIfS, wSet, wVar, wC, wBin, wTest, wAnd, wOr, wNot, wAndV, wOrV, wNotV, wIf, wCall, wCons, wNil, wTup, wLst, wLstM, wCB, wUn, wChain, wSl, wPart, wNo, wAsg, wgTup, wgCons, wgNil, wName, wPar, wSetIx, wAug, wDrop, wNext, wNever, wBM, wLstR1, EK.of, startG, List.map_cons, List.map_nil, List.length_cons, List.length_nil, Nat.reduceAdd, Nat.reduceSub, List.replicate, List.cons_append, List.nil_append, List.getElem?_cons_zero, List.getElem?_cons_succ, List.set_cons_zero, List.set_cons_succ, Option.some.injEq, exists_eq_left', exists_eq_left, D.bl.injEq, D.int.injEq, D.tup.injEq, D.lst.injEq, D.str.injEq, exists_and_left, if_true, Bool.false_eq_true, if_false, true_and, and_true, Int.cast_ofNat_Int, Int.reduceLT, Int.reduceLE, Int.reduceEq, Int.reduceNeg, Int.reduceAdd, Int.reduceSub, decide_true, decide_false, decide_eq_true_eq, List.getElem?_nil, reduceCtorEq, false_and, exists_false, dI_i, dIC_i, dB_i, dNeg_i, dAdd_i, dAdd_s, dAdd_t, dAdd_l, dMul_i, dMul_l, dEq_i, dEq_s, dEq_b, dNe_i, dNe_s, dNe_b, dIsN_n, dIsN_i, dIsN_l, dIsN_t, dNotN_n, dNotN_i, dNotN_l, dNotN_t, dRev_t, dIx_t, dIx_l, atI_0, atI_1, atI_2, atI_3, atI_4, rLen_s, rLen_t, rLen_l, rLen_c, rInt_i, rInt_b, rAbs_i, rList_t, rList_l, rLen_put, dIx_put, tyM_put, dIn_s, Bool.not_true, Bool.not_false]
    refine ite2 (fun h2 => ?_) fun h2 => ?_
    · simp only [dSl, wRet, wSeq, wIfS, wSet, wVar, wC, wBin, wTest, wAnd, wOr, wNot, wAndV, wOrV, wNotV, wIf, wCall, wCons, wNil, wTup, wLst, wLstM, wCB, wUn, wChain, wSl, wPart, wNo, wAsg, wgTup, wgCons, wgNil, wName, wPar, wSetIx, wAug, wDrop, wNext, wNever, wBM, wLstR1, EK.of, startG, List.map_cons, List.map_nil, List.length_cons, List.length_nil, Nat.reduceAdd, Nat.reduceSub, List.replicate, List.cons_append, List.nil_append, List.getElem?_cons_zero, List.getElem?_cons_succ, List.set_cons_zero, List.set_cons_succ, Option.some.injEq, exists_eq_left', exists_eq_left, D.bl.injEq, D.int.injEq, D.tup.injEq, D.lst.injEq, D.str.injEq, exists_and_left, if_true, Bool.false_eq_true, if_false, true_and, and_true, Int.cast_ofNat_Int, Int.reduceLT, Int.reduceLE, Int.reduceEq, Int.reduceNeg, Int.reduceAdd, Int.reduceSub, decide_true, decide_false, decide_eq_true_eq, List.getElem?_nil, reduceCtorEq, false_and, exists_false, dI_i, dIC_i, dB_i, dNeg_i, dAdd_i, dAdd_s, dAdd_t, dAdd_l, dMul_i, dMul_l, dEq_i, dEq_s, dEq_b, dNe_i, dNe_s, dNe_b, dIsN_n, dIsN_i, dIsN_l, dIsN_t, dNotN_n, dNotN_i, dNotN_l, dNotN_t, dRev_t, dIx_t, dIx_l, atI_0, atI_1, atI_2, atI_3, atI_4, rLen_s, rLen_t, rLen_l, rLen_c, rInt_i, rInt_b, rAbs_i, rList_t, rList_l, rLen_put, dIx_put, tyM_put, dIn_s, Bool.not_true, Bool.not_false]
      refine ⟨sz _ (by omega), sz _ (by rw [List.length_append]; omega), out _ _ g02 (al_app (al_app k1 k3) k2) ?_⟩
      rw [List.length_append, List.length_append]
      omega
    simp only [wb_law_bent_3, wRet, wSeq, wIfS, wSet, wVar, wC, wBin, wTest, wAnd, wOr, wNot, wAndV, wOrV, wNotV, wIf, wCall, wCons, wNil, wTup, wLst, wLstM, wCB, wUn, wChain, wSl, wPart, wNo, wAsg, wgTup, wgCons, wgNil, wName, wPar, wSetIx, wAug, wDrop, wNext, wNever, wBM, wLstR1, EK.of, startG, List.map_cons, List.map_nil, List.length_cons, List.length_nil, Nat.reduceAdd, Nat.reduceSub, List.replicate, List.cons_append, List.nil_append, List.getElem?_cons_zero, List.getElem?_cons_succ, List.set_cons_zero, List.set_cons_succ, Option.some.injEq, exists_eq_left', exists_eq_left, D.bl.injEq, D.int.injEq, D.tup.injEq, D.lst.injEq, D.str.injEq, exists_and_left, if_true, Bool.false_eq_true, if_false, true_and, and_true, Int.cast_ofNat_Int, Int.reduceLT, Int.reduceLE, Int.reduceEq, Int.reduceNeg, Int.reduceAdd, Int.reduceSub, decide_true, decide_false, decide_eq_true_eq, List.getElem?_nil, reduceCtorEq, false_and, exists_false, dI_i, dIC_i, dB_i, dNeg_i, dAdd_i, dAdd_s, dAdd_t, dAdd_l, dMul_i, dMul_l, dEq_i, dEq_s, dEq_b, dNe_i, dNe_s, dNe_b, dIsN_n, dIsN_i, dIsN_l, dIsN_t, dNotN_n, dNotN_i, dNotN_l, dNotN_t, dRev_t, dIx_t, dIx_l, atI_0, atI_1, atI_2, atI_3, atI_4, rLen_s, rLen_t, rLen_l, rLen_c, rInt_i, rInt_b, rAbs_i, rList_t, rList_l, rLen_put, dIx_put, tyM_put, dIn_s, Bool.not_true, Bool.not_false]
    refine ite2 (fun h3 => ?_) fun h3 => ?_
    · simp only [dSl, wRet, wSeq, wIfS, wSet, wVar, wC, wBin, wTest, wAnd, wOr, wNot, wAndV, wOrV, wNotV, wIf, wCall, wCons, wNil, wTup, wLst, wLstM, wCB, wUn, wChain, wSl, wPart, wNo, wAsg, wgTup, wgCons, wgNil, wName, wPar, wSetIx, wAug, wDrop, wNext, wNever, wBM, wLstR1, EK.of, startG, List.map_cons, List.map_nil, List.length_cons, List.length_nil, Nat.reduceAdd, Nat.reduceSub, List.replicate, List.cons_append, List.nil_append, List.getElem?_cons_zero, List.getElem?_cons_succ, List.set_cons_zero, List.set_cons_succ, Option.some.injEq, exists_eq_left', exists_eq_left, D.bl.injEq, D.int.injEq, D.tup.injEq, D.lst.injEq, D.str.injEq, exists_and_left, if_true, Bool.false_eq_true, if_false, true_and, and_true, Int.cast_ofNat_Int, Int.reduceLT, Int.reduceLE, Int.reduceEq, Int.reduceNeg, Int.reduceAdd, Int.reduceSub, decide_true, decide_false, decide_eq_true_eq, List.getElem?_nil, reduceCtorEq, false_and, exists_false, dI_i, dIC_i, dB_i, dNeg_i, dAdd_i, dAdd_s, dAdd_t, dAdd_l, dMul_i, dMul_l, dEq_i, dEq_s, dEq_b, dNe_i, dNe_s, dNe_b, dIsN_n, dIsN_i, dIsN_l, dIsN_t, dNotN_n, dNotN_i, dNotN_l, dNotN_t, dRev_t, dIx_t, dIx_l, atI_0, atI_1, atI_2, atI_3, atI_4, rLen_s, rLen_t, rLen_l, rLen_c, rInt_i, rInt_b, rAbs_i, rList_t, rList_l, rLen_put, dIx_put, tyM_put, dIn_s, Bool.not_true, Bool.not_false]
      refine ⟨sz _ (by rw [List.length_reverse]; omega), sz _ (by rw [List.length_append, List.length_reverse]; omega), out _ _ g02 (al_app (al_app k1 (al_rev k4)) k5) ?_⟩
      rw [List.length_append, List.length_append, List.length_reverse]
      omega
    simp only [wb_law_bent_2, wRet, wSeq, wIfS, wSet, wVar, wC, wBin, wTest, wAnd, wOr, wNot, wAndV, wOrV, wNotV, wIf, wCall, wCons, wNil, wTup, wLst, wLstM, wCB, wUn, wChain, wSl, wPart, wNo, wAsg, wgTup, wgCons, wgNil, wName, wPar, wSetIx, wAug, wDrop, wNext, wNever, wBM, wLstR1, EK.of, startG, List.map_cons, List.map_nil, List.length_cons, List.length_nil, Nat.reduceAdd, Nat.reduceSub, List.replicate, List.cons_append, List.nil_append, List.getElem?_cons_zero, List.getElem?_cons_succ, List.set_cons_zero, List.set_cons_succ, Option.some.injEq, exists_eq_left', exists_eq_left, D.bl.injEq, D.int.injEq, D.tup.injEq, D.lst.injEq, D.str.injEq, exists_and_left, if_true, Bool.false_eq_true, if_false, true_and, and_true, Int.cast_ofNat_Int, Int.reduceLT, Int.reduceLE, Int.reduceEq, Int.reduceNeg, Int.reduceAdd, Int.reduceSub, decide_true, decide_false, decide_eq_true_eq, List.getElem?_nil, reduceCtorEq, false_and, exists_false, dI_i, dIC_i, dB_i, dNeg_i, dAdd_i, dAdd_s, dAdd_t, dAdd_l, dMul_i, dMul_l, dEq_i, dEq_s, dEq_b, dNe_i, dNe_s, dNe_b, dIsN_n, dIsN_i, dIsN_l, dIsN_t, dNotN_n, dNotN_i, dNotN_l, dNotN_t, dRev_t, dIx_t, dIx_l, atI_0, atI_1, atI_2, atI_3, atI_4, rLen_s, rLen_t, rLen_l, rLen_c, rInt_i, rInt_b, rAbs_i, rList_t, rList_l, rLen_put, dIx_put, tyM_put, dIn_s, Bool.not_true, Bool.not_false]
    refine ite2 (fun h4 => ?_) fun h4 => ?_
    · simp only [dSl, wRet, wSeq, wIfS, wSet, wVar, wC, wBin, wTest, wAnd, wOr, wNot, wAndV, wOrV, wNotV, wIf, wCall, wCons, wNil, wTup, wLst, wLstM, wCB, wUn, wChain, wSl, wPart, wNo, wAsg, wgTup, wgCons, wgNil, wName, wPar, wSetIx, wAug, wDrop, wNext, wNever, wBM, wLstR1, EK.of, startG, List.map_cons, List.map_nil, List.length_cons, List.length_nil, Nat.reduceAdd, Nat.reduceSub, List.replicate, List.cons_append, List.nil_append, List.getElem?_cons_zero, List.getElem?_cons_succ, List.set_cons_zero, List.set_cons_succ, Option.some.injEq, exists_eq_left', exists_eq_left, D.bl.injEq, D.int.injEq, D.tup.injEq, D.lst.injEq, D.str.injEq, exists_and_left, if_true, Bool.false_eq_true, if_false, true_and, and_true, Int.cast_ofNat_Int, Int.reduceLT, Int.reduceLE, Int.reduceEq, Int.reduceNeg, Int.reduceAdd, Int.reduceSub, decide_true, decide_false, decide_eq_true_eq, List.getElem?_nil, reduceCtorEq, false_and, exists_false, dI_i, dIC_i, dB_i, dNeg_i, dAdd_i, dAdd_s, dAdd_t, dAdd_l, dMul_i, dMul_l, dEq_i, dEq_s, dEq_b, dNe_i, dNe_s, dNe_b, dIsN_n, dIsN_i, dIsN_l, dIsN_t, dNotN_n, dNotN_i, dNotN_l, dNotN_t, dRev_t, dIx_t, dIx_l, atI_0, atI_1, atI_2, atI_3, atI_4, rLen_s, rLen_t, rLen_l, rLen_c, rInt_i, rInt_b, rAbs_i, rList_t, rList_l, rLen_put, dIx_put, tyM_put, dIn_s, Bool.not_true, Bool.not_false]
      refine ⟨sz _ (by omega), out _ _ g02 (al_app k1 k6) ?_⟩
      rw [List.length_append]
      omega
    have last : wb_law_bent_0 w kl sp_law_pick sp_odd sp_law_some sp_curve (NN (PL.End Q)) (EE E) [some (D.ref p), some (D.tup ts), some (D.int at_), some (D.int way), none, none, none] S2 := by
      simp only [wb_law_bent_0, wRet, wSeq, wIfS, wSet, wVar, wC, wBin, wTest, wAnd, wOr, wNot, wAndV, wOrV, wNotV, wIf, wCall, wCons, wNil, wTup, wLst, wLstM, wCB, wUn, wChain, wSl, wPart, wNo, wAsg, wgTup, wgCons, wgNil, wName, wPar, wSetIx, wAug, wDrop, wNext, wNever, wBM, wLstR1, EK.of, startG, List.map_cons, List.map_nil, List.length_cons, List.length_nil, Nat.reduceAdd, Nat.reduceSub, List.replicate, List.cons_append, List.nil_append, List.getElem?_cons_zero, List.getElem?_cons_succ, List.set_cons_zero, List.set_cons_succ, Option.some.injEq, exists_eq_left', exists_eq_left, D.bl.injEq, D.int.injEq, D.tup.injEq, D.lst.injEq, D.str.injEq, exists_and_left, if_true, Bool.false_eq_true, if_false, true_and, and_true, Int.cast_ofNat_Int, Int.reduceLT, Int.reduceLE, Int.reduceEq, Int.reduceNeg, Int.reduceAdd, Int.reduceSub, decide_true, decide_false, decide_eq_true_eq, List.getElem?_nil, reduceCtorEq, false_and, exists_false, dI_i, dIC_i, dB_i, dNeg_i, dAdd_i, dAdd_s, dAdd_t, dAdd_l, dMul_i, dMul_l, dEq_i, dEq_s, dEq_b, dNe_i, dNe_s, dNe_b, dIsN_n, dIsN_i, dIsN_l, dIsN_t, dNotN_n, dNotN_i, dNotN_l, dNotN_t, dRev_t, dIx_t, dIx_l, atI_0, atI_1, atI_2, atI_3, atI_4, rLen_s, rLen_t, rLen_l, rLen_c, rInt_i, rInt_b, rAbs_i, rList_t, rList_l, rLen_put, dIx_put, tyM_put, dIn_s, Bool.not_true, Bool.not_false]
      refine ⟨p, g, 8, rfl, g02.1, by decide, fun S3 g3 ds hds => ⟨sz _ (by have := hds.len; omega), out _ _ (g02.trans g3) (al_app ax (crv_th hds (by omega) (by decide))) ?_⟩⟩
      have := hds.len
      rw [List.length_append]
      omega
    simp only [wb_law_bent_1, wRet, wSeq, wIfS, wSet, wVar, wC, wBin, wTest, wAnd, wOr, wNot, wAndV, wOrV, wNotV, wIf, wCall, wCons, wNil, wTup, wLst, wLstM, wCB, wUn, wChain, wSl, wPart, wNo, wAsg, wgTup, wgCons, wgNil, wName, wPar, wSetIx, wAug, wDrop, wNext, wNever, wBM, wLstR1, EK.of, startG, List.map_cons, List.map_nil, List.length_cons, List.length_nil, Nat.reduceAdd, Nat.reduceSub, List.replicate, List.cons_append, List.nil_append, List.getElem?_cons_zero, List.getElem?_cons_succ, List.set_cons_zero, List.set_cons_succ, Option.some.injEq, exists_eq_left', exists_eq_left, D.bl.injEq, D.int.injEq, D.tup.injEq, D.lst.injEq, D.str.injEq, exists_and_left, if_true, Bool.false_eq_true, if_false, true_and, and_true, Int.cast_ofNat_Int, Int.reduceLT, Int.reduceLE, Int.reduceEq, Int.reduceNeg, Int.reduceAdd, Int.reduceSub, decide_true, decide_false, decide_eq_true_eq, List.getElem?_nil, reduceCtorEq, false_and, exists_false, dI_i, dIC_i, dB_i, dNeg_i, dAdd_i, dAdd_s, dAdd_t, dAdd_l, dMul_i, dMul_l, dEq_i, dEq_s, dEq_b, dNe_i, dNe_s, dNe_b, dIsN_n, dIsN_i, dIsN_l, dIsN_t, dNotN_n, dNotN_i, dNotN_l, dNotN_t, dRev_t, dIx_t, dIx_l, atI_0, atI_1, atI_2, atI_3, atI_4, rLen_s, rLen_t, rLen_l, rLen_c, rInt_i, rInt_b, rAbs_i, rList_t, rList_l, rLen_put, dIx_put, tyM_put, dIn_s, Bool.not_true, Bool.not_false]
    refine ite2 (fun h5 => ?_) fun h5 => last
    obtain ⟨n, rfl⟩ : ∃ n : Nat, at_ = (n : Nat) := ⟨at_.toNat, by omega⟩
    have hn : n < ts.length := by omega
    have en : ts[n]? = some ts[n] := List.getElem?_eq_getElem hn
    have hd1 : Th m 24 ts[n] := hx _ (List.getElem_mem hn)
    refine dIxA_t.mpr ⟨_, by rw [PL.atI_nat]; exact en, (rIsi_tuple hd1.pl).mpr ⟨_, rfl, iteB (fun h6 => ?_) fun h6 => last⟩⟩
    obtain ⟨xs, hxs, hl3, hx3⟩ := tup_of hd1 h6
    rw [hxs] at en
    refine dIxA_t.mpr ⟨_, by rw [PL.atI_nat]; exact en, ?_⟩
    simp only [wRet, wSeq, wIfS, wSet, wVar, wC, wBin, wTest, wAnd, wOr, wNot, wAndV, wOrV, wNotV, wIf, wCall, wCons, wNil, wTup, wLst, wLstM, wCB, wUn, wChain, wSl, wPart, wNo, wAsg, wgTup, wgCons, wgNil, wName, wPar, wSetIx, wAug, wDrop, wNext, wNever, wBM, wLstR1, EK.of, startG, List.map_cons, List.map_nil, List.length_cons, List.length_nil, Nat.reduceAdd, Nat.reduceSub, List.replicate, List.cons_append, List.nil_append, List.getElem?_cons_zero, List.getElem?_cons_succ, List.set_cons_zero, List.set_cons_succ, Option.some.injEq, exists_eq_left', exists_eq_left, D.bl.injEq, D.int.injEq, D.tup.injEq, D.lst.injEq, D.str.injEq, exists_and_left, if_true, Bool.false_eq_true, if_false, true_and, and_true, Int.cast_ofNat_Int, Int.reduceLT, Int.reduceLE, Int.reduceEq, Int.reduceNeg, Int.reduceAdd, Int.reduceSub, decide_true, decide_false, decide_eq_true_eq, List.getElem?_nil, reduceCtorEq, false_and, exists_false, dI_i, dIC_i, dB_i, dNeg_i, dAdd_i, dAdd_s, dAdd_t, dAdd_l, dMul_i, dMul_l, dEq_i, dEq_s, dEq_b, dNe_i, dNe_s, dNe_b, dIsN_n, dIsN_i, dIsN_l, dIsN_t, dNotN_n, dNotN_i, dNotN_l, dNotN_t, dRev_t, dIx_t, dIx_l, atI_0, atI_1, atI_2, atI_3, atI_4, rLen_s, rLen_t, rLen_l, rLen_c, rInt_i, rInt_b, rAbs_i, rList_t, rList_l, rLen_put, dIx_put, tyM_put, dIn_s, Bool.not_true, Bool.not_false]
    refine ite2 (fun h7 => ?_) fun h7 => last
    refine dIxA_t.mpr ⟨_, by rw [PL.atI_nat]; exact en, ?_⟩
    refine ⟨p, g, _, rfl, g02.1, by decide, by decide, fun S3 g3 pt _ _ => ⟨_, _, rfl, _, rfl, ?_⟩⟩
    simp only [dSl, wRet, wSeq, wIfS, wSet, wVar, wC, wBin, wTest, wAnd, wOr, wNot, wAndV, wOrV, wNotV, wIf, wCall, wCons, wNil, wTup, wLst, wLstM, wCB, wUn, wChain, wSl, wPart, wNo, wAsg, wgTup, wgCons, wgNil, wName, wPar, wSetIx, wAug, wDrop, wNext, wNever, wBM, wLstR1, EK.of, startG, List.map_cons, List.map_nil, List.length_cons, List.length_nil, Nat.reduceAdd, Nat.reduceSub, List.replicate, List.cons_append, List.nil_append, List.getElem?_cons_zero, List.getElem?_cons_succ, List.set_cons_zero, List.set_cons_succ, Option.some.injEq, exists_eq_left', exists_eq_left, D.bl.injEq, D.int.injEq, D.tup.injEq, D.lst.injEq, D.str.injEq, exists_and_left, if_true, Bool.false_eq_true, if_false, true_and, and_true, Int.cast_ofNat_Int, Int.reduceLT, Int.reduceLE, Int.reduceEq, Int.reduceNeg, Int.reduceAdd, Int.reduceSub, decide_true, decide_false, decide_eq_true_eq, List.getElem?_nil, reduceCtorEq, false_and, exists_false, dI_i, dIC_i, dB_i, dNeg_i, dAdd_i, dAdd_s, dAdd_t, dAdd_l, dMul_i, dMul_l, dEq_i, dEq_s, dEq_b, dNe_i, dNe_s, dNe_b, dIsN_n, dIsN_i, dIsN_l, dIsN_t, dNotN_n, dNotN_i, dNotN_l, dNotN_t, dRev_t, dIx_t, dIx_l, atI_0, atI_1, atI_2, atI_3, atI_4, rLen_s, rLen_t, rLen_l, rLen_c, rInt_i, rInt_b, rAbs_i, rList_t, rList_l, rLen_put, dIx_put, tyM_put, dIn_s, Bool.not_true, Bool.not_false]
    refine ⟨p, g, rfl, g3.1, fun S4 g4 y hy => ?_⟩
    have lx : xs.length = 3 := by omega
    have clx : ∀ lo hi, (cutD xs lo hi).length ≤ 3 := fun lo hi => lx ▸ cutD_len xs lo hi
    have x1 := clx none (some pt)
    have x2 := clx (some (pt + 1)) none
    have ax3 : Al (3 * m + 20) 23 xs := al_mono (m := m) (n := 23) hx3 (by omega) (Nat.le_refl _)
    simp only [dSl, wRet, wSeq, wIfS, wSet, wVar, wC, wBin, wTest, wAnd, wOr, wNot, wAndV, wOrV, wNotV, wIf, wCall, wCons, wNil, wTup, wLst, wLstM, wCB, wUn, wChain, wSl, wPart, wNo, wAsg, wgTup, wgCons, wgNil, wName, wPar, wSetIx, wAug, wDrop, wNext, wNever, wBM, wLstR1, EK.of, startG, List.map_cons, List.map_nil, List.length_cons, List.length_nil, Nat.reduceAdd, Nat.reduceSub, List.replicate, List.cons_append, List.nil_append, List.getElem?_cons_zero, List.getElem?_cons_succ, List.set_cons_zero, List.set_cons_succ, Option.some.injEq, exists_eq_left', exists_eq_left, D.bl.injEq, D.int.injEq, D.tup.injEq, D.lst.injEq, D.str.injEq, exists_and_left, if_true, Bool.false_eq_true, if_false, true_and, and_true, Int.cast_ofNat_Int, Int.reduceLT, Int.reduceLE, Int.reduceEq, Int.reduceNeg, Int.reduceAdd, Int.reduceSub, decide_true, decide_false, decide_eq_true_eq, List.getElem?_nil, reduceCtorEq, false_and, exists_false, dI_i, dIC_i, dB_i, dNeg_i, dAdd_i, dAdd_s, dAdd_t, dAdd_l, dMul_i, dMul_l, dEq_i, dEq_s, dEq_b, dNe_i, dNe_s, dNe_b, dIsN_n, dIsN_i, dIsN_l, dIsN_t, dNotN_n, dNotN_i, dNotN_l, dNotN_t, dRev_t, dIx_t, dIx_l, atI_0, atI_1, atI_2, atI_3, atI_4, rLen_s, rLen_t, rLen_l, rLen_c, rInt_i, rInt_b, rAbs_i, rList_t, rList_l, rLen_put, dIx_put, tyM_put, dIn_s, Bool.not_true, Bool.not_false]
    refine ⟨by decide, sz _ (by omega), sz _ (by rw [List.length_append, List.length_singleton]; omega), by decide, sz _ (by omega), by decide, p, g, _, rfl, g4.1, by simp, by simp, fun S5 g5 z hz => ?_⟩
    have ot : Th (3 * m + 20) 24 (.tup (cutD xs none (some pt) ++ [y] ++ cutD xs (some (pt + 1)) none)) :=
      th_tup (al_app (al_app (al_cut ax3 _ _) (al_cons (hy.mono (by omega) (Nat.le_refl _)) al_nil)) (al_cut ax3 _ _)) (by rw [List.length_append, List.length_append, List.length_singleton]; omega)
    have a5 : Al (3 * m + 20) 24 [D.tup (cutD xs none (some pt) ++ [y] ++ cutD xs (some (pt + 1)) none), D.tup (cutD xs none (some pt) ++ [y] ++ cutD xs (some (pt + 1)) none), D.lst xs, D.tup (cutD xs none (some 2)), D.tup (xs ++ [D.int 0])] :=
      al_cons ot (al_cons ot (al_cons (th_lst ax3 (by omega)) (al_cons (th_tup (al_cut ax3 _ _) (by have := clx none (some 2); omega)) (al_cons (th_tup (al_app ax3 (al_cons (.int _ (by decide)) al_nil)) (by rw [List.length_append, List.length_singleton]; omega)) al_nil))))
    refine ⟨by decide, sz _ (by omega), sz _ (by rw [List.length_append, List.length_singleton]; omega), out _ _ (((g02.trans g3).trans g4).trans g5) (al_app (al_app k1 (al_cons (a5 z hz) al_nil)) k6) ?_⟩
    rw [List.length_append, List.length_append, List.length_singleton]
    omega
end K01
end
/-! from PLXk.lean -/
section
/-! PLXk: the head's hook with tables of code objects; tests for classes. -/
namespace PL
open PySem PySem.Spec PyProof.Rows L2
variable [TabCtx]
/-- not the table of a code object -/
def noTabO (g : Addr → Option Obj) (a : Addr) : Bool := match g a with
  | some ⟨.none, _, .fields _, _⟩ => false
  | _ => true
def reachT (g : Addr → Option Obj) (n : Nat) : List Addr := (reachX g n).filter (noTabO g)
abbrev AlT : Type := AlX × List (Option Obj)
def tabP (K : PySem.W.Frag) (x : Str) : Addr := match PySem.W.tabIn K x with
  | some (_, p) => p
  | none => 0
def seenT (fa : List He.Fa) (fn : List He.DefD) (fi : List IniD) (ex : PySem.W.Frag → Bool) (xs : List Str) (K : PySem.W.Frag) (g : Addr → Option Obj) : AlT := (seenX fa fn fi ex K, xs.map fun x => g (tabP K x))
def valT (fn : List He.DefD) (fi : List IniD) (xs : List Str) : AlT := (valX fn fi, xs.map fun _ => some (PySem.W.tabObj #[]))
def seenTG (n : Nat) (fa : List He.Fa) (fn : List He.DefD) (fi : List IniD) (ex : PySem.W.Frag → Bool) (xs : List Str) (g : Addr → Option Obj) : AlT := seenT fa fn fi ex xs (He.frG g (reachT g n)) g
theorem frG_mem {g : Addr → Option Obj} {a : Addr} {o : Obj} : ∀ as : List Addr, (He.frG g as).lookup a = some o → a ∈ as
  | [], e => nomatch (show (none : Option Obj) = some o from e)
  | b :: r, e => by
    unfold He.frG at e
    rw [List.filterMap_cons] at e
    cases hb : g b with
    | none =>
      rw [hb] at e
      exact List.mem_cons_of_mem _ (frG_mem r e)
    | some ob =>
      rw [hb] at e
      simp only [Option.map_some, List.lookup_cons] at e
      cases q : (a == b) with
      | true => rw [beq_iff_eq.mp q]; exact List.mem_cons_self
      | false =>
        rw [q] at e
        exact List.mem_cons_of_mem _ (frG_mem r e)
structure SeenT (fa : List He.Fa) (fn : List He.DefD) (fi : List IniD) (ex : PySem.W.Frag → Bool) (xs : List Str) (K : PySem.W.Frag) (h : Heap) : Prop where
  x : SeenX fa fn fi ex K
  tab : ∀ x ∈ xs, h.get? (tabP K x) = some (PySem.W.tabObj #[]) ∧ K.lookup (tabP K x) = none
def hookT (n : Nat) (fa : List He.Fa) (fn : List He.DefD) (fi : List IniD) (ex : PySem.W.Frag → Bool) (xs : List Str) : PySem.W.Hook where
  α := AlT
  obs := fun s => seenTG n fa fn fi ex xs s.heap.get?
  val := fun _ => valT fn fi xs
  says := fun _ h => ∃ K : PySem.W.Frag, K.In h ∧ SeenT fa fn fi ex xs K h
  of := fun _ s e => ⟨_, He.frG_in, congrArg (fun z : AlT => z.1) e, fun x hx => by
    have e2 : xs.map (fun x => s.heap.get? (tabP (He.frG s.heap.get? (reachT s.heap.get? n)) x)) = xs.map fun _ => some (PySem.W.tabObj #[]) := congrArg (fun z : AlT => z.2) e
    have e3 := List.map_inj_left.mp e2 x hx
    refine ⟨e3, ?_⟩
    cases q : List.lookup (tabP (He.frG s.heap.get? (reachT s.heap.get? n)) x) (He.frG s.heap.get? (reachT s.heap.get? n)) with
    | none => rfl
    | some o =>
      have m := frG_mem _ q
      have m2 := (List.mem_filter.mp m).2
      unfold noTabO at m2
      rw [e3] at m2
      cases m2⟩
  keeps := fun _ _ _ ⟨K, inK, c⟩ kp => ⟨K, PySem.W.Frag.In.keeps inK kp, c.x, fun x hx => ⟨kp _ _ (c.tab x hx).1, (c.tab x hx).2⟩⟩
theorem seenTG_eq {n : Nat} {fa : List He.Fa} {fn : List He.DefD} {fi : List IniD} {ex : PySem.W.Frag → Bool} {xs : List Str} {g : Addr → Option Obj} {s : Shared} (h : ∀ a, g a = s.heap.get? a) : seenTG n fa fn fi ex xs g = (hookT n fa fn fi ex xs).obs s := by
  obtain rfl : g = s.heap.get? := funext h
  rfl
/-- a def's code object and its table -/
def tabOk (K : PySem.W.Frag) (x : Str) : Bool := match PySem.W.tabIn K x with
  | some (c, p) => PySem.W.codeHdIn K c p
  | none => false
theorem tabOk_ok {K : PySem.W.Frag} {x : Str} (h : tabOk K x = true) : ∃ c, PySem.W.tabIn K x = some (c, tabP K x) ∧ PySem.W.codeHdIn K c (tabP K x) = true := by
  unfold tabOk at h
  unfold tabP
  split at h
  · rename_i c p e
    rw [e]
    exact ⟨c, rfl, h⟩
  · cases h
theorem txC {K : PySem.W.Frag} {h : Heap} {mg : Str → Option Value} {x : Str} {st : Stmt} {c p : Addr} (X : K.In h) (G : h.Ns mainGlobals mg) (t : Tx1 K mg x st) (e : PySem.W.tabIn K x = some (c, p)) : TxC K mg x st c := by
  obtain ⟨f, fd, hm, F⟩ := t
  obtain ⟨oc, od, dV, kV, doc, pm, an, cdv, ct, osl, rfl, lk, hcd, h1, h2⟩ := F.ex
  exact ⟨f, _, hm, F, PySem.W.law_code X G e hm (X _ _ lk) rfl⟩
/-! tests of classes -/
def kc1B (K : PySem.W.Frag) (C : Addr) : Bool := He.eqO (PySem.W.findIn K (.ref C) "__class__") (some (some (.builtin "object.__class__"))) && (He.eqO (PySem.W.specialIn K (.builtin "object.__class__") "__get__") (some (some (.builtin "getset_descriptor.__get__"))) && (decide (PySem.W.takesIn K (.builtin "object.__class__") = some true) && decide (PySem.W.mroIn K C (.type "object") = some true)))
theorem kc1B_ok {K : PySem.W.Frag} {C : Addr} (c : Cls K C) (h : kc1B K C = true) : KcOk K C := by
  obtain ⟨h1, h⟩ := He.ba h
  obtain ⟨h2, h⟩ := He.ba h
  obtain ⟨h3, h4⟩ := He.ba h
  exact ⟨c, He.eqO_ok h1, He.eqO_ok h2, of_decide_eq_true h3, of_decide_eq_true h4⟩
def isiB (K : PySem.W.Frag) (cs : List Addr) (sub : Addr → Addr → Bool) : Bool := cs.all fun C => kc1B K C && (tyNames.all (fun T => decide (PySem.W.kitOne K (.ref C) (.type T) = some false)) && (tyNames.all (fun T => decide (PySem.W.kitOne K (.type T) (.ref C) = some false)) && cs.all fun C' => decide (PySem.W.kitOne K (.ref C) (.ref C') = some (sub C C'))))
theorem isiB_ok {K : PySem.W.Frag} {cs : List Addr} {sub : Addr → Addr → Bool} (hc : ∀ C ∈ cs, Cls K C) (h : isiB K cs sub = true) : IsiOk K cs sub := by
  have h2 := fun C hC => He.ba (List.all_eq_true.mp h C hC)
  exact ⟨fun C hC => kc1B_ok (hc C hC) (h2 C hC).1, fun C hC T hT => of_decide_eq_true (List.all_eq_true.mp (He.ba (h2 C hC).2).1 T hT), fun C hC T hT => of_decide_eq_true (List.all_eq_true.mp (He.ba (He.ba (h2 C hC).2).2).1 T hT), fun C hC C' hC' => of_decide_eq_true (List.all_eq_true.mp (He.ba (He.ba (h2 C hC).2).2).2 C' hC')⟩
def xf1B (K : PySem.W.Frag) (C : Addr) (f : Str) : Bool := xfB K C && He.eqO (PySem.W.findIn K (.ref C) f) (some none)
theorem xf1B_ok {K : PySem.W.Frag} {C : Addr} {f : Str} (h : xf1B K C f = true) : XfC K C ∧ PySem.W.findIn K (.ref C) f = some none := ⟨xfB_ok (He.ba h).1, He.eqO_ok (He.ba h).2⟩
section
variable {P : Program} {w : World} {K : PySem.W.Frag} {mg : Str → Option Value} {base : Heap} {k : Nat} {x : Str} {ps N : List Str} {sp : PSp} {st : Stmt} {wb : WS} {f : Addr} {fd : FuncData}
/-- a def at a known place, whose end is seen from outside -/
theorem fnE (F : FunD K x x (defArgs st) (defBody st) (defScope st) [] [] f fd) (S : FnScope N ps (defScope st)) (D : Dv P w K mg base N x st k wb)
    (len : ∀ ds S Q E, sp ds S Q E → ds.length = ps.length) (pure : ∀ ds S Q E, sp ds S Q E → wb { nx := fun _ S' => End Q .non S', rt := End Q } (fun c fs _ S' => E c fs S') (startG N ds) S) : FnOk P w K mg base (L2.CX P w) (k + 1) f fd ps (liftSp K sp) := by
  have h4 : FnOk P w K mg base (L2.CX P w) (k + 1) f fd ps (liftSp K (endSp sp)) := fn_pl F S (fun ds S Q E ⟨Q0, h, _⟩ => len ds S Q0 E h) (fun cd A outer s H E b => D f cd A outer s H E b) fun ds S Q E ⟨Q0, h, e⟩ => by
    subst e
    exact pure ds S Q0 E h
  exact FnOk.imp h4 fun vs H Q E ⟨M, S, ds, Q', E', r, hd, hs, oq, ox⟩ => ⟨M, S, ds, End Q', E', r, hd, ⟨Q', hs, rfl⟩, okQ_end oq, ox⟩
end
section
variable {K : PySem.W.Frag} {h : Heap} {mg : Str → Option Value}
theorem gl_clsT (X : K.In h) (G : h.Ns mainGlobals mg) {x : Str} (c : (He.Fa.glo x).ok K = true) : GlD K mg x (.raw (.ref (He.ga K x))) := ⟨.ref (He.ga K x), _, He.glo_ok X G c, rfl, fun M H => by simp only [Den]⟩
theorem fldOk_of {cs : List Addr} {f : Str} (h : ∀ C ∈ cs, Cls K C ∧ NoAttr K C f) : FldOk K cs f := h
end
end PL
end
/-! from K01k.lean -/
section
set_option exponentiation.threshold 10000
namespace K01
open PySem L2 PL LamX
variable [TabCtx]
variable {P : Program} {w : World} {kl : Str → Addr} {K : PySem.W.Frag} {mg : Str → Option Value} {base : Heap} {k : Nat}
theorem crv_py : ∀ ds : List D, (∀ d ∈ ds, tmB d = true ∧ Th 3 2 d) → ∃ ps, toPyL ds = some ps ∧ PyData.canLayAll0 ps = true ∧ PyData.depthAll ps ≤ 2 ∧ PyData.eqvAll ps ps = true
  | [], _ => ⟨[], by simp [toPyL], by simp [PyData.canLayAll0], by simp [PyData.depthAll], by simp [PyData.eqvAll]⟩
  | d :: ds, h => by
    obtain ⟨ps, h1, h2, h3, h4⟩ := crv_py ds fun x hx => h x (List.mem_cons_of_mem _ hx)
    have hd := h d List.mem_cons_self
    obtain ⟨a, b, kx, i, j, rfl, _⟩ := tm_of hd.2 hd.1
    refine ⟨.tuple [.tuple [.int a, .int b], .int kx, .tuple [.int i, .int j]] :: ps, by simp [toPyL, toPy, h1], by simp [PyData.canLayAll0, PyData.canLay0, h2], ?_, by simp [PyData.eqvAll, PyData.eqv, h4]⟩
    simp only [PyData.depthAll, PyData.depth]
    exact Nat.max_le.mpr ⟨by decide, h3⟩
structure PyOk (ds : List D) (p : PyData) : Prop where
  py : toPy (.tup ds) = some p
  sh : SeqAt.shaped p = true
  re : PyData.eqv p p = true
theorem crv_ok {n : Nat} {ds : List D} (h : CrvOk n ds) : ∃ p, PyOk ds p := by
  obtain ⟨ps, h1, h2, h3, h4⟩ := crv_py ds h.tm
  refine ⟨.tuple ps, by simp [toPy, h1], ?_, by simp [PyData.eqv, h4]⟩
  simp only [SeqAt.shaped, PyData.canLay0, PyData.depth, h2, Bool.true_and]
  exact decide_eq_true (Nat.le_trans (Nat.add_le_add_right h3 1) (show 2 + 1 ≤ 64 by decide))
theorem judL_ok : ∀ (ds : List D) (o : Option D) (i : Nat), (∀ d ∈ ds, tmB d = true) → ds.Pairwise (fun a b => ahB a b = true) → (∀ p, o = some p → ∀ d, ds.head? = some d → ahB p d = true) → judL o i ds = none
  | [], _, _, _, _, _ => rfl
  | d :: ds, o, i, h1, h2, h3 => by
    rw [judL_cons, if_pos]
    · refine judL_ok ds (some d) (i + 1) (fun x hx => h1 x (List.mem_cons_of_mem _ hx)) (List.pairwise_cons.mp h2).2 fun p hp x hx => ?_
      cases hp
      exact (List.pairwise_cons.mp h2).1 x (List.mem_of_mem_head? hx)
    · rw [h1 d List.mem_cons_self, Bool.true_and]
      cases o with
      | none => rfl
      | some p => exact h3 p rfl d rfl
theorem judge_ok {n : Nat} {ds : List D} (h : CrvOk n ds) (hn : n ≤ 8) : judge (.tup ds) = none := by
  have : judge (.tup ds) = (judL none 0 ds).map fun i => (i : Int) := if_neg (by have := h.len; omega)
  rw [this, judL_ok ds none 0 (fun d hd => (h.tm d hd).1) h.ah (fun p hp => by cases hp)]
  rfl
theorem th_crv {n : Nat} {ds : List D} (h : CrvOk n ds) (hn : n ≤ 8) : Th 8 3 (.tup ds) := th_tup (crv_th h (by decide) (by decide)) (by have := h.len; omega)
theorem judL_hi : ∀ (ds : List D) (o : Option D) (i n : Nat), judL o i ds = some n → n < i + ds.length
  | [], _, _, _, h => by cases h
  | d :: ds, o, i, n, h => by
    obtain ⟨b, hb⟩ : ∃ b : Bool, judL o i (d :: ds) = if b = true then judL (some d) (i + 1) ds else some i := ⟨_, judL_cons o i d ds⟩
    rw [hb] at h
    rw [List.length_cons]
    cases b with
    | true =>
      rw [if_pos rfl] at h
      have := judL_hi ds (some d) (i + 1) n h
      omega
    | false =>
      rw [if_neg (by decide)] at h
      cases h
      omega
theorem judge_cases (d : D) : judge d = some (-1) ∨ ∃ ds, d = .tup ds ∧ ds.length ≤ 8 ∧ judge d = (judL none 0 ds).map fun i => (i : Int) := by
  cases d with
  | tup ds =>
    by_cases h : 8 < ds.length
    · exact .inl (if_pos h)
    · exact .inr ⟨ds, rfl, by omega, if_neg h⟩
  | _ => exact .inl rfl
theorem judge_b {d : D} {i : Int} (h : judge d = some i) : -1 ≤ i ∧ i < 8 := by
  rcases judge_cases d with e | ⟨ds, rfl, hl, e⟩
  · rw [e] at h
    cases h
    decide
  · rw [e] at h
    cases z : judL none 0 ds with
    | none =>
      rw [z] at h
      cases h
    | some n =>
      rw [z] at h
      have h2 : some ((n : Nat) : Int) = some i := h
      cases h2
      have := judL_hi _ _ _ _ z
      omega
theorem th_due {m n : Nat} {d : D} (hm : 2 ≤ m) (h : Th m n d) : Th m (n + 1) (dueD d) := by
  unfold dueD
  cases hj : judge d with
  | none => exact th_tup (al_cons (.str _) (al_cons h al_nil)) (by simp; omega)
  | some i =>
    have h1 := judge_b hj
    exact .int _ (Nat.lt_of_le_of_lt (show i.natAbs ≤ 8 by omega) (by decide))
theorem mkC {xs : List D} {n : Nat} {Q : List (Str × D) → Prop} {E : Value → List (Str × D) → Prop} (h : CrvOk n xs) (hn : n ≤ 8) (hq : Q [("terms", .tup xs)]) : cs_Curve kl [.tup xs] Q E :=
  ⟨_, 8, 3, rfl, th_crv h hn, by decide, by rw [judge_ok h hn]; exact hq⟩
theorem ceqC {xs ys : List D} {p p' : PyData} {S : Sto} {Q : QK} {E : EK} (h1 : PyOk xs p) (h2 : PyOk ys p') (hq : Q (.bl (PyData.eqv p p')) S) : sp_Ceq kl [cuD kl (.tup xs), cuD kl (.tup ys)] S Q E :=
  ⟨xs, _, rfl, .inl ⟨ys, p, p', rfl, h1.py, h2.py, h1.sh, h2.sh, hq⟩⟩
theorem ceqN {xs : List D} {y : D} {S : Sto} {Q : QK} {E : EK} (h : isPl y = true) (hq : Q (.bl false) S) : sp_Ceq kl [cuD kl (.tup xs), y] S Q E :=
  ⟨xs, _, rfl, .inr ⟨h, hq⟩⟩
theorem dEq_tt {ds es : List D} {S : Sto} {Q : QK} (h : dEqD (.tup ds) (.tup es) S Q) : dEq (.tup ds) (.tup es) S Q := by
  unfold dEq
  exact h
def bnd : Nat → Nat
  | 0 => 8
  | 1 => 44
  | 2 => 152
  | _ => 476
theorem bnd_step {i : Nat} (h : i < 3) : 8 ≤ bnd i ∧ bnd i ≤ 160 ∧ 3 * bnd i + 20 = bnd (i + 1) := by
  match i, h with
  | 0, _ => decide
  | 1, _ => decide
  | 2, _ => decide
theorem bnd_le (i : Nat) : bnd i ≤ 476 := by unfold bnd; split <;> decide
def sp_law : PSp := fun ds S Q _ => ∃ ns : List Int, ds = [.scr ns] ∧ ns.length ≤ sizeLine ∧ ∀ S', Q (.bl true) S'
theorem ok_law (e : En w kl K mg) {f : Addr} {fd : FuncData} (t : FunD K "law" "law" (defArgs st_law) (defBody st_law) (defScope st_law) [] [] f fd) (F1 : Fn1 P w K mg base 100 "_law_bag" ["_law_script"] sp_law_bag) (F2 : Fn1 P w K mg base 100 "_law_curve" ["_law_bag_here", "_law_size"] sp_curve) (F3 : Fn1 P w K mg base 100 "_law_told" ["_law_terms_here"] sp_due)
    (F4 : Fn1 P w K mg base 100 "_law_is" ["_law_thing", "_law_due_here"] (sp_law_is 1000 27)) (F5 : KlU P w K mg base 100 "Curve" (kl "Curve") ["terms"] (cs_Curve kl)) (F6 : Fn1 P w K mg base 100 "_law_pick" ["_law_bag_here", "_law_many"] sp_law_pick) (F7 : Fn1 P w K mg base 100 "_law_bent" ["_law_bag_here", "_law_terms_here"] sp_bent)
    (F8 : Fn1 P w K mg base 100 "_law_due" ["_law_terms_here"] sp_due) (F9 : EqFn P w K mg base 100 (kl "Curve") (sp_Ceq kl)) : FnOk P w K mg base (L2.CX P w) 101 f fd ["_law_script"] (liftSp K sp_law) := by
  refine fnE (k := 100) t sc_law (dv_law e F1 F2 F3 F4 F5 F6 F7 F8 F9) (fun ds S Q E => ?_) (fun ds S Q E => ?_)
  · rintro ⟨ns, rfl, _⟩
    rfl
  · rintro ⟨ns, rfl, hl, hq⟩
    simp only [wb_law, wFor, wLc, wLcM, wLcB, wiS, wiT, wiL, wiR1, wiR2, wipeG, wRet, wSeq, wIfS, wSet, wVar, wC, wBin, wTest, wAnd, wOr, wNot, wAndV, wOrV, wNotV, wIf, wCall, wCons, wNil, wTup, wLst, wLstM, wCB, wUn, wChain, wSl, wPart, wNo, wAsg, wgTup, wgCons, wgNil, wName, wPar, wSetIx, wAug, wDrop, wNext, wNever, wBM, wLstR1, EK.of, startG, List.map_cons, List.map_nil, List.length_cons, List.length_nil, Nat.reduceAdd, Nat.reduceSub, List.replicate, List.cons_append, List.nil_append, List.getElem?_cons_zero, List.getElem?_cons_succ, List.set_cons_zero, List.set_cons_succ, Option.some.injEq, exists_eq_left', exists_eq_left, D.bl.injEq, D.int.injEq, D.tup.injEq, D.lst.injEq, D.str.injEq, exists_and_left, if_true, Bool.false_eq_true, if_false, true_and, and_true, Int.cast_ofNat_Int, Int.reduceLT, Int.reduceLE, Int.reduceEq, Int.reduceNeg, Int.reduceAdd, Int.reduceSub, decide_true, decide_false, decide_eq_true_eq, List.getElem?_nil, reduceCtorEq, false_and, exists_false, dI_i, dIC_i, dB_i, dNeg_i, dAdd_i, dAdd_s, dAdd_t, dAdd_l, dMul_i, dMul_l, dEq_i, dEq_s, dEq_b, dNe_i, dNe_s, dNe_b, dIsN_n, dIsN_i, dIsN_l, dIsN_t, dNotN_n, dNotN_i, dNotN_l, dNotN_t, dRev_t, dIx_t, dIx_l, atI_0, atI_1, atI_2, atI_3, atI_4, rLen_s, rLen_t, rLen_l, rLen_c, rInt_i, rInt_b, rAbs_i, rList_t, rList_l, rLen_put, dIx_put, tyM_put, dIn_s, Bool.not_true, Bool.not_false]
    refine ⟨ns, rfl, hl, fun p g S1 hb => ?_⟩
    simp only [wRet, wSeq, wIfS, wSet, wVar, wC, wBin, wTest, wAnd, wOr, wNot, wAndV, wOrV, wNotV, wIf, wCall, wCons, wNil, wTup, wLst, wLstM, wCB, wUn, wChain, wSl, wPart, wNo, wAsg, wgTup, wgCons, wgNil, wName, wPar, wSetIx, wAug, wDrop, wNext, wNever, wBM, wLstR1, EK.of, startG, List.map_cons, List.map_nil, List.length_cons, List.length_nil, Nat.reduceAdd, Nat.reduceSub, List.replicate, List.cons_append, List.nil_append, List.getElem?_cons_zero, List.getElem?_cons_succ, List.set_cons_zero, List.set_cons_succ, Option.some.injEq, exists_eq_left', exists_eq_left, D.bl.injEq, D.int.injEq, D.tup.injEq, D.lst.injEq, D.str.injEq, exists_and_left, if_true, Bool.false_eq_true, if_false, true_and, and_true, Int.cast_ofNat_Int, Int.reduceLT, Int.reduceLE, Int.reduceEq, Int.reduceNeg, Int.reduceAdd, Int.reduceSub, decide_true, decide_false, decide_eq_true_eq, List.getElem?_nil, reduceCtorEq, false_and, exists_false, dI_i, dIC_i, dB_i, dNeg_i, dAdd_i, dAdd_s, dAdd_t, dAdd_l, dMul_i, dMul_l, dEq_i, dEq_s, dEq_b, dNe_i, dNe_s, dNe_b, dIsN_n, dIsN_i, dIsN_l, dIsN_t, dNotN_n, dNotN_i, dNotN_l, dNotN_t, dRev_t, dIx_t, dIx_l, atI_0, atI_1, atI_2, atI_3, atI_4, rLen_s, rLen_t, rLen_l, rLen_c, rInt_i, rInt_b, rAbs_i, rList_t, rList_l, rLen_put, dIx_put, tyM_put, dIn_s, Bool.not_true, Bool.not_false]
    refine ⟨4, rfl, by decide, by decide, fun i Γ S' => Bag S' p g ∧ ∃ x2 x3 x4 x5 x6 x7 x8, Γ = [some (.scr ns), some (.ref p), x2, x3, x4, x5, x6, x7, x8], ⟨hb, _, _, _, _, _, _, _, rfl⟩, fun _ _ _ _ _ => trivial, ?_, ?_⟩
    · rintro i x Γ S2 hx ⟨hb2, x2, x3, x4, x5, x6, x7, x8, rfl⟩
      simp only [wRet, wSeq, wIfS, wSet, wVar, wC, wBin, wTest, wAnd, wOr, wNot, wAndV, wOrV, wNotV, wIf, wCall, wCons, wNil, wTup, wLst, wLstM, wCB, wUn, wChain, wSl, wPart, wNo, wAsg, wgTup, wgCons, wgNil, wName, wPar, wSetIx, wAug, wDrop, wNext, wNever, wBM, wLstR1, EK.of, startG, List.map_cons, List.map_nil, List.length_cons, List.length_nil, Nat.reduceAdd, Nat.reduceSub, List.replicate, List.cons_append, List.nil_append, List.getElem?_cons_zero, List.getElem?_cons_succ, List.set_cons_zero, List.set_cons_succ, Option.some.injEq, exists_eq_left', exists_eq_left, D.bl.injEq, D.int.injEq, D.tup.injEq, D.lst.injEq, D.str.injEq, exists_and_left, if_true, Bool.false_eq_true, if_false, true_and, and_true, Int.cast_ofNat_Int, Int.reduceLT, Int.reduceLE, Int.reduceEq, Int.reduceNeg, Int.reduceAdd, Int.reduceSub, decide_true, decide_false, decide_eq_true_eq, List.getElem?_nil, reduceCtorEq, false_and, exists_false, dI_i, dIC_i, dB_i, dNeg_i, dAdd_i, dAdd_s, dAdd_t, dAdd_l, dMul_i, dMul_l, dEq_i, dEq_s, dEq_b, dNe_i, dNe_s, dNe_b, dIsN_n, dIsN_i, dIsN_l, dIsN_t, dNotN_n, dNotN_i, dNotN_l, dNotN_t, dRev_t, dIx_t, dIx_l, atI_0, atI_1, atI_2, atI_3, atI_4, rLen_s, rLen_t, rLen_l, rLen_c, rInt_i, rInt_b, rAbs_i, rList_t, rList_l, rLen_put, dIx_put, tyM_put, dIn_s, Bool.not_true, Bool.not_false]
      refine ⟨p, g, 8, rfl, hb2, by decide, fun S3 g3 ds hds => ⟨p, g, 2, rfl, g3.1, by decide, fun S4 g4 es hes => ⟨_, _, rfl, _, 8, 3, rfl, th_crv hds (by decide), by decide, ?_⟩⟩⟩
      have jd := judge_ok hds (by decide)
      have je := judge_ok (hes.mono (show 2 ≤ 8 by decide)) (by decide)
      have dd : dueD (.tup ds) = .tup [.str "told", .tup ds] := by unfold dueD; rw [jd]
      rw [dd]
      refine ⟨by decide, _, rfl, ?_, _, rfl, ?_⟩
      · rw [← dd]
        exact (th_due (by decide) (th_crv hds (by decide))).mono (by decide) (by decide)
      rw [if_neg (by decide)]
      obtain ⟨pd, hpd⟩ := crv_ok hds
      obtain ⟨pe, hpe⟩ := crv_ok hes
      simp only [wb_law_2, cSp, dEqOwn, wRet, wSeq, wIfS, wSet, wVar, wC, wBin, wTest, wAnd, wOr, wNot, wAndV, wOrV, wNotV, wIf, wCall, wCons, wNil, wTup, wLst, wLstM, wCB, wUn, wChain, wSl, wPart, wNo, wAsg, wgTup, wgCons, wgNil, wName, wPar, wSetIx, wAug, wDrop, wNext, wNever, wBM, wLstR1, EK.of, startG, List.map_cons, List.map_nil, List.length_cons, List.length_nil, Nat.reduceAdd, Nat.reduceSub, List.replicate, List.cons_append, List.nil_append, List.getElem?_cons_zero, List.getElem?_cons_succ, List.set_cons_zero, List.set_cons_succ, Option.some.injEq, exists_eq_left', exists_eq_left, D.bl.injEq, D.int.injEq, D.tup.injEq, D.lst.injEq, D.str.injEq, exists_and_left, if_true, Bool.false_eq_true, if_false, true_and, and_true, Int.cast_ofNat_Int, Int.reduceLT, Int.reduceLE, Int.reduceEq, Int.reduceNeg, Int.reduceAdd, Int.reduceSub, decide_true, decide_false, decide_eq_true_eq, List.getElem?_nil, reduceCtorEq, false_and, exists_false, dI_i, dIC_i, dB_i, dNeg_i, dAdd_i, dAdd_s, dAdd_t, dAdd_l, dMul_i, dMul_l, dEq_i, dEq_s, dEq_b, dNe_i, dNe_s, dNe_b, dIsN_n, dIsN_i, dIsN_l, dIsN_t, dNotN_n, dNotN_i, dNotN_l, dNotN_t, dRev_t, dIx_t, dIx_l, atI_0, atI_1, atI_2, atI_3, atI_4, rLen_s, rLen_t, rLen_l, rLen_c, rInt_i, rInt_b, rAbs_i, rList_t, rList_l, rLen_put, dIx_put, tyM_put, dIn_s, Bool.not_true, Bool.not_false]
      refine mkC hds (by decide) ?_
      refine ⟨_, _, rfl, rfl, ?_⟩
      refine mkC hds (by decide) ?_
      refine ⟨⟨_, rfl⟩, .inl ⟨_, rfl⟩, ceqC hpd hpd ⟨_, rfl, ?_⟩⟩
      rw [hpd.re, if_neg (by decide)]
      refine mkC hes (by decide) ?_
      refine ⟨⟨_, rfl⟩, .inl ⟨_, rfl⟩, ceqC hpd hpe ⟨_, rfl, ?_⟩⟩
      refine dEq_tt ?_
      refine ⟨pd, pe, hpd.py, hpe.py, hpd.sh, hpe.sh, ?_⟩
      rw [show (false != PyData.eqv pd pe) = PyData.eqv pd pe by simp]
      refine dNe_bb.mpr ⟨_, rfl, ?_⟩
      rw [if_neg (by decide)]
      have tyd : ∀ y : D, isPl y = true → ∃ t, TyD S4 y t := fun y h => ⟨_, (tyD_pl h).mpr rfl⟩
      refine ⟨⟨_, rfl⟩, .inr (tyd _ rfl), ceqN rfl ⟨_, rfl, ?_⟩⟩
      rw [if_neg (by decide)]
      refine ⟨⟨_, rfl⟩, .inr (tyd _ rfl), ceqN rfl ⟨_, rfl, ?_⟩⟩
      rw [if_neg (by decide)]
      simp only [wb_law_1, wFor, wLc, wLcM, wLcB, wiS, wiT, wiL, wiR1, wiR2, wipeG, wRet, wSeq, wIfS, wSet, wVar, wC, wBin, wTest, wAnd, wOr, wNot, wAndV, wOrV, wNotV, wIf, wCall, wCons, wNil, wTup, wLst, wLstM, wCB, wUn, wChain, wSl, wPart, wNo, wAsg, wgTup, wgCons, wgNil, wName, wPar, wSetIx, wAug, wDrop, wNext, wNever, wBM, wLstR1, EK.of, startG, List.map_cons, List.map_nil, List.length_cons, List.length_nil, Nat.reduceAdd, Nat.reduceSub, List.replicate, List.cons_append, List.nil_append, List.getElem?_cons_zero, List.getElem?_cons_succ, List.set_cons_zero, List.set_cons_succ, Option.some.injEq, exists_eq_left', exists_eq_left, D.bl.injEq, D.int.injEq, D.tup.injEq, D.lst.injEq, D.str.injEq, exists_and_left, if_true, Bool.false_eq_true, if_false, true_and, and_true, Int.cast_ofNat_Int, Int.reduceLT, Int.reduceLE, Int.reduceEq, Int.reduceNeg, Int.reduceAdd, Int.reduceSub, decide_true, decide_false, decide_eq_true_eq, List.getElem?_nil, reduceCtorEq, false_and, exists_false, dI_i, dIC_i, dB_i, dNeg_i, dAdd_i, dAdd_s, dAdd_t, dAdd_l, dMul_i, dMul_l, dEq_i, dEq_s, dEq_b, dNe_i, dNe_s, dNe_b, dIsN_n, dIsN_i, dIsN_l, dIsN_t, dNotN_n, dNotN_i, dNotN_l, dNotN_t, dRev_t, dIx_t, dIx_l, atI_0, atI_1, atI_2, atI_3, atI_4, rLen_s, rLen_t, rLen_l, rLen_c, rInt_i, rInt_b, rAbs_i, rList_t, rList_l, rLen_put, dIx_put, tyM_put, dIn_s, Bool.not_true, Bool.not_false]
      refine ⟨6, rfl, by decide, by decide, fun i' Γ S' => Bag S' p g ∧ ∃ x2 x3 x4 x6 x7 x8, Γ = [some (.scr ns), some (.ref p), x2, x3, x4, some (.tup ds), x6, x7, x8], ⟨g4.1, _, _, _, _, _, _, rfl⟩, fun _ _ _ _ _ => trivial, ?_, ?_⟩
      · rintro i6 x Γ S5 hx5 ⟨hb5, y2, y3, y4, y6, y7, y8, rfl⟩
        simp only [wRet, wSeq, wIfS, wSet, wVar, wC, wBin, wTest, wAnd, wOr, wNot, wAndV, wOrV, wNotV, wIf, wCall, wCons, wNil, wTup, wLst, wLstM, wCB, wUn, wChain, wSl, wPart, wNo, wAsg, wgTup, wgCons, wgNil, wName, wPar, wSetIx, wAug, wDrop, wNext, wNever, wBM, wLstR1, EK.of, startG, List.map_cons, List.map_nil, List.length_cons, List.length_nil, Nat.reduceAdd, Nat.reduceSub, List.replicate, List.cons_append, List.nil_append, List.getElem?_cons_zero, List.getElem?_cons_succ, List.set_cons_zero, List.set_cons_succ, Option.some.injEq, exists_eq_left', exists_eq_left, D.bl.injEq, D.int.injEq, D.tup.injEq, D.lst.injEq, D.str.injEq, exists_and_left, if_true, Bool.false_eq_true, if_false, true_and, and_true, Int.cast_ofNat_Int, Int.reduceLT, Int.reduceLE, Int.reduceEq, Int.reduceNeg, Int.reduceAdd, Int.reduceSub, decide_true, decide_false, decide_eq_true_eq, List.getElem?_nil, reduceCtorEq, false_and, exists_false, dI_i, dIC_i, dB_i, dNeg_i, dAdd_i, dAdd_s, dAdd_t, dAdd_l, dMul_i, dMul_l, dEq_i, dEq_s, dEq_b, dNe_i, dNe_s, dNe_b, dIsN_n, dIsN_i, dIsN_l, dIsN_t, dNotN_n, dNotN_i, dNotN_l, dNotN_t, dRev_t, dIx_t, dIx_l, atI_0, atI_1, atI_2, atI_3, atI_4, rLen_s, rLen_t, rLen_l, rLen_c, rInt_i, rInt_b, rAbs_i, rList_t, rList_l, rLen_put, dIx_put, tyM_put, dIn_s, Bool.not_true, Bool.not_false]
        refine ⟨p, g, _, rfl, hb5, by decide, by decide, fun S6 g6 n n0 n1 => ⟨_, rfl, by omega, by omega, ?_⟩⟩
        refine ⟨fun i' Γ S' => Bag S' p g ∧ ∃ x2 x3 x4 x6 x8 d, Γ = [some (.scr ns), some (.ref p), x2, x3, x4, some (.tup ds), x6, some d, x8] ∧ Th (bnd i') 25 d, ⟨g6.1, _, _, _, _, _, _, rfl, (th_crv hds (by decide)).mono (by decide) (by decide)⟩, fun _ _ _ _ _ => trivial, ?_, ?_⟩
        · rintro i7 x7 Γ S7 hx7 ⟨hb7, z2, z3, z4, z6, z8, d, rfl, hd⟩
          have hi7 : i7 < 3 := by
            have := (List.getElem?_eq_some_iff.mp hx7).1
            rw [ups_len] at this
            omega
          obtain ⟨b1, b2, b3⟩ := bnd_step hi7
          simp only [wRet, wSeq, wIfS, wSet, wVar, wC, wBin, wTest, wAnd, wOr, wNot, wAndV, wOrV, wNotV, wIf, wCall, wCons, wNil, wTup, wLst, wLstM, wCB, wUn, wChain, wSl, wPart, wNo, wAsg, wgTup, wgCons, wgNil, wName, wPar, wSetIx, wAug, wDrop, wNext, wNever, wBM, wLstR1, EK.of, startG, List.map_cons, List.map_nil, List.length_cons, List.length_nil, Nat.reduceAdd, Nat.reduceSub, List.replicate, List.cons_append, List.nil_append, List.getElem?_cons_zero, List.getElem?_cons_succ, List.set_cons_zero, List.set_cons_succ, Option.some.injEq, exists_eq_left', exists_eq_left, D.bl.injEq, D.int.injEq, D.tup.injEq, D.lst.injEq, D.str.injEq, exists_and_left, if_true, Bool.false_eq_true, if_false, true_and, and_true, Int.cast_ofNat_Int, Int.reduceLT, Int.reduceLE, Int.reduceEq, Int.reduceNeg, Int.reduceAdd, Int.reduceSub, decide_true, decide_false, decide_eq_true_eq, List.getElem?_nil, reduceCtorEq, false_and, exists_false, dI_i, dIC_i, dB_i, dNeg_i, dAdd_i, dAdd_s, dAdd_t, dAdd_l, dMul_i, dMul_l, dEq_i, dEq_s, dEq_b, dNe_i, dNe_s, dNe_b, dIsN_n, dIsN_i, dIsN_l, dIsN_t, dNotN_n, dNotN_i, dNotN_l, dNotN_t, dRev_t, dIx_t, dIx_l, atI_0, atI_1, atI_2, atI_3, atI_4, rLen_s, rLen_t, rLen_l, rLen_c, rInt_i, rInt_b, rAbs_i, rList_t, rList_l, rLen_put, dIx_put, tyM_put, dIn_s, Bool.not_true, Bool.not_false]
          exact ⟨p, g, _, d, rfl, hb7, hd, b1, b2, fun S8 g8 d' hd' => ⟨g8.1, _, _, _, _, _, _, rfl, b3 ▸ hd'⟩⟩
        · rintro Γ S7 ⟨hb7, z2, z3, z4, z6, z8, d, rfl, hd⟩
          rw [ups_len] at hd
          have hd2 : Th 476 25 d := hd.mono (bnd_le _) (Nat.le_refl _)
          simp only [wb_law_0, wRet, wSeq, wIfS, wSet, wVar, wC, wBin, wTest, wAnd, wOr, wNot, wAndV, wOrV, wNotV, wIf, wCall, wCons, wNil, wTup, wLst, wLstM, wCB, wUn, wChain, wSl, wPart, wNo, wAsg, wgTup, wgCons, wgNil, wName, wPar, wSetIx, wAug, wDrop, wNext, wNever, wBM, wLstR1, EK.of, startG, List.map_cons, List.map_nil, List.length_cons, List.length_nil, Nat.reduceAdd, Nat.reduceSub, List.replicate, List.cons_append, List.nil_append, List.getElem?_cons_zero, List.getElem?_cons_succ, List.set_cons_zero, List.set_cons_succ, Option.some.injEq, exists_eq_left', exists_eq_left, D.bl.injEq, D.int.injEq, D.tup.injEq, D.lst.injEq, D.str.injEq, exists_and_left, if_true, Bool.false_eq_true, if_false, true_and, and_true, Int.cast_ofNat_Int, Int.reduceLT, Int.reduceLE, Int.reduceEq, Int.reduceNeg, Int.reduceAdd, Int.reduceSub, decide_true, decide_false, decide_eq_true_eq, List.getElem?_nil, reduceCtorEq, false_and, exists_false, dI_i, dIC_i, dB_i, dNeg_i, dAdd_i, dAdd_s, dAdd_t, dAdd_l, dMul_i, dMul_l, dEq_i, dEq_s, dEq_b, dNe_i, dNe_s, dNe_b, dIsN_n, dIsN_i, dIsN_l, dIsN_t, dNotN_n, dNotN_i, dNotN_l, dNotN_t, dRev_t, dIx_t, dIx_l, atI_0, atI_1, atI_2, atI_3, atI_4, rLen_s, rLen_t, rLen_l, rLen_c, rInt_i, rInt_b, rAbs_i, rList_t, rList_l, rLen_put, dIx_put, tyM_put, dIn_s, Bool.not_true, Bool.not_false]
          refine ⟨d, 476, 25, rfl, hd2, by decide, d, 476, 25, rfl, hd2, by decide, _, rfl, (th_due (by decide) hd2).mono (by decide) (by decide), _, rfl, ?_⟩
          rw [if_neg (by decide)]
          exact ⟨hb7, _, _, _, _, _, _, rfl⟩
      · rintro Γ S5 ⟨hb5, y2, y3, y4, y6, y7, y8, rfl⟩
        exact ⟨hb5, _, _, _, _, _, _, _, rfl⟩
    · rintro Γ S2 ⟨hb2, x2, x3, x4, x5, x6, x7, x8, rfl⟩
      simp only [wb_law_3, wRet, wSeq, wIfS, wSet, wVar, wC, wBin, wTest, wAnd, wOr, wNot, wAndV, wOrV, wNotV, wIf, wCall, wCons, wNil, wTup, wLst, wLstM, wCB, wUn, wChain, wSl, wPart, wNo, wAsg, wgTup, wgCons, wgNil, wName, wPar, wSetIx, wAug, wDrop, wNext, wNever, wBM, wLstR1, EK.of, startG, List.map_cons, List.map_nil, List.length_cons, List.length_nil, Nat.reduceAdd, Nat.reduceSub, List.replicate, List.cons_append, List.nil_append, List.getElem?_cons_zero, List.getElem?_cons_succ, List.set_cons_zero, List.set_cons_succ, Option.some.injEq, exists_eq_left', exists_eq_left, D.bl.injEq, D.int.injEq, D.tup.injEq, D.lst.injEq, D.str.injEq, exists_and_left, if_true, Bool.false_eq_true, if_false, true_and, and_true, Int.cast_ofNat_Int, Int.reduceLT, Int.reduceLE, Int.reduceEq, Int.reduceNeg, Int.reduceAdd, Int.reduceSub, decide_true, decide_false, decide_eq_true_eq, List.getElem?_nil, reduceCtorEq, false_and, exists_false, dI_i, dIC_i, dB_i, dNeg_i, dAdd_i, dAdd_s, dAdd_t, dAdd_l, dMul_i, dMul_l, dEq_i, dEq_s, dEq_b, dNe_i, dNe_s, dNe_b, dIsN_n, dIsN_i, dIsN_l, dIsN_t, dNotN_n, dNotN_i, dNotN_l, dNotN_t, dRev_t, dIx_t, dIx_l, atI_0, atI_1, atI_2, atI_3, atI_4, rLen_s, rLen_t, rLen_l, rLen_c, rInt_i, rInt_b, rAbs_i, rList_t, rList_l, rLen_put, dIx_put, tyM_put, dIn_s, Bool.not_true, Bool.not_false]
      exact end_id (hq S2)
end K01
end
/-! from K01m.lean -/
section
/-! printed by head4.py: the head -/
namespace K01
open PySem PyProof.Rows L2 PL
variable [TabCtx]
abbrev dd (x : Str) (st : Stmt) : He.DefD := ⟨(x, none), x, x, defArgs st, defBody st, defScope st, [], []⟩
abbrev ini (i : Nat) : Stmt := sub i 0
def fn_0 : List He.DefD := [dd "is_integer" st_is_integer, dd "is_within" st_is_within, dd "divisor_of" st_divisor_of, dd "is_fraction" st_is_fraction, dd "is_less" st_is_less, dd "is_from_to" st_is_from_to, dd "is_term" st_is_term, dd "is_ahead" st_is_ahead, dd "_law_bag" st_law_bag, dd "_law_pick" st_law_pick, dd "_law_some" st_law_some, dd "_law_is" st_law_is, dd "_law_is_int" st_law_is_int, dd "_law_deep" st_law_deep, dd "_law_common" st_law_common, dd "_law_frac" st_law_frac, dd "_law_less" st_law_less, dd "_law_ordered" st_law_ordered, dd "_law_terms" st_law_terms, dd "_law_is_fraction" st_law_is_fraction]
def fn_1 : List He.DefD := [dd "_law_is_term" st_law_is_term, dd "_law_is_behind" st_law_is_behind, dd "_law_q" st_law_q, dd "_law_c" st_law_c, dd "_law_curve" st_law_curve, dd "_law_due" st_law_due, dd "_law_told" st_law_told, dd "_law_odd" st_law_odd, dd "_law_bent" st_law_bent, dd "law" st_law, ⟨("Curve", some "__init__"), "__init__", "Curve.__init__", defArgs st_Curve_init, defBody st_Curve_init, defScope st_Curve_init, [], []⟩, ⟨("Curve", some "__eq__"), "__eq__", "Curve.__eq__", defArgs st_Curve_eq, defBody st_Curve_eq, defScope st_Curve_eq, [], []⟩]
def fn : List He.DefD := fn_0 ++ fn_1
def fa_0 : List He.Fa := [.glo "is_integer", .glo "is_within", .glo "divisor_of", .glo "is_fraction", .glo "is_less", .glo "is_from_to", .glo "is_term", .glo "is_ahead", .glo "_law_bag", .glo "_law_pick", .glo "_law_some", .glo "_law_is", .glo "_law_is_int", .glo "_law_deep", .glo "_law_common", .glo "_law_frac", .glo "_law_less", .glo "_law_ordered", .glo "_law_terms", .glo "_law_is_fraction"]
def fa_1 : List He.Fa := [.glo "_law_is_term", .glo "_law_is_behind", .glo "_law_q", .glo "_law_c", .glo "_law_curve", .glo "_law_due", .glo "_law_told", .glo "_law_odd", .glo "_law_bent", .glo "law", .glo "Curve", .cls "Curve", .mkr "Curve", .glo "CurveError", .glo "BadCurve", .exm "BadCurve" "BadCurve" true, .noat "Curve" "terms", .free "ValueError", .free "abs", .free "all"]
def fa_2 : List He.Fa := [.free "bool", .free "enumerate", .free "int", .free "isinstance", .free "len", .free "list", .free "max", .free "range", .free "sorted", .free "sum", .free "super", .free "tuple", .free "zip", .int "MOST_BOTTOM" (4), .int "MOST_POWER" (3), .int "MOST_RATE" (4), .int "MOST_TERMS" (8), .glo "ZERO"]
def fa : List He.Fa := fa_0 ++ fa_1 ++ fa_2
def fi_0 : List IniD := [⟨"BadCurve", "BadCurve.__init__", ini 2⟩]
def fi : List IniD := fi_0
def names_0 : List PySem.Str := ["CurveError", "BadCurve", "is_integer", "is_within", "divisor_of", "is_fraction", "is_less", "is_from_to", "is_term", "is_ahead", "Curve", "_law_bag", "_law_pick", "_law_some", "_law_is", "_law_is_int", "_law_deep", "_law_common", "_law_frac", "_law_less"]
def names_1 : List PySem.Str := ["_law_ordered", "_law_terms", "_law_is_fraction", "_law_is_term", "_law_is_behind", "_law_q", "_law_c", "_law_curve", "_law_due", "_law_told", "_law_odd", "_law_bent", "ZERO", "MOST_TERMS", "MOST_POWER", "MOST_RATE", "MOST_BOTTOM"]
def names : List PySem.Str := names_0 ++ names_1
def tabs : List PySem.Str := ["_law_ordered"]
def extra (K : PySem.W.Frag) : Bool := (exOkB K (ecs (He.ga K)) (ecl (He.ga K)) (subE (He.ga K)) && (decide ((He.ga K "CurveError" :: ecs (He.ga K)).Nodup) && (He.eqO (PySem.W.nsIn K cStatics "thirdparty.any") (some none) && (isiB K [He.ga K "Curve"] (subK (He.ga K)) && (xf1B K (He.ga K "BadCurve") "index" && (He.tupB K "ZERO" [.int (0), .int (1)] && (inB PySem.Challenge.rw_namedmoments_k01_whole_curves_judged.prog K (He.ga K "BadCurve") "index" "BadCurve.__init__" && (eqClB K (He.ga K "Curve") (He.ma K (He.ga K "Curve") "__eq__") && tabOk K "_law_ordered"))))))))
abbrev RR : PySem.W.OpenRow := PySem.W.OpenLaw.row PySem.Challenge.rw_namedmoments_k01_whole_curves_judged
abbrev hk : PySem.W.Hook := hookT 7 fa fn fi extra tabs
def ob (s : PySem.W.SharedT) : AlT := seenTG 7 fa fn fi extra tabs (HandSHeadRun.getT s)
theorem ob_eq (s : PySem.W.SharedT) : ob s = hk.obs s.abs := seenTG_eq (HandSHeadRun.getT_eq s)
theorem run (w : World) : HandSHeadRun.RunEq RR (PySem.W.view RR.prog [42]) hk ob 30000 names w := by
  intro os
  kernel_rfl
section
variable {K : PySem.W.Frag} {h : Heap} {mg : Str → Option Value}
theorem exParts (c : SeenT fa fn fi extra tabs K h) : exOkB K (ecs (He.ga K)) (ecl (He.ga K)) (subE (He.ga K)) = true ∧ decide ((He.ga K "CurveError" :: ecs (He.ga K)).Nodup) = true ∧ He.eqO (PySem.W.nsIn K cStatics "thirdparty.any") (some none) = true ∧ isiB K [He.ga K "Curve"] (subK (He.ga K)) = true ∧ xf1B K (He.ga K "BadCurve") "index" = true ∧ He.tupB K "ZERO" [.int (0), .int (1)] = true ∧ inB PySem.Challenge.rw_namedmoments_k01_whole_curves_judged.prog K (He.ga K "BadCurve") "index" "BadCurve.__init__" = true ∧ eqClB K (He.ga K "Curve") (He.ma K (He.ga K "Curve") "__eq__") = true ∧ tabOk K "_law_ordered" = true := by
  have x : extra K = true := c.x.seen.extra
  unfold extra at x
  obtain ⟨y0, x⟩ := He.ba x
  obtain ⟨y1, x⟩ := He.ba x
  obtain ⟨y2, x⟩ := He.ba x
  obtain ⟨y3, x⟩ := He.ba x
  obtain ⟨y4, x⟩ := He.ba x
  obtain ⟨y5, x⟩ := He.ba x
  obtain ⟨y6, x⟩ := He.ba x
  obtain ⟨y7, x⟩ := He.ba x
  exact ⟨y0, y1, y2, y3, y4, y5, y6, y7, x⟩
theorem en (X : K.In h) (G : h.Ns mainGlobals mg) (c : SeenT fa fn fi extra tabs K h) : En w (He.ga K) K mg := by
  obtain ⟨p0, p1, p2, p3, p4, p5, p6, p7, p8⟩ := exParts c
  exact {
    exo := exOkB_ok p0
    nd := of_decide_eq_true p1
    k_Curve := gl_clsT X G (c.x.seen.says.fact 30 (f := .glo "Curve") rfl)
    isi := isiB_ok (fun C hC => by
      simp only [List.mem_cons, List.not_mem_nil, or_false] at hC
      rcases hC with rfl
      · exact He.cls_ok (c.x.seen.says.fact 31 (f := .cls "Curve") rfl)) p3
    k_CurveError := gl_clsT X G (c.x.seen.says.fact 33 (f := .glo "CurveError") rfl)
    m_BadCurve := He.glo_ok X G (c.x.seen.says.fact 34 (f := .glo "BadCurve") rfl)
    mt_BadCurve := fun cv b hb => by
      unfold mtE at hb
      split at hb
      · rename_i hh
        subst hh
        cases hb
        exact He.exm_ok (c.x.seen.says.fact 35 (f := .exm "BadCurve" "BadCurve" true) rfl)
      · cases hb
    sx_BadCurve_index := xf1B_ok p4
    f_terms := fldOk_of (fun C hC => by
      simp only [List.mem_cons, List.not_mem_nil, or_false] at hC
      rcases hC with rfl
      · exact ⟨He.cls_ok (c.x.seen.says.fact 31 (f := .cls "Curve") rfl), He.noat_ok (c.x.seen.says.fact 36 (f := .noat "Curve" "terms") rfl)⟩)
    b_ValueError := He.free_ok X G (c.x.seen.says.fact 37 (f := .free "ValueError") rfl)
    b_abs := He.free_ok X G (c.x.seen.says.fact 38 (f := .free "abs") rfl)
    b_all := He.free_ok X G (c.x.seen.says.fact 39 (f := .free "all") rfl)
    b_bool := He.free_ok X G (c.x.seen.says.fact 40 (f := .free "bool") rfl)
    b_enumerate := He.free_ok X G (c.x.seen.says.fact 41 (f := .free "enumerate") rfl)
    b_int := He.free_ok X G (c.x.seen.says.fact 42 (f := .free "int") rfl)
    b_isinstance := He.free_ok X G (c.x.seen.says.fact 43 (f := .free "isinstance") rfl)
    b_len := He.free_ok X G (c.x.seen.says.fact 44 (f := .free "len") rfl)
    b_list := He.free_ok X G (c.x.seen.says.fact 45 (f := .free "list") rfl)
    b_max := He.free_ok X G (c.x.seen.says.fact 46 (f := .free "max") rfl)
    b_range := He.free_ok X G (c.x.seen.says.fact 47 (f := .free "range") rfl)
    b_sorted := He.free_ok X G (c.x.seen.says.fact 48 (f := .free "sorted") rfl)
    b_sum := He.free_ok X G (c.x.seen.says.fact 49 (f := .free "sum") rfl)
    b_super := He.free_ok X G (c.x.seen.says.fact 50 (f := .free "super") rfl)
    b_tuple := He.free_ok X G (c.x.seen.says.fact 51 (f := .free "tuple") rfl)
    b_zip := He.free_ok X G (c.x.seen.says.fact 52 (f := .free "zip") rfl)
    c_MOST_BOTTOM := gl_int X G (c.x.seen.says.fact 53 (f := .int "MOST_BOTTOM" (4)) rfl)
    c_MOST_POWER := gl_int X G (c.x.seen.says.fact 54 (f := .int "MOST_POWER" (3)) rfl)
    c_MOST_RATE := gl_int X G (c.x.seen.says.fact 55 (f := .int "MOST_RATE" (4)) rfl)
    c_MOST_TERMS := gl_int X G (c.x.seen.says.fact 56 (f := .int "MOST_TERMS" (8)) rfl)
    c_ZERO := gl_tup X G (vs := [.int (0), .int (1)]) (c.x.seen.says.fact 57 (f := .glo "ZERO") rfl) p5 (fun M H => by simp [DenL, Den, He.Dv.v]) }
theorem t_is_integer (X : K.In h) (G : h.Ns mainGlobals mg) (c : SeenT fa fn fi extra tabs K h) : Tx1 K mg "is_integer" st_is_integer := tx1 X G c.x.seen 0 0 rfl rfl
theorem t_is_within (X : K.In h) (G : h.Ns mainGlobals mg) (c : SeenT fa fn fi extra tabs K h) : Tx1 K mg "is_within" st_is_within := tx1 X G c.x.seen 1 1 rfl rfl
theorem t_divisor_of (X : K.In h) (G : h.Ns mainGlobals mg) (c : SeenT fa fn fi extra tabs K h) : Tx1 K mg "divisor_of" st_divisor_of := tx1 X G c.x.seen 2 2 rfl rfl
theorem t_is_fraction (X : K.In h) (G : h.Ns mainGlobals mg) (c : SeenT fa fn fi extra tabs K h) : Tx1 K mg "is_fraction" st_is_fraction := tx1 X G c.x.seen 3 3 rfl rfl
theorem t_is_less (X : K.In h) (G : h.Ns mainGlobals mg) (c : SeenT fa fn fi extra tabs K h) : Tx1 K mg "is_less" st_is_less := tx1 X G c.x.seen 4 4 rfl rfl
theorem t_is_from_to (X : K.In h) (G : h.Ns mainGlobals mg) (c : SeenT fa fn fi extra tabs K h) : Tx1 K mg "is_from_to" st_is_from_to := tx1 X G c.x.seen 5 5 rfl rfl
theorem t_is_term (X : K.In h) (G : h.Ns mainGlobals mg) (c : SeenT fa fn fi extra tabs K h) : Tx1 K mg "is_term" st_is_term := tx1 X G c.x.seen 6 6 rfl rfl
theorem t_is_ahead (X : K.In h) (G : h.Ns mainGlobals mg) (c : SeenT fa fn fi extra tabs K h) : Tx1 K mg "is_ahead" st_is_ahead := tx1 X G c.x.seen 7 7 rfl rfl
theorem t_law_bag (X : K.In h) (G : h.Ns mainGlobals mg) (c : SeenT fa fn fi extra tabs K h) : Tx1 K mg "_law_bag" st_law_bag := tx1 X G c.x.seen 8 8 rfl rfl
theorem t_law_pick (X : K.In h) (G : h.Ns mainGlobals mg) (c : SeenT fa fn fi extra tabs K h) : Tx1 K mg "_law_pick" st_law_pick := tx1 X G c.x.seen 9 9 rfl rfl
theorem t_law_some (X : K.In h) (G : h.Ns mainGlobals mg) (c : SeenT fa fn fi extra tabs K h) : Tx1 K mg "_law_some" st_law_some := tx1 X G c.x.seen 10 10 rfl rfl
theorem t_law_is (X : K.In h) (G : h.Ns mainGlobals mg) (c : SeenT fa fn fi extra tabs K h) : Tx1 K mg "_law_is" st_law_is := tx1 X G c.x.seen 11 11 rfl rfl
theorem t_law_is_int (X : K.In h) (G : h.Ns mainGlobals mg) (c : SeenT fa fn fi extra tabs K h) : Tx1 K mg "_law_is_int" st_law_is_int := tx1 X G c.x.seen 12 12 rfl rfl
theorem t_law_deep (X : K.In h) (G : h.Ns mainGlobals mg) (c : SeenT fa fn fi extra tabs K h) : Tx1 K mg "_law_deep" st_law_deep := tx1 X G c.x.seen 13 13 rfl rfl
theorem t_law_common (X : K.In h) (G : h.Ns mainGlobals mg) (c : SeenT fa fn fi extra tabs K h) : Tx1 K mg "_law_common" st_law_common := tx1 X G c.x.seen 14 14 rfl rfl
theorem t_law_frac (X : K.In h) (G : h.Ns mainGlobals mg) (c : SeenT fa fn fi extra tabs K h) : Tx1 K mg "_law_frac" st_law_frac := tx1 X G c.x.seen 15 15 rfl rfl
theorem t_law_less (X : K.In h) (G : h.Ns mainGlobals mg) (c : SeenT fa fn fi extra tabs K h) : Tx1 K mg "_law_less" st_law_less := tx1 X G c.x.seen 16 16 rfl rfl
theorem t_law_ordered (X : K.In h) (G : h.Ns mainGlobals mg) (c : SeenT fa fn fi extra tabs K h) : Tx1 K mg "_law_ordered" st_law_ordered := tx1 X G c.x.seen 17 17 rfl rfl
theorem t_law_terms (X : K.In h) (G : h.Ns mainGlobals mg) (c : SeenT fa fn fi extra tabs K h) : Tx1 K mg "_law_terms" st_law_terms := tx1 X G c.x.seen 18 18 rfl rfl
theorem t_law_is_fraction (X : K.In h) (G : h.Ns mainGlobals mg) (c : SeenT fa fn fi extra tabs K h) : Tx1 K mg "_law_is_fraction" st_law_is_fraction := tx1 X G c.x.seen 19 19 rfl rfl
theorem t_law_is_term (X : K.In h) (G : h.Ns mainGlobals mg) (c : SeenT fa fn fi extra tabs K h) : Tx1 K mg "_law_is_term" st_law_is_term := tx1 X G c.x.seen 20 20 rfl rfl
theorem t_law_is_behind (X : K.In h) (G : h.Ns mainGlobals mg) (c : SeenT fa fn fi extra tabs K h) : Tx1 K mg "_law_is_behind" st_law_is_behind := tx1 X G c.x.seen 21 21 rfl rfl
theorem t_law_q (X : K.In h) (G : h.Ns mainGlobals mg) (c : SeenT fa fn fi extra tabs K h) : Tx1 K mg "_law_q" st_law_q := tx1 X G c.x.seen 22 22 rfl rfl
theorem t_law_c (X : K.In h) (G : h.Ns mainGlobals mg) (c : SeenT fa fn fi extra tabs K h) : Tx1 K mg "_law_c" st_law_c := tx1 X G c.x.seen 23 23 rfl rfl
theorem t_law_curve (X : K.In h) (G : h.Ns mainGlobals mg) (c : SeenT fa fn fi extra tabs K h) : Tx1 K mg "_law_curve" st_law_curve := tx1 X G c.x.seen 24 24 rfl rfl
theorem t_law_due (X : K.In h) (G : h.Ns mainGlobals mg) (c : SeenT fa fn fi extra tabs K h) : Tx1 K mg "_law_due" st_law_due := tx1 X G c.x.seen 25 25 rfl rfl
theorem t_law_told (X : K.In h) (G : h.Ns mainGlobals mg) (c : SeenT fa fn fi extra tabs K h) : Tx1 K mg "_law_told" st_law_told := tx1 X G c.x.seen 26 26 rfl rfl
theorem t_law_odd (X : K.In h) (G : h.Ns mainGlobals mg) (c : SeenT fa fn fi extra tabs K h) : Tx1 K mg "_law_odd" st_law_odd := tx1 X G c.x.seen 27 27 rfl rfl
theorem t_law_bent (X : K.In h) (G : h.Ns mainGlobals mg) (c : SeenT fa fn fi extra tabs K h) : Tx1 K mg "_law_bent" st_law_bent := tx1 X G c.x.seen 28 28 rfl rfl
theorem t_law (X : K.In h) (G : h.Ns mainGlobals mg) (c : SeenT fa fn fi extra tabs K h) : Tx1 K mg "law" st_law := tx1 X G c.x.seen 29 29 rfl rfl
theorem f_Curve_init (c : SeenT fa fn fi extra tabs K h) : ∃ fd, FunD K "__init__" "Curve.__init__" (defArgs st_Curve_init) (defBody st_Curve_init) (defScope st_Curve_init) [] [] (He.ma K (He.ga K "Curve") "__init__") fd := c.x.seen.says.def_ 30 rfl
theorem mk_Curve (c : SeenT fa fn fi extra tabs K h) : Mk K (He.ga K "Curve") (He.ma K (He.ga K "Curve") "__init__") := He.mkr_ok (c.x.seen.says.fact 32 (f := .mkr "Curve") rfl)
theorem gl_Curve (X : K.In h) (G : h.Ns mainGlobals mg) (c : SeenT fa fn fi extra tabs K h) : mg "Curve" = some (.ref (He.ga K "Curve")) := He.glo_ok X G (c.x.seen.says.fact 30 (f := .glo "Curve") rfl)
theorem f_Curve_eq (c : SeenT fa fn fi extra tabs K h) : ∃ fd, FunD K "__eq__" "Curve.__eq__" (defArgs st_Curve_eq) (defBody st_Curve_eq) (defScope st_Curve_eq) [] [] (He.ma K (He.ga K "Curve") "__eq__") fd := c.x.seen.says.def_ 31 rfl
theorem eq_Curve (c : SeenT fa fn fi extra tabs K h) : EqCl K (He.ga K "Curve") (He.ma K (He.ga K "Curve") "__eq__") := by
  obtain ⟨p0, p1, p2, p3, p4, p5, p6, p7, p8⟩ := exParts c
  exact eqClB_ok p7
theorem i_BadCurve (c : SeenT fa fn fi extra tabs K h) : ∃ f, ExKl PySem.Challenge.rw_namedmoments_k01_whole_curves_judged.prog K (He.ga K "BadCurve") f "index" := by
  obtain ⟨p0, p1, p2, p3, p4, p5, p6, p7, p8⟩ := exParts c
  have e := c.x.ini 0 (d := ⟨"BadCurve", "BadCurve.__init__", ini 2⟩) rfl
  exact exKl_ok (x := "BadCurve") (a := "index") (q := "BadCurve.__init__") e p6 (He.eqO_ok p2) (by kernel_rfl) (by rfl)
theorem c_law_ordered (X : K.In h) (c : SeenT fa fn fi extra tabs K h) : ∃ a, PySem.W.tabIn K "_law_ordered" = some (a, tabP K "_law_ordered") ∧ PySem.W.CodeHd h a (tabP K "_law_ordered") ∧ h.get? (tabP K "_law_ordered") = some (PySem.W.tabObj #[]) ∧ K.lookup (tabP K "_law_ordered") = none := by
  obtain ⟨p0, p1, p2, p3, p4, p5, p6, p7, p8⟩ := exParts c
  obtain ⟨a, e1, e2⟩ := tabOk_ok p8
  have t := c.tab "_law_ordered" (by simp [tabs])
  exact ⟨a, e1, PySem.W.codeHd_of_K X e2, t⟩
end
end K01
end
/-! from K01n.lean -/
section
namespace K01
open PySem L2 PL
theorem facts {w : World} {K : PySem.W.Frag} {h : Heap} {mg : Str → Option Value} {f : Addr} (X : K.In h) (G : h.Ns mainGlobals mg) (hfa : mg ("law" : Str) = some (.ref f)) (c : SeenT fa fn fi extra tabs K h) :
    ∃ (fd : FuncData) (cs : List (Addr × Addr)) (sp : Sp), (∀ p ∈ cs, h.get? p.2 = some { cls := .none, data := .fields #[] }) ∧ (∀ p ∈ cs, K.lookup p.2 = none) ∧ (∀ p ∈ cs, PySem.W.CodeHd h p.1 p.2) ∧ (∀ (s : Shared) (u : Value), BindsTo s fd ⟨[u], []⟩ [("_law_script", u)]) ∧
      (∀ (H : Hp) (a : Addr) (ns : List Int), ns.length ≤ 63 → (∀ z ∈ ns, Builtin.Int.intBits z ≤ 1048576) → (∀ p ∈ cs, H p.2 = some (.tbl #[])) → SqL K H a (ns.map V.int) → sp [.ref a] H (fun v _ => v = .bl true) fun _ _ _ => False) ∧
      ∀ base : Heap, K.In base → base.Ns mainGlobals mg → (∀ p ∈ cs, LamX.TabB base mg p.1 p.2) → FnOk PySem.Challenge.rw_namedmoments_k01_whole_curves_judged.prog w K mg base (L2.CX PySem.Challenge.rw_namedmoments_k01_whole_curves_judged.prog w) 101 f fd ["_law_script"] sp := by
  letI : TabCtx := ⟨[(tabP K "_law_ordered", fun _ _ => ("_law_ordered.<locals>.<lambda>" : Str))]⟩
  obtain ⟨ca, t1, t2, t3, t4⟩ := c_law_ordered X c
  obtain ⟨f', fd, hm, F⟩ := t_law X G c
  rw [hfa] at hm
  cases hm
  have b := FunD.bindsA (ps := ["_law_script"]) F fun _ _ _ _ _ _ us hl => match us, hl with | [_], _ => rfl
  refine ⟨fd, [(ca, tabP K "_law_ordered")], liftSp K sp_law, ?_, ?_, ?_, fun s v => b s [v] rfl, ?_, fun base _ _ tb => ?_⟩
  · intro p hp
    cases List.mem_singleton.mp hp
    exact t3
  · intro p hp
    cases List.mem_singleton.mp hp
    exact t4
  · intro p hp
    cases List.mem_singleton.mp hp
    exact t2
  · intro H a ns hl _ hT hS
    refine lift_script (fun p hp => ?_) hS ⟨ns, rfl, Nat.le_trans hl (by decide), fun _ => rfl⟩
    have e : p = (tabP K "_law_ordered", fun _ _ => ("_law_ordered.<locals>.<lambda>" : Str)) := List.mem_singleton.mp hp
    subst e
    exact hT (ca, tabP K "_law_ordered") List.mem_cons_self
  have tb1 := tb (ca, tabP K "_law_ordered") List.mem_cons_self
  have e : En w (He.ga K) K mg := en X G c
  have x1 : Fn1 PySem.Challenge.rw_namedmoments_k01_whole_curves_judged.prog w K mg base _ _ _ _ := ok_is_integer e (t_is_integer X G c)
  have x2 : Fn1 PySem.Challenge.rw_namedmoments_k01_whole_curves_judged.prog w K mg base _ _ _ _ := ok_divisor_of e (t_divisor_of X G c)
  have x3 : Fn1 PySem.Challenge.rw_namedmoments_k01_whole_curves_judged.prog w K mg base _ _ _ _ := ok_is_fraction e (t_is_fraction X G c) x1 x2
  have x4 : Fn1 PySem.Challenge.rw_namedmoments_k01_whole_curves_judged.prog w K mg base _ _ _ _ := ok_is_within e (t_is_within X G c) x1
  have x5 : Fn1 PySem.Challenge.rw_namedmoments_k01_whole_curves_judged.prog w K mg base _ _ _ _ := ok_is_from_to e (t_is_from_to X G c) x3
  have x6 : Fn1 PySem.Challenge.rw_namedmoments_k01_whole_curves_judged.prog w K mg base _ _ _ _ := ok_is_term e (t_is_term X G c) x3.up x4.up x5
  have x7 : Fn1 PySem.Challenge.rw_namedmoments_k01_whole_curves_judged.prog w K mg base _ _ _ _ := ok_is_less e (t_is_less X G c)
  have x8 : Fn1 PySem.Challenge.rw_namedmoments_k01_whole_curves_judged.prog w K mg base _ _ _ _ := ok_is_ahead e (t_is_ahead X G c) x7
  obtain ⟨fdi, Fi⟩ := f_Curve_init c
  have kc : Kl1 PySem.Challenge.rw_namedmoments_k01_whole_curves_judged.prog w K mg base _ _ _ _ _ := ok_Curve e (gl_Curve X G c) (mk_Curve c) Fi (i_BadCurve c) x8.up x6
  obtain ⟨fde, Fe⟩ := f_Curve_eq c
  have q0 : FnOk PySem.Challenge.rw_namedmoments_k01_whole_curves_judged.prog w K mg base (L2.CX _ w) 1 _ fde ["self", "other"] (liftSp K (sp_Ceq (He.ga K))) := ok_Ceq e Fe
  have q1 : EqFn PySem.Challenge.rw_namedmoments_k01_whole_curves_judged.prog w K mg base 100 (He.ga K "Curve") (sp_Ceq (He.ga K)) := ⟨_, fde, eq_Curve c, bd_Curve_eq fde _ Fe, 1, by decide, q0⟩
  have y1 : Fn1 PySem.Challenge.rw_namedmoments_k01_whole_curves_judged.prog w K mg base _ _ _ _ := ok_law_common e (t_law_common X G c)
  have y2 : Fn1 PySem.Challenge.rw_namedmoments_k01_whole_curves_judged.prog w K mg base _ _ _ _ := ok_law_frac e (t_law_frac X G c) y1
  have y3 : Fn1 PySem.Challenge.rw_namedmoments_k01_whole_curves_judged.prog w K mg base _ _ _ _ := ok_law_less e (t_law_less X G c)
  have y4 : Fn1 PySem.Challenge.rw_namedmoments_k01_whole_curves_judged.prog w K mg base _ _ _ _ := ok_law_ordered e tb1 List.mem_cons_self (fun p hp _ => by rw [List.mem_singleton.mp hp]) y1 (txC X G (t_law_ordered X G c) t1)
  have y5 : Fn1 PySem.Challenge.rw_namedmoments_k01_whole_curves_judged.prog w K mg base _ _ _ _ := ok_law_terms e (t_law_terms X G c) y4
  have y6 : Fn1 PySem.Challenge.rw_namedmoments_k01_whole_curves_judged.prog w K mg base _ _ _ _ := ok_law_is_int e (t_law_is_int X G c)
  have y7 : Fn1 PySem.Challenge.rw_namedmoments_k01_whole_curves_judged.prog w K mg base _ _ _ _ := ok_law_is_fraction e (t_law_is_fraction X G c) y6 y1
  have y8 : Fn1 PySem.Challenge.rw_namedmoments_k01_whole_curves_judged.prog w K mg base _ _ _ _ := ok_law_is_term e (t_law_is_term X G c) y7 y6.up
  have y9 : Fn1 PySem.Challenge.rw_namedmoments_k01_whole_curves_judged.prog w K mg base _ _ _ _ := ok_law_is_behind e (t_law_is_behind X G c) y3
  have y10 : Fn1 PySem.Challenge.rw_namedmoments_k01_whole_curves_judged.prog w K mg base _ _ _ _ := ok_law_due e (t_law_due X G c) y9.up y8
  have y11 : Fn1 PySem.Challenge.rw_namedmoments_k01_whole_curves_judged.prog w K mg base _ _ _ _ := ok_law_told e (t_law_told X G c) ⟨5, by decide, kc⟩
  have z1 : Fn1 PySem.Challenge.rw_namedmoments_k01_whole_curves_judged.prog w K mg base _ _ _ _ := ok_law_bag e (t_law_bag X G c)
  have z2 : Fn1 PySem.Challenge.rw_namedmoments_k01_whole_curves_judged.prog w K mg base _ _ _ _ := ok_law_pick e (t_law_pick X G c)
  have z3 : Fn1 PySem.Challenge.rw_namedmoments_k01_whole_curves_judged.prog w K mg base _ _ _ _ := ok_law_some e (t_law_some X G c) z2
  have z4 : Fn1 PySem.Challenge.rw_namedmoments_k01_whole_curves_judged.prog w K mg base _ _ _ _ := ok_law_q e (t_law_q X G c) z3 z2.up y2
  have z5 : Fn1 PySem.Challenge.rw_namedmoments_k01_whole_curves_judged.prog w K mg base _ _ _ _ := ok_law_c e (t_law_c X G c) z3 z2.up y2
  have z6 : Fn1 PySem.Challenge.rw_namedmoments_k01_whole_curves_judged.prog w K mg base _ _ _ _ := ok_law_curve e (t_law_curve X G c) z4 z2.up z3.up z5 y5
  have z7 : Fn1 PySem.Challenge.rw_namedmoments_k01_whole_curves_judged.prog w K mg base _ _ _ _ := ok_law_deep e (t_law_deep X G c)
  have z8 : Fn1 PySem.Challenge.rw_namedmoments_k01_whole_curves_judged.prog w K mg base _ _ _ _ := ok_law_odd e (t_law_odd X G c) z7.up z3
  have z9 : Fn1 PySem.Challenge.rw_namedmoments_k01_whole_curves_judged.prog w K mg base _ _ _ _ := ok_law_bent e (t_law_bent X G c) z2.up z8.up z3.up z6
  have z10 : Fn1 PySem.Challenge.rw_namedmoments_k01_whole_curves_judged.prog w K mg base _ _ _ _ := ok_law_is 1000 (Nat.le_refl _) e (t_law_is X G c) 27
  exact ok_law e F z1.up z6.up y11.up z10.up ⟨5, by decide, kc⟩ z2.up z9.up y10.up q1
instance noTabs : TabCtx := ⟨[]⟩
end K01
open PySem PySem.W PySem.Calls PyProof.Rows
theorem PySem.Challenge.cw_namedmoments_k01_whole_curves_judged_holds : PySem.Challenge.rw_namedmoments_k01_whole_curves_judged.Holds := by
  w_on; o_law
  refine HandSHeadRun.head_any (r := K01.RR) (q := view K01.RR.prog [42]) (H := K01.hk) (ob := K01.ob) (M := 30000) (loose := K01.names) (d := HandSHeadRun.topDef K01.RR.prog 42) (kwd := []) K01.ob_eq (by kernel_rfl) (fun s => by kernel_rfl) K01.run (by kernel_rfl) (by kernel_rfl) (by kernel_rfl) (by rfl)
    (by first | assumption | decide +kernel) (by decide +kernel) ⟨rfl, rfl, rfl, rfl, rfl, by decide +kernel⟩ ?hw ?hc
  case hw => w_witness2
  case hc =>
    refine PL.walk_plT (l := PySem.Challenge.rw_namedmoments_k01_whole_curves_judged) (n := 63) (k := 101) (x := "_law_script") rfl (by decide) (by kernel_rfl) ⟨rfl, by decide, by decide⟩ ?F
    intro w mg fa h Y G hmg0
    obtain ⟨K, KX, c⟩ := Y
    have hmg : mg ("law" : PySem.Str) = some (.ref fa) := by
      have e : (HandSHeadRun.topDef K01.RR.prog 42).name = ("law" : PySem.Str) := by kernel_rfl
      rw [← e]
      exact hmg0
    obtain ⟨fd, cs, sp, h1, h2, h3, h4, h5, h6⟩ := K01.facts (w := w) KX G hmg c
    exact ⟨K, fd, cs, sp, KX, h1, h2, h3, h4, h5, h6⟩
end
