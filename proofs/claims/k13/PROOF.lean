import PyProof.Rows.All
import HandS.OwnIter
import HandS.HotCalls
import HandS.Comp
import Wide.All
import OpenK.AllK
import Wide.FinOn
import HandS.ForMost
import HandS.ForExc
import KE.KDictCopyH
import KE.KeyNested
import HandS.ExcInitHot
import HandS.CallSlots
import HandS.Style
import HandS.IsInst
import HandS.TupAny
import HandS.WordsList
import HandS.Flow
import HandS.ExcIs
import HandS.More
import HandS.WrittenGet
import HandS.Defaults
import HandS.Property
import HandS.ClsMeth
import HandS.Strs
import KE.KSuperObj
import KE.KExcSuper
import HandS.ExcInit
import HandS.ExcSuper
import KE.KExcIs
import HandS.ExcField
import HandS.Star
import HandS.MakeKwOnly
import HandS.Deep
import HandS.Zip
import KE.DataAny
import PyProof.P3In
import HandS.Small
import HandS.DictComp
import HandS.TryOnly
import HandS.List
import HandS.Iter
import PyProof.GenQ
import PyProof.Rows.RowBridgeG
import HandS.GenList
import HandS.Call
import HandS.ExcCtx
import HandS.TupSets
import HandS.IterNext
import PyProof.WalksMore
import HandS.Exc
import HandS.ExcOwn
import KE.SortKeyHeap
import HandS.SortKw
import HandS.SetFor
import HandS.WordsDict
import HandS.SortInts
import HandS.ListItems
import PyProof.StrOps2
import HandS.ExcValue
import HandS.Sort
import PySem.Challenge.RW_bookstogether_k13_whole_arbiter_gaps
set_option Elab.async false
set_option linter.all false
set_option maxRecDepth 100000
set_option maxHeartbeats 4000000
/-! The end of a walk: an iterator has nothing left, StopIteration is made, raised and caught by the one who asked. -/
namespace StopW
open PySem PySem.Spec PyProof.Rows HotX
section
variable {M : Model} {A B : Around} {E : Value → Shared → Prop} {s : Shared}
/-- what the asker does with what was raised -/
abbrev Asker (M : Model) (A : Around) (E : Value → Shared → Prop) (Q : Option Value → Shared → Prop) (x : Value) (s' : Shared) : Prop :=
  wpAny M A (do if ← isInstance x (.type "StopIteration") then pure none else throw x) Q E s'
theorem asker_none {a : Addr} {o : Obj} {Q : Option Value → Shared → Prop} (h : s.heap.get? a = some o) (c : o.cls = .type "StopIteration") (q : Q none s) : Asker M A E Q (.ref a) s :=
  wpAny_bind (wpAny_isInstance (b := true) ⟨o, h, c⟩ isSubtype_stop (wpAny_pure q))
/-- the exception's object comes to stand, with its empty tuple ahead of it -/
theorem stop_made {α : Type} {k : Value → Sem α} {Q : α → Shared → Prop}
    (h : ∀ h' a, (∀ b o, s.heap.get? b = some o → h'.get? b = some o ∧ b ≠ a) → (∃ vs, vs.size = 6 ∧ h'.get? a = some { cls := .type "StopIteration", data := .fields vs }) → wpAny M A (k (.ref a)) Q E { s with heap := h' }) :
    wpAny M A (newExc (.type "StopIteration") [] >>= k) Q E s := by
  have ok := h ((s.heap.push { cls := .type "tuple", data := .seq ([] : List Value).toArray }).push { cls := .type "StopIteration", data := .fields (#[.ref s.heap.objs.size, .none, .none, .none, .bool false, .none]) }) (s.heap.push { cls := .type "tuple", data := .seq ([] : List Value).toArray }).objs.size
    (fun b o e => ⟨Heap.get?_push_of_some _ (Heap.get?_push_of_some _ e), by rw [Heap.size_push]; exact Nat.ne_of_lt (Nat.lt_succ_of_lt (Heap.lt_size e))⟩) ⟨_, rfl, Heap.get?_push_size _ rfl⟩
  apply wpAny_bind
  unfold newExc
  exact wpAny_bind (wpAny_newObj_type (wpAny_bind (wpAny_of_eq (a := Value.none) (by first | rfl | (simp only [firstArgMember]; rfl)) (wpAny_newObj_type ok))))
end
section
variable {prog : Program} {w : World} {A B : Around} {E : Value → Shared → Prop} {s : Shared}
end
end StopW
/-! list(x), whatever x is: a new empty list comes to stand, then it is extended by x. And the touch that makes room. -/
namespace ListW
open PySem PySem.Spec PyProof.Rows
section
variable {prog : Program} {w : World} {A : Around} {E : Value → Shared → Prop} {s : Shared}
end
end ListW
/-! What a comprehension's block shares, whatever it walks: its new list, what holds when the block is left, the end of a turn. -/
namespace BlkW
open PySem PySem.Spec PyProof.Rows L2
section
variable {X : Cx} {pins : List (Addr × Obj)} {σ σ' : L2.St} {H H' : Hp} {s s' s3 : Shared} {D : Addr} {fp : List Addr} {scope : Scope} {ce : Env} {xe : Value → Shared → Prop}
theorem left {ps : List (Addr × Obj)} (I : Inv X pins σ H s3) (f : ∀ b ∈ fp, FpOk X pins H b ∧ b < s3.heap.objs.size) (cL : ce.locals = s3.heap.objs.size) (J : Inv { X.blk s3 H scope ce fp with xe := xe } ps σ' H' s') :
    Inv X pins σ H' s' ∧ (∃ m, s'.heap.Ns ce.locals m) ∧ FpOk X pins H' ce.locals := by
  have none : H' ce.locals = none := J.free
  refine ⟨I.call' (ch := fp) J.os J.base J.hok J.bare fun b hb => ?_, let ⟨m, z, _⟩ := J.loc; ⟨m, z⟩, cL ▸ I.fpOk (Nat.le_refl _) (cL ▸ none)⟩
  have ⟨⟨_, x1, _, x3, x4, x5⟩, _⟩ := f b hb
  exact ⟨x3, x1, x4, x5⟩
theorem closed {own : List (Str × Nat)} (I : Inv X pins σ H s) (ok : BlkOk X.N X.env.scope scope own) : ∀ y ∈ scope.names, y.2 = .free → ∃ c, X.env.cells.lookup y.1 = some c :=
  fun y hy e => (ok.free y hy e).elim (fun k => I.ok.has _ (.inl k)) fun k => I.ok.has _ (.inr k)
theorem still {b : Addr} (J : Inv { X.blk s3 H scope ce fp with xe := xe } [] σ' H' s') (hb : b ∈ fp) (n : H' b = none) : FpOk { X.blk s3 H scope ce fp with xe := xe } [] H' b :=
  have ⟨x1, x2⟩ := J.ok.exf b hb
  ⟨n, x1, J.ok.exfs b hb, .inl hb, fun x c e => x2 x c e, fun p hp => nomatch (show p ∈ ([] : List (Addr × Obj)) ++ [] from hp)⟩
theorem turned {B : Cx} {js : List Nat} {h : Heap} (hw : wipe σ' js = wipe σ js) (J : Inv B ([] ++ pinsAt fp h) σ' H' s') :
    Inv B [] (wipe σ js) H' s' ∧ ∀ b ∈ fp, ∀ o, h.get? b = some o → s'.heap.get? b = some o ∧ H' b = none := by
  refine ⟨(J.unpinned (pins := [])).weak (by rw [← hw]; exact wipe_length ..) fun j v e => (wipe_some (hw.symm ▸ e)).1, fun b hb o e => ?_⟩
  have z := J.pin (b, o) (List.mem_append_right _ (List.mem_append_right _ (mem_pinsAt hb e)))
  exact ⟨z.1, z.2.1⟩
end
end BlkW
namespace T2
open PySem L2
/-! ### dicts whose keys are tuples of whole numbers, None and such tuples, at the kit's level -/
abbrev NK := NestedKey
mutual
def noTx : NK → Bool
  | .none => true
  | .num _ => true
  | .text _ => false
  | .tup ks => noTxs ks
def noTxs : List NK → Bool
  | [] => true
  | k :: ks => noTx k && noTxs ks
end
def NoTx (k : NK) : Prop := noTx k = true ∧ k.depth ≤ 8
mutual
def rHash : NK → Int
  | .none => reduceHash 0xFCA86420
  | .num i => hashInt i
  | .text _ => 0
  | .tup ks => reduceHash (Builtin.Tuple.tupleHashOf (rHashes ks))
def rHashes : List NK → List Int
  | [] => []
  | k :: ks => rHash k :: rHashes ks
end
mutual
theorem rHash_eq0 {w : World} : ∀ {k : NK}, noTx k = true → NestedKey.hash w k = rHash k
  | .none, _ => by unfold NestedKey.hash rHash; rfl
  | .num i, _ => by unfold NestedKey.hash rHash; rfl
  | .text _, h => by unfold noTx at h; cases h
  | .tup ks, h => by
    unfold noTx at h
    unfold NestedKey.hash rHash
    rw [rHashes_eq h]
theorem rHashes_eq {w : World} : ∀ {ks : List NK}, noTxs ks = true → NestedKey.hashes w ks = rHashes ks
  | [], _ => by unfold NestedKey.hashes rHashes; rfl
  | k :: ks, h => by
    unfold noTxs at h
    rw [Bool.and_eq_true] at h
    unfold NestedKey.hashes rHashes
    rw [rHash_eq0 h.1, rHashes_eq h.2]
end
theorem rHash_eq {P : Program} {w : World} {k : NK} (h : NoTx k) : (nestedKind P w).hash k = rHash k := rHash_eq0 h.1
def rEnt (x : NK × Addr × Value) : DictEntry := ⟨rHash x.1, .ref x.2.1, x.2.2⟩
def RowsAt (a : Addr) (xs : List (NK × Addr × Value)) (h : Heap) : Prop := xs.length ≤ sizeLine ∧ (a == sysModules) = false ∧ (∀ x ∈ xs, NoTx x.1) ∧
  ∃ o es ep, h.get? a = some o ∧ o.ExactDict ∧ o.data = .dict es ep ∧ es.toList = xs.map rEnt ∧ (xs.map (·.1)).Nodup
theorem RowsAt.stay {a : Addr} {xs : List (NK × Addr × Value)} {h1 h2 : Heap} (R : RowsAt a xs h1) (k : ∀ o, h1.get? a = some o → h2.get? a = some o) : RowsAt a xs h2 := by
  obtain ⟨z, y, n, o, es, ep, h1, r⟩ := R
  exact ⟨z, y, n, o, es, ep, k _ h1, r⟩
theorem rEnt_eq {P : Program} {w : World} {xs : List (NK × Addr × Value)} (h : ∀ x ∈ xs, NoTx x.1) : xs.map rEnt = xs.map (entryOfKey (nestedKind P w)) :=
  List.map_congr_left fun x hx => by
    show DictEntry.mk (rHash x.1) _ _ = DictEntry.mk ((nestedKind P w).hash x.1) _ _
    rw [rHash_eq (h x hx)]
theorem RowsAt.dict {P : Program} {w : World} {a : Addr} {xs : List (NK × Addr × Value)} {h : Heap} (R : RowsAt a xs h) (kt : ∀ x ∈ xs, (nestedKind P w).is h x.1 x.2.1) : h.DictOfH (nestedKind P w) a xs := by
  obtain ⟨z, y, n, o, es, ep, h1, h2, h3, h4, h5⟩ := R
  exact ⟨o, es, ep, h1, h2, h3, h4.trans (rEnt_eq n), kt, h5⟩
theorem RowsAt.of {P : Program} {w : World} {a : Addr} {xs : List (NK × Addr × Value)} {h : Heap} (d : h.DictOfH (nestedKind P w) a xs) (z : xs.length ≤ sizeLine) (y : (a == sysModules) = false) (n : ∀ x ∈ xs, NoTx x.1) : RowsAt a xs h := by
  obtain ⟨o, es, ep, h1, h2, h3, h4, _, h5⟩ := d
  exact ⟨z, y, n, o, es, ep, h1, h2, h3, h4.trans (rEnt_eq n).symm, h5⟩
theorem rows_ok {P : Program} {w : World} {H : Hp} {a : Addr} {xs : List (NK × Addr × Value)} {h : Heap} (R : RowsAt a xs h) : ObjOk P w H h a (.ext (RowsAt a xs)) :=
  ⟨R, let ⟨_, _, _, o, _, _, h1, _⟩ := R; ⟨o, h1⟩, fun _ _ r k => r.stay k⟩
/-- a thing that is described as the dict at b stands at b -/
theorem rows_addr {P : Program} {w : World} {H : Hp} {a b : Addr} {xs : List (NK × Addr × Value)} {h : Heap} (x : ObjOk P w H h a (.ext (RowsAt b xs))) : b = a := by
  by_cases e : b = a
  · exact e
  · obtain ⟨R, ⟨o, ho⟩, st⟩ := x
    let h2 : Heap := { h with objs := h.objs.setIfInBounds b { cls := .none, data := .freed } }
    have k : ∀ o, h.get? a = some o → h2.get? a = some o := fun o ho => by
      unfold Heap.get? at ho ⊢
      show (match (h.objs.setIfInBounds b _)[a]? with | some ⟨_, _, .freed, _⟩ => none | o => o) = _
      rw [Array.getElem?_setIfInBounds_ne e]
      exact ho
    have R2 := st h h2 R k
    obtain ⟨_, _, _, o2, _, _, h5, _⟩ := R2
    obtain ⟨_, _, _, o1, _, _, h6, _⟩ := R
    have hb : b < h.objs.size := Heap.lt_size h6
    unfold Heap.get? at h5
    rw [show h2.objs[b]? = some { cls := .none, data := .freed } from by show (h.objs.setIfInBounds b _)[b]? = _; rw [Array.getElem?_setIfInBounds_self_of_lt hb]] at h5
    cases h5
end T2
namespace T2
open PySem L2
/-! ### reading and writing such a dict -/
mutual
/-- the value v is the key k -/
inductive NKey (K : PySem.W.Frag) (H : Hp) : NK → V → Prop
  | none : NKey K H .none .non
  | num (i : Int) : NKey K H (.num i) (.int i)
  | text (x : Str) : NKey K H (.text x) (.str x)
  | tup {a : Addr} {ks : List NK} {vs : List V} (h : SqT K H a vs) (r : NKeys K H ks vs) : NKey K H (.tup ks) (.ref a)
inductive NKeys (K : PySem.W.Frag) (H : Hp) : List NK → List V → Prop
  | nil : NKeys K H [] []
  | cons {k : NK} {v : V} {ks : List NK} {vs : List V} (h : NKey K H k v) (t : NKeys K H ks vs) : NKeys K H (k :: ks) (v :: vs)
end
mutual
theorem NKey.mono {K : PySem.W.Frag} {H H' : Hp} (f : ∀ a vs, SqT K H a vs → SqT K H' a vs) : ∀ {k : NK} {v : V}, NKey K H k v → NKey K H' k v
  | _, _, .none => .none
  | _, _, .num i => .num i
  | _, _, .text x => .text x
  | _, _, .tup h r => .tup (f _ _ h) (NKeys.mono f r)
theorem NKeys.mono {K : PySem.W.Frag} {H H' : Hp} (f : ∀ a vs, SqT K H a vs → SqT K H' a vs) : ∀ {ks : List NK} {vs : List V}, NKeys K H ks vs → NKeys K H' ks vs
  | _, _, .nil => .nil
  | _, _, .cons h t => .cons (NKey.mono f h) (NKeys.mono f t)
end
section
variable {X : Cx} {pins : List (Addr × Obj)} {σ : St} {H : Hp} {s : Shared} {a b : Addr} {y v : V} {u r : Value} {A : Around} {E : Value → Shared → Prop} {xs : List (NK × Addr × Value)} {vs : List V} {k : NK}
mutual
theorem nkey_is (I : Inv X pins σ H s) : ∀ {k : NK} {v : V} {u : Value}, NKey X.K H k v → RelV v u → NestedIs s.heap k u
  | .none, _, u, n, h => by
    cases n
    cases (show u = Value.none from h)
    exact .none
  | .num i, _, u, n, h => by
    cases n
    obtain ⟨t, rfl⟩ := (show ∃ t, u = Value.int i t from h)
    exact .int i t
  | .text x, _, u, n, h => by
    cases n
    obtain ⟨t, rfl⟩ := (show ∃ t, u = Value.str x t from h)
    exact .text x t
  | .tup ks, _, u, n, h => by
    cases n with
    | tup h1 r =>
      obtain rfl := (show u = Value.ref _ from h)
      obtain ⟨its, r2, ⟨o, h1, h2, n, h3⟩, _⟩ := I.tuple h1
      exact .tup h1 h2 h3 (by simpa using nkeys_is I r r2)
theorem nkeys_is (I : Inv X pins σ H s) : ∀ {ks : List NK} {vs : List V} {us : List Value}, NKeys X.K H ks vs → Vals vs us → NestedAll s.heap ks us
  | [], _, _, n, h => by
    cases n
    cases h
    exact .nil
  | k :: ks, _, _, n, h => by
    cases n with
    | cons n1 n2 =>
      cases h with
      | cons h1 h2 => exact .cons (nkey_is I n1 h1) (nkeys_is I n2 h2)
end
theorem leaf_key (I : Inv X pins σ H s) (h : NKey X.K H k (.ref b)) (n : NoTx k) : (nestedKind X.prog X.w).is s.heap k b := ⟨nkey_is I h (show Value.ref b = Value.ref b from rfl), n.2⟩
/-- the dict at a: its entries, and what their values are -/
structure RD (K : PySem.W.Frag) (H : Hp) (a : Addr) (xs : List (NK × Addr × Value)) (vs : List V) : Prop where
  obj : ∃ a', Rd H a (.ext (RowsAt a' xs))
  kt : ∀ x ∈ xs, NKey K H x.1 (.ref x.2.1)
  vl : Vals vs (xs.map (·.2.2))
theorem RD.rows (D : RD X.K H a xs vs) (I : Inv X pins σ H s) : RowsAt a xs s.heap := by
  obtain ⟨a', o⟩ := D.obj
  have x := (show ObjOk X.prog X.w H s.heap a (.ext (RowsAt a' xs)) from rd_of I.hok o)
  have e := rows_addr x
  subst e
  exact x.1
theorem RD.dict (D : RD X.K H a xs vs) (I : Inv X pins σ H s) : s.heap.DictOfH (nestedKind X.prog X.w) a xs := (D.rows I).dict fun x hx => leaf_key I (D.kt x hx) ((D.rows I).2.2.1 x hx)
/-- what stands under a key -/
def rvGet : List (NK × Addr × Value) → List V → NK → Option V
  | x :: xs, v :: vs, k => if x.1 = k then some v else rvGet xs vs k
  | _, _, _ => none
theorem rvGet_at : ∀ {xs : List (NK × Addr × Value)} {vs : List V} (k : NK), Vals vs (xs.map (·.2.2)) → RelO (rvGet xs vs k) ((atKey xs k).map (·.2))
  | [], _, k, h => by cases h; exact True.intro
  | x :: xs, vs, k, h => by
    rw [List.map_cons] at h
    cases h with
    | cons h t =>
      unfold rvGet atKey
      rw [List.find?_cons]
      by_cases e : x.1 = k
      · rw [if_pos e, decide_eq_true e]
        exact h
      · rw [if_neg e, decide_eq_false e]
        exact rvGet_at k t
theorem r_getItem {Q : Value → Shared → Prop} (hu : A.in1.units + 8 < cLine) (I : Inv X pins σ H s) (D : RD X.K H a xs vs) (kt : NKey X.K H k (.ref b)) (nk : NoTx k) (l : rvGet xs vs k = some v) (h : ∀ w' s', Inv X pins σ H s' → RelV v w' → Q w' s') :
    wpAny (model X.prog X.w) A (getItem (.ref a) (.ref b)) Q E s := by
  obtain ⟨w', hw, rw'⟩ := RelO.some_of (v := v) (o := (atKey xs k).map (·.2)) (by rw [← l]; exact rvGet_at k D.vl)
  obtain ⟨p, hp, hp2⟩ := Option.map_eq_some_iff.mp hw
  refine wpAny_getItem_heap hu (leaf_key I kt nk) (D.dict I) hp ?_
  rw [hp2]
  exact h w' _ (I.tok _) rw'
theorem r_in {Q : Value → Shared → Prop} (hu : A.in1.units + 8 < cLine) (I : Inv X pins σ H s) (D : RD X.K H a xs vs) (kt : NKey X.K H k (.ref b)) (nk : NoTx k) (h : ∀ s', Inv X pins σ H s' → Q (.bool (rvGet xs vs k).isSome) s') :
    wpAny (model X.prog X.w) A (compareOp .In (.ref b) (.ref a)) Q E s := by
  refine wpAny_in_heap hu (leaf_key I kt nk) (D.rows I).2.1 (D.dict I) ?_
  have q := (rvGet_at k D.vl).isSome_eq
  rw [Option.isSome_map] at q
  rw [← q]
  exact h _ (I.tok _)
/-- what is stored -/
def rvPut : List (NK × Addr × Value) → List V → NK → V → List V
  | x :: xs, v :: vs, k, y => (if x.1 = k then y else v) :: rvPut xs vs k y
  | _, _, _, _ => []
theorem rvPut_old : ∀ {xs : List (NK × Addr × Value)} {vs : List V} (k : NK) {y : V} {u : Value}, RelV y u → Vals vs (xs.map (·.2.2)) → Vals (rvPut xs vs k y) ((xs.map (putAt k u)).map (·.2.2))
  | [], _, k, y, u, _, h => by cases h; exact .nil
  | x :: xs, vs, k, y, u, hy, h => by
    rw [List.map_cons] at h
    cases h with
    | cons h t =>
      unfold rvPut
      rw [List.map_cons, List.map_cons]
      refine .cons ?_ (rvPut_old k hy t)
      unfold putAt
      by_cases e : x.1 = k
      · rw [if_pos e, if_pos e]; exact hy
      · rw [if_neg e, if_neg e]; exact h
theorem vals_snoc : ∀ {vs : List V} {us : List Value} {y : V} {u : Value}, Vals vs us → RelV y u → Vals (vs ++ [y]) (us ++ [u])
  | _, _, _, _, .nil, h => .cons h .nil
  | _, _, _, _, .cons h t, hy => .cons h (vals_snoc t hy)
theorem rows_empty {P : Program} {w : World} {H : Hp} (h : Heap) (hb : sysModules < h.objs.size) : RowsAt h.objs.size [] (h.push { cls := .type "dict", data := .dict #[] }) :=
  ⟨Nat.zero_le _, beq_eq_false_iff_ne.mpr (Ne.symm (Nat.ne_of_lt hb)), fun x hx => absurd hx (List.not_mem_nil), _, #[], 0, Heap.get?_push_size _ rfl, ⟨rfl, rfl, rfl⟩, rfl, rfl, List.nodup_nil⟩
end
end T2
namespace T2
open PySem L2

/-! ### values that are trees; the things that change stand in a list, by place -/
inductive D where
  | non | bl (b : Bool) | int (i : Int) | str (x : Str) | ty (n : String) | cls (c : Nat) | ref (n : Nat) | obj (a : Addr) | tk (ks : List Key)
  | tup (ds : List D) | fro (ds : List D) | ins (c : Nat) (ns : List Str) (ds : List D)
inductive MO where
  | lst (ds : List D) | dk (ks : List Key) (ds : List D) | dt (ks : List (List Key)) (ds : List D) | ob (c : Nat) (ns : List Str) (ds : List D) | lk (ks : List Key) (ds : List D) | lt (ks : List (List Key)) (ds : List D) | dp (ks : List NK) (ds : List D) | lp (ks : List NK) (ds : List D)
abbrev MH := List MO
abbrev Env2 := List (Option D)
inductive Res (A : Type) where
  | ok (a : A) (M : MH) | exc (c : Nat) (ns : List Str) (ds : List D) (M : MH) | bad
inductive SR where
  | nx (e : Env2) (M : MH) | rt (d : D) (M : MH) | bk (e : Env2) (M : MH) | ct (e : Env2) (M : MH) | ex (c : Nat) (ns : List Str) (ds : List D) (e : Env2) (M : MH) | bad
def Res.bind {A B : Type} (r : Res A) (k : A → MH → Res B) : Res B := match r with
  | .ok a M => k a M
  | .exc c ns ds M => .exc c ns ds M
  | .bad => .bad
@[simp] theorem Res.bind_ok {A B : Type} (a : A) (M : MH) (k : A → MH → Res B) : (Res.ok a M).bind k = k a M := rfl
@[simp] theorem Res.bind_exc {A B : Type} (c : Nat) (ns : List Str) (ds : List D) (M : MH) (k : A → MH → Res B) : (Res.exc c ns ds M : Res A).bind k = .exc c ns ds M := rfl
@[simp] theorem Res.bind_bad {A B : Type} (k : A → MH → Res B) : (Res.bad : Res A).bind k = .bad := rfl

/-- the written part, and where the classes of the text stand -/
structure Wd where
  K : PySem.W.Frag
  ca : Nat → Addr
/-- a list that never changes any more -/
def FroL (g : Wd) (F : List Addr) (H : Hp) (a : Addr) (vs : List V) : Prop :=
  (H a = some (.lst vs) ∧ a ∉ F) ∨ (∃ o, H a = some (.frz o (.lst vs))) ∨
    ∃ (o : Obj) (its : Array Value) (n : Nat), g.K.lookup a = some o ∧ o.cls = .type "list" ∧ o.dict = none ∧ o.data = .seq its n ∧ its.size ≤ sizeLine ∧ Vals vs its.toList
theorem FroL.sq {g : Wd} {F : List Addr} {H : Hp} {a : Addr} {vs : List V} (h : FroL g F H a vs) : SqL g.K H a vs := by
  rcases h with h | h | h
  · exact .inl (.inl h.1)
  · exact .inl (.inr h)
  · exact .inr h
mutual
inductive Rep (g : Wd) (F : List Addr) (H : Hp) : D → V → Prop
  | non : Rep g F H .non .non
  | bl (b : Bool) : Rep g F H (.bl b) (.bl b)
  | int (i : Int) : Rep g F H (.int i) (.int i)
  | str (x : Str) : Rep g F H (.str x) (.str x)
  | ty (n : String) : Rep g F H (.ty n) (.ty n)
  | cls (c : Nat) : Rep g F H (.cls c) (.ref (g.ca c))
  | obj (a : Addr) : Rep g F H (.obj a) (.ref a)
  | tk {a : Addr} {ks : List Key} (h : H a = some (.tup (ks.map kV))) : Rep g F H (.tk ks) (.ref a)
  | ref {n : Nat} {a : Addr} (h : F[n]? = some a) : Rep g F H (.ref n) (.ref a)
  | tup {a : Addr} {ds : List D} {vs : List V} (h : SqT g.K H a vs) (r : Reps g F H ds vs) : Rep g F H (.tup ds) (.ref a)
  | fro {a : Addr} {ds : List D} {vs : List V} (h : FroL g F H a vs) (r : Reps g F H ds vs) : Rep g F H (.fro ds) (.ref a)
  | ins {a dx : Addr} {c : Nat} {ns : List Str} {ds : List D} {vs : List V} (h : H a = some (.ins (g.ca c) dx (ns.zip vs))) (hn : a ∉ F) (hl : ns.length = vs.length) (r : Reps g F H ds vs) : Rep g F H (.ins c ns ds) (.ref a)
inductive Reps (g : Wd) (F : List Addr) (H : Hp) : List D → List V → Prop
  | nil : Reps g F H [] []
  | cons {d : D} {v : V} {ds : List D} {vs : List V} (h : Rep g F H d v) (t : Reps g F H ds vs) : Reps g F H (d :: ds) (v :: vs)
end

/-- no dict that is locked -/
def NoLk : Option HO → Prop
  | some (.frz _ (.dK _)) => False
  | some (.frz _ (.dT _)) => False
  | some (.frz _ (.ext _)) => False
  | _ => True
theorem nolk_of {H : Hp} {a : Addr} {o : HO} (h : H a = some o) (w : NoLk (some o)) : NoLk (H a) := by rw [h]; exact w
/-- from one moment to a later one -/
structure Grow (F : List Addr) (H : Hp) (F' : List Addr) (H' : Hp) : Prop where
  pre : F <+: F'
  keep : ∀ b o, H b = some o → b ∉ F → H' b = some o
  new : ∀ b, b ∈ F' → b ∈ F ∨ H b = none
  lock : ∀ b o, H b = some o → ¬ NoLk (some o) → H' b = some o
/-- what may stand at a place of the changing things -/
def MutO : Option HO → Prop
  | some (.lst _) => True
  | some (.dK _) => True
  | some (.dT _) => True
  | some (.ins _ _ _) => True
  | some (.frz _ (.dK _)) => True
  | some (.frz _ (.dT _)) => True
  | some (.ext φ) => ∃ b xs, φ = RowsAt b xs
  | some (.frz _ (.ext _)) => True
  | _ => False
def Good (F : List Addr) (H : Hp) : Prop := ∀ a ∈ F, MutO (H a)
theorem Grow.same {F : List Addr} {H : Hp} : Grow F H F H := ⟨List.prefix_refl _, fun _ _ h _ => h, fun _ h => .inl h, fun _ _ h _ => h⟩
theorem Grow.trans {F F1 F2 : List Addr} {H H1 H2 : Hp} (a : Grow F H F1 H1) (b : Grow F1 H1 F2 H2) : Grow F H F2 H2 := by
  refine ⟨a.pre.trans b.pre, fun x o e n => ?_, fun x e => ?_, fun x o e n => b.lock x o (a.lock x o e n) n⟩
  · refine b.keep x o (a.keep x o e n) fun z => ?_
    rcases a.new x z with q | q
    · exact n q
    · rw [e] at q; cases q
  · rcases b.new x e with q | q
    · exact a.new x q
    · by_cases h : x ∈ F
      · exact .inl h
      · cases w : H x with
        | none => exact .inr rfl
        | some o => rw [a.keep x o w h] at q; cases q
theorem Grow.keep2 {F F' : List Addr} {H H' : Hp} (g : Grow F H F' H') {b : Addr} {o : HO} (e : H b = some o) (n : b ∉ F ∨ ¬ NoLk (some o)) : H' b = some o := n.elim (g.keep b o e) (g.lock b o e)
theorem pre_get {A : Type} {l l' : List A} {n : Nat} {a : A} (p : l <+: l') (h : l[n]? = some a) : l'[n]? = some a := by
  obtain ⟨t, rfl⟩ := p
  have hl : n < l.length := (List.getElem?_eq_some_iff.mp h).1
  rw [List.getElem?_append_left hl]; exact h
theorem Grow.off {F F' : List Addr} {H H' : Hp} (g : Grow F H F' H') {a : Addr} {o : HO} (e : H a = some o) (n : a ∉ F) : a ∉ F' := fun z => by
  rcases g.new a z with q | q
  · exact n q
  · rw [e] at q; cases q
theorem Good.notin {F : List Addr} {H : Hp} (G : Good F H) {a : Addr} {o : HO} (e : H a = some o) (h : ¬ MutO (some o)) : a ∉ F := fun z => by
  have := G a z; rw [e] at this; exact h this
section
variable {g : Wd} {F F' : List Addr} {H H' : Hp}
theorem FroL.mono {a : Addr} {vs : List V} (gr : Grow F H F' H') (G : Good F H) (h : FroL g F H a vs) : FroL g F' H' a vs := by
  rcases h with ⟨h, n⟩ | ⟨o, h⟩ | h
  · exact .inl ⟨gr.keep _ _ h n, gr.off h n⟩
  · exact .inr (.inl ⟨o, gr.keep _ _ h (G.notin h (by intro z; exact z))⟩)
  · exact .inr (.inr h)
theorem sqT_mono {a : Addr} {vs : List V} (gr : Grow F H F' H') (G : Good F H) (h : SqT g.K H a vs) : SqT g.K H' a vs := by
  rcases h with (h | ⟨o, h⟩) | h
  · exact .inl (.inl (gr.keep _ _ h (G.notin h (by intro z; exact z))))
  · exact .inl (.inr ⟨o, gr.keep _ _ h (G.notin h (by intro z; exact z))⟩)
  · exact .inr h
mutual
theorem Rep.mono (gr : Grow F H F' H') (G : Good F H) : ∀ {d : D} {v : V}, Rep g F H d v → Rep g F' H' d v
  | _, _, .non => .non
  | _, _, .bl b => .bl b
  | _, _, .int i => .int i
  | _, _, .str x => .str x
  | _, _, .ty n => .ty n
  | _, _, .cls c => .cls c
  | _, _, .obj a => .obj a
  | _, _, .tk h => .tk (gr.keep _ _ h (G.notin h (by intro z; exact z)))
  | _, _, .ref h => .ref (pre_get gr.pre h)
  | _, _, .tup h r => .tup (sqT_mono gr G h) (Reps.mono gr G r)
  | _, _, .fro h r => .fro (h.mono gr G) (Reps.mono gr G r)
  | _, _, .ins h hn hl r => .ins (gr.keep _ _ h hn) (gr.off h hn) hl (Reps.mono gr G r)
theorem Reps.mono (gr : Grow F H F' H') (G : Good F H) : ∀ {ds : List D} {vs : List V}, Reps g F H ds vs → Reps g F' H' ds vs
  | _, _, .nil => .nil
  | _, _, .cons h t => .cons (Rep.mono gr G h) (Reps.mono gr G t)
end
theorem Reps.length : ∀ {ds : List D} {vs : List V}, Reps g F H ds vs → ds.length = vs.length
  | _, _, .nil => rfl
  | _, _, .cons _ t => by simp [Reps.length t]
theorem Reps.get : ∀ {ds : List D} {vs : List V} {n : Nat} {d : D}, Reps g F H ds vs → ds[n]? = some d → ∃ v, vs[n]? = some v ∧ Rep g F H d v
  | _, _, _, _, .nil, e => by simp at e
  | _, _, 0, _, .cons h _, e => by simp at e; subst e; exact ⟨_, rfl, h⟩
  | _, _, n + 1, d, .cons _ t, e => by
    obtain ⟨v, h1, h2⟩ := Reps.get (n := n) (d := d) t (by simpa using e)
    exact ⟨v, by simpa using h1, h2⟩
theorem Reps.append : ∀ {ds es : List D} {vs us : List V}, Reps g F H ds vs → Reps g F H es us → Reps g F H (ds ++ es) (vs ++ us)
  | _, _, _, _, .nil, s => s
  | _, _, _, _, .cons h t, s => .cons h (Reps.append t s)
theorem Reps.set {d : D} {v : V} (r : Rep g F H d v) : ∀ {ds : List D} {vs : List V} (n : Nat), Reps g F H ds vs → Reps g F H (ds.set n d) (vs.set n v)
  | _, _, _, .nil => .nil
  | _, _, 0, .cons _ t => .cons r t
  | _, _, n + 1, .cons h t => .cons h (Reps.set r n t)
theorem Reps.take : ∀ {ds : List D} {vs : List V} (n : Nat), Reps g F H ds vs → Reps g F H (ds.take n) (vs.take n)
  | _, _, 0, _ => .nil
  | _, _, _ + 1, .nil => .nil
  | _, _, n + 1, .cons r t => .cons r (Reps.take n t)
theorem Reps.drop : ∀ {ds : List D} {vs : List V} (n : Nat), Reps g F H ds vs → Reps g F H (ds.drop n) (vs.drop n)
  | _, _, 0, r => r
  | _, _, _ + 1, .nil => .nil
  | _, _, n + 1, .cons _ t => Reps.drop n t
end

inductive ObjR (g : Wd) (F : List Addr) (H : Hp) : MO → HO → Prop
  | lst {ds : List D} {vs : List V} (r : Reps g F H ds vs) : ObjR g F H (.lst ds) (.lst vs)
  | dk {ks : List Key} {ds : List D} {vs : List V} (hl : ks.length = vs.length) (r : Reps g F H ds vs) : ObjR g F H (.dk ks ds) (.dK (ks.zip vs))
  | dt {ks : List (List Key)} {ds : List D} {vs : List V} (hl : ks.length = vs.length) (r : Reps g F H ds vs) : ObjR g F H (.dt ks ds) (.dT (ks.zip vs))
  | ob {c : Nat} {dx : Addr} {ns : List Str} {ds : List D} {vs : List V} (hl : ns.length = vs.length) (r : Reps g F H ds vs) : ObjR g F H (.ob c ns ds) (.ins (g.ca c) dx (ns.zip vs))
  | lk {o : Obj} {ks : List Key} {ds : List D} {vs : List V} (hl : ks.length = vs.length) (r : Reps g F H ds vs) : ObjR g F H (.lk ks ds) (.frz o (.dK (ks.zip vs)))
  | lt {o : Obj} {ks : List (List Key)} {ds : List D} {vs : List V} (hl : ks.length = vs.length) (r : Reps g F H ds vs) : ObjR g F H (.lt ks ds) (.frz o (.dT (ks.zip vs)))
  | dp {a : Addr} {xs : List (NK × Addr × Value)} {ks : List NK} {ds : List D} {vs : List V} (hk : xs.map (·.1) = ks) (kt : ∀ x ∈ xs, NKey g.K H x.1 (.ref x.2.1)) (vl : Vals vs (xs.map (·.2.2))) (r : Reps g F H ds vs) : ObjR g F H (.dp ks ds) (.ext (RowsAt a xs))
  | lp {o : Obj} {a : Addr} {xs : List (NK × Addr × Value)} {ks : List NK} {ds : List D} {vs : List V} (hk : xs.map (·.1) = ks) (kt : ∀ x ∈ xs, NKey g.K H x.1 (.ref x.2.1)) (vl : Vals vs (xs.map (·.2.2))) (r : Reps g F H ds vs) : ObjR g F H (.lp ks ds) (.frz o (.ext (RowsAt a xs)))
theorem ObjR.mono {g : Wd} {F F' : List Addr} {H H' : Hp} (gr : Grow F H F' H') (G : Good F H) {o : MO} {h : HO} (r : ObjR g F H o h) : ObjR g F' H' o h := by
  cases r with
  | lst r => exact .lst (r.mono gr G)
  | dk hl r => exact .dk hl (r.mono gr G)
  | dt hl r => exact .dt hl (r.mono gr G)
  | ob hl r => exact .ob hl (r.mono gr G)
  | lk hl r => exact .lk hl (r.mono gr G)
  | lt hl r => exact .lt hl (r.mono gr G)
  | dp hk kt vl r => exact .dp hk (fun x hx => (kt x hx).mono fun _ _ h => sqT_mono gr G h) vl (r.mono gr G)
  | lp hk kt vl r => exact .lp hk (fun x hx => (kt x hx).mono fun _ _ h => sqT_mono gr G h) vl (r.mono gr G)
theorem ObjR.mut {g : Wd} {F : List Addr} {H : Hp} {o : MO} {h : HO} (r : ObjR g F H o h) : MutO (some h) := by cases r <;> first | trivial | exact ⟨_, _, rfl⟩
structure RelM (g : Wd) (F : List Addr) (M : MH) (H : Hp) : Prop where
  len : F.length = M.length
  nd : F.Nodup
  obj : ∀ (n : Nat) (a : Addr) (o : MO), F[n]? = some a → M[n]? = some o → ∃ h, H a = some h ∧ ObjR g F H o h
theorem RelM.good {g : Wd} {F : List Addr} {M : MH} {H : Hp} (R : RelM g F M H) : Good F H := fun a ha => by
  obtain ⟨n, hn⟩ := List.getElem?_of_mem ha
  have hl : n < M.length := by have := (List.getElem?_eq_some_iff.mp hn).1; rw [R.len] at this; exact this
  obtain ⟨h, e, r⟩ := R.obj n a M[n] hn (List.getElem?_eq_getElem hl)
  rw [e]; exact r.mut
/-- nothing that is tracked changes, nothing new among the changing things -/
theorem RelM.keep {g : Wd} {F : List Addr} {M : MH} {H H' : Hp} (R : RelM g F M H) (k : ∀ b o, H b = some o → H' b = some o) : Grow F H F H' ∧ RelM g F M H' := by
  have gr : Grow F H F H' := ⟨List.prefix_refl _, fun b o e _ => k b o e, fun _ h => .inl h, fun b o e _ => k b o e⟩
  refine ⟨gr, R.len, R.nd, fun n a o e m => ?_⟩
  obtain ⟨h, e2, r⟩ := R.obj n a o e m
  exact ⟨h, k _ _ e2, r.mono gr R.good⟩
theorem upd_keeps {H : Hp} {p : Addr} {o : HO} (hp : H p = none) : ∀ b u, H b = some u → upd H p o b = some u := fun b u e => by rw [upd_ne (ne_of_none e hp)]; exact e
/-- a new thing that never changes -/
theorem RelM.still {g : Wd} {F : List Addr} {M : MH} {H : Hp} {p : Addr} {o : HO} (R : RelM g F M H) (hp : H p = none) : Grow F H F (upd H p o) ∧ RelM g F M (upd H p o) := R.keep (upd_keeps hp)
theorem RelM.notin {g : Wd} {F : List Addr} {M : MH} {H : Hp} {p : Addr} (R : RelM g F M H) (hp : H p = none) : p ∉ F := fun z => by
  have := R.good p z; rw [hp] at this; exact this
/-- a new thing that changes -/
theorem RelM.laid {g : Wd} {F : List Addr} {M : MH} {H : Hp} {p : Addr} {o : HO} {m : MO} (R : RelM g F M H) (hp : H p = none) (ho : ∀ F' H', Grow F H F' H' → ObjR g F' H' m o) : Grow F H (F ++ [p]) (upd H p o) ∧ RelM g (F ++ [p]) (M ++ [m]) (upd H p o) := by
  have gr : Grow F H (F ++ [p]) (upd H p o) := ⟨List.prefix_append _ _, fun b u e _ => upd_keeps hp b u e, fun b hb => by
    rcases List.mem_append.mp hb with q | q
    · exact .inl q
    · have e : b = p := by simpa using q
      rw [e]; exact .inr hp, fun b u e _ => upd_keeps hp b u e⟩
  refine ⟨gr, by simp [R.len], ?_, fun n a u e m2 => ?_⟩
  · rw [List.nodup_append]
    refine ⟨R.nd, by simp, fun x hx y hy => ?_⟩
    have : y = p := by simpa using hy
    rw [this]; intro z; rw [z] at hx; exact R.notin hp hx
  · by_cases hn : n < F.length
    · rw [List.getElem?_append_left hn] at e
      rw [List.getElem?_append_left (by rw [← R.len]; exact hn)] at m2
      obtain ⟨h, e2, r⟩ := R.obj n a u e m2
      exact ⟨h, upd_keeps hp _ _ e2, r.mono gr R.good⟩
    · have hn' : F.length ≤ n := Nat.le_of_not_lt hn
      rw [List.getElem?_append_right hn'] at e
      rw [List.getElem?_append_right (by rw [← R.len]; exact hn')] at m2
      have h0 : n - F.length = 0 := by
        have := (List.getElem?_eq_some_iff.mp e).1
        simp at this; omega
      rw [h0] at e
      rw [← R.len, h0] at m2
      simp at e m2
      subst e; subst m2
      exact ⟨o, upd_same, ho _ _ gr⟩
/-- a changing thing is changed -/
theorem RelM.put {g : Wd} {F : List Addr} {M : MH} {H : Hp} {n : Nat} {a : Addr} {o : HO} {m : MO} (R : RelM g F M H) (hn : F[n]? = some a) (hm : MutO (some o)) (ho : ∀ H', Grow F H F H' → ObjR g F H' m o) (hx : NoLk (H a) := by apply nolk_of <;> first | assumption | trivial) : Grow F H F (upd H a o) ∧ RelM g F (M.set n m) (upd H a o) := by
  have ha : a ∈ F := List.mem_of_getElem? hn
  have gr : Grow F H F (upd H a o) := ⟨List.prefix_refl _, fun b u e nb => by rw [upd_ne (fun z => nb (by rw [z]; exact ha))]; exact e, fun _ h => .inl h, fun b u e n => by rw [upd_ne (fun z => n (by rw [z] at e; rw [e] at hx; exact hx))]; exact e⟩
  refine ⟨gr, by simp [R.len], R.nd, fun k b u e m2 => ?_⟩
  by_cases hk : n = k
  · subst hk
    rw [hn] at e; cases e
    have hl : n < M.length := by have := (List.getElem?_eq_some_iff.mp hn).1; rw [R.len] at this; exact this
    rw [List.getElem?_set_self hl] at m2
    cases m2
    exact ⟨o, upd_same, ho _ gr⟩
  · rw [List.getElem?_set_ne hk] at m2
    obtain ⟨h, e2, r⟩ := R.obj k b u e m2
    refine ⟨h, ?_, r.mono gr R.good⟩
    rw [upd_ne]
    · exact e2
    · intro z
      subst z
      exact hk ((List.getElem?_inj (List.getElem?_eq_some_iff.mp hn).1 R.nd).mp (hn.trans e.symm))

/-! ### the frame's values -/
inductive OptR (g : Wd) (F : List Addr) (H : Hp) : Option D → Option V → Prop
  | none {v : Option V} : OptR g F H none v
  | some {d : D} {v : V} (r : Rep g F H d v) : OptR g F H (some d) (some v)
inductive EnvR (g : Wd) (F : List Addr) (H : Hp) : Env2 → St → Prop
  | nil : EnvR g F H [] []
  | cons {d : Option D} {v : Option V} {ds : Env2} {vs : St} (h : OptR g F H d v) (t : EnvR g F H ds vs) : EnvR g F H (d :: ds) (v :: vs)
section
variable {g : Wd} {F F' : List Addr} {H H' : Hp}
theorem EnvR.mono (gr : Grow F H F' H') (G : Good F H) : ∀ {e : Env2} {s : St}, EnvR g F H e s → EnvR g F' H' e s
  | _, _, .nil => .nil
  | _, _, .cons .none t => .cons .none (EnvR.mono gr G t)
  | _, _, .cons (.some r) t => .cons (.some (r.mono gr G)) (EnvR.mono gr G t)
theorem EnvR.get : ∀ {e : Env2} {s : St} {n : Nat} {d : D}, EnvR g F H e s → e[n]? = some (some d) → ∃ v, s[n]? = some (some v) ∧ Rep g F H d v
  | _, _, _, _, .nil, e => by simp at e
  | _, _, 0, _, .cons h _, e => by
    simp at e; subst e
    cases h with | some r => exact ⟨_, rfl, r⟩
  | _, _, n + 1, d, .cons _ t, e => by
    obtain ⟨v, h1, h2⟩ := EnvR.get (n := n) (d := d) t (by simpa using e)
    exact ⟨v, by simpa using h1, h2⟩
theorem EnvR.set {d : D} {v : V} (r : Rep g F H d v) : ∀ {e : Env2} {s : St} (n : Nat), EnvR g F H e s → EnvR g F H (e.set n (some d)) (s.set n (some v))
  | _, _, _, .nil => .nil
  | _, _, 0, .cons _ t => .cons (.some r) t
  | _, _, n + 1, .cons h t => .cons h (EnvR.set r n t)
theorem EnvR.unset : ∀ {e : Env2} {s : St} (n : Nat) (x : Option V), EnvR g F H e s → EnvR g F H (e.set n none) (s.set n x)
  | _, _, _, _, .nil => .nil
  | _, _, 0, _, .cons _ t => .cons .none t
  | _, _, n + 1, x, .cons h t => .cons h (EnvR.unset n x t)
theorem EnvR.length : ∀ {e : Env2} {s : St}, EnvR g F H e s → e.length = s.length
  | _, _, .nil => rfl
  | _, _, .cons _ t => by simp [EnvR.length t]
end
end T2
namespace T2
open PySem L2

/-! ### what is wanted behind a piece of code -/
/-- an exception's own fields -/
inductive XRep (g : Wd) (F : List Addr) (H : Hp) : List Str → List D → Option Addr → Prop
  | no : XRep g F H [] [] none
  | so {ns : List Str} {ds : List D} {vs : List V} {dd : Addr} (h : H dd = some (.xd (ns.zip vs))) (hne : ns ≠ []) (hl : ns.length = vs.length) (r : Reps g F H ds vs) : XRep g F H ns ds (some dd)
theorem XRep.mono {g : Wd} {F F' : List Addr} {H H' : Hp} {ns : List Str} {ds : List D} {d : Option Addr} (gr : Grow F H F' H') (G : Good F H) (x : XRep g F H ns ds d) : XRep g F' H' ns ds d := by
  cases x with
  | no => exact .no
  | so h hne hl r => exact .so (gr.keep _ _ h (G.notin h (by intro z; exact z))) hne hl (r.mono gr G)
/-- slots that hold a known thing (an exception, within its suite); the fields of such -/
structure PinD where
  xs : List (Nat × Addr)
  xr : List (List Str × List D × Option Addr)
/-- what is wished of an exception; what is pinned -/
structure WY where
  w : WX
  p : PinD
def Pin (xs : List (Nat × Addr)) (σ : St) : Prop := ∀ p ∈ xs, σ[p.1]? = some (some (.ref p.2))
theorem pin_nil {σ : St} : Pin [] σ := fun p h => by simp at h
theorem Pin.set {xs : List (Nat × Addr)} {σ : St} {i : Nat} {v : Option V} (h : Pin xs σ) (hi : ∀ p ∈ xs, i ≠ p.1) : Pin xs (σ.set i v) := fun p hp => by
  rw [List.getElem?_set_ne (hi p hp)]; exact h p hp
def Xrs (g : Wd) (l : List (List Str × List D × Option Addr)) (F : List Addr) (H : Hp) : Prop := ∀ t ∈ l, XRep g F H t.1 t.2.1 t.2.2
theorem xrs_nil {g : Wd} {F : List Addr} {H : Hp} : Xrs g [] F H := fun p h => by simp at h
theorem Xrs.mono {g : Wd} {F F' : List Addr} {H H' : Hp} {l : List (List Str × List D × Option Addr)} (x : Xrs g l F H) (gr : Grow F H F' H') (G : Good F H) : Xrs g l F' H' := fun t ht => (x t ht).mono gr G
structure RelS (g : Wd) (p : PinD) (F : List Addr) (e : Env2) (M : MH) (σ : St) (H : Hp) : Prop where
  m : RelM g F M H
  e : EnvR g F H e σ
  x : Pin p.xs σ
  y : Xrs g p.xr F H
abbrev RAT (A B : Type) := Wd → List Addr → Hp → A → B → Prop
def post {A B : Type} (g : Wd) (RA : RAT A B) (W : WX) (F : List Addr) (σ : St) (H : Hp) (r : Res A) (Q : B → Hp → Prop) : Prop := match r with
  | .ok a M => ∀ F' H' b, Grow F H F' H' → RelM g F' M H' → RA g F' H' a b → Q b H'
  | .exc c ns ds M => ∀ F' H' d, Grow F H F' H' → RelM g F' M H' → XRep g F' H' ns ds d → W (.ref (g.ca c)) d σ H'
  | .bad => False
theorem post.up {A B : Type} {g : Wd} {RA : RAT A B} {W : WX} {F F1 : List Addr} {σ : St} {H H1 : Hp} {r : Res A} {Q : B → Hp → Prop} (gr : Grow F H F1 H1) (h : post g RA W F σ H r Q) : post g RA W F1 σ H1 r Q := by
  cases r with
  | ok a M => exact fun F' H' b g1 R ra => h F' H' b (gr.trans g1) R ra
  | exc c ns ds M => exact fun F' H' d g1 R x => h F' H' d (gr.trans g1) R x
  | bad => exact h
/-- one step, then the rest -/
theorem post.bind {A B A' B' : Type} {g : Wd} {RA : RAT A B} {RA' : RAT A' B'} {W : WX} {F : List Addr} {σ : St} {H : Hp} {r : Res A} {k : A → MH → Res A'} {Q : B' → Hp → Prop} {R : B → Hp → Prop} (h : post g RA' W F σ H (r.bind k) Q)
    (f : ∀ a M F' H' b, r = .ok a M → Grow F H F' H' → RelM g F' M H' → RA g F' H' a b → post g RA' W F' σ H' (k a M) Q → R b H') : post g RA W F σ H r R := by
  cases r with
  | ok a M => exact fun F' H' b g1 Rm ra => f a M F' H' b rfl g1 Rm ra (h.up g1)
  | exc c ns ds M => exact fun F' H' d g1 Rm x => h F' H' d g1 Rm x
  | bad => exact h
/-- the value alone -/
theorem post.ok {A B : Type} {g : Wd} {RA : RAT A B} {W : WX} {F F' : List Addr} {σ : St} {H H' : Hp} {a : A} {M : MH} {b : B} {Q : B → Hp → Prop} (h : post g RA W F σ H (.ok a M) Q) (gr : Grow F H F' H') (R : RelM g F' M H') (ra : RA g F' H' a b) : Q b H' := h F' H' b gr R ra
theorem post.here {A B : Type} {g : Wd} {RA : RAT A B} {W : WX} {F : List Addr} {σ : St} {H : Hp} {a : A} {M : MH} {b : B} {Q : B → Hp → Prop} (h : post g RA W F σ H (.ok a M) Q) (R : RelM g F M H) (ra : RA g F H a b) : Q b H := h F H b .same R ra

abbrev rD : RAT D V := fun g F H d v => Rep g F H d v
abbrev rDs : RAT (List D) (List V) := fun g F H d v => Reps g F H d v
abbrev rB : RAT Bool Bool := fun _ _ _ a b => a = b
abbrev EM := Env2 → MH → Res D
abbrev BM := Env2 → MH → Res Bool
abbrev AM := Env2 → MH → Res (List D)
abbrev SM := Env2 → MH → SR
def tG {A B : Type} (g : Wd) (RA : RAT A B) (W : WY) (m : Env2 → MH → Res A) : St → Hp → (B → Hp → Prop) → Prop := fun σ H Q => ∃ F e M, RelS g W.p F e M σ H ∧ post g RA W.w F σ H (m e M) Q
abbrev tD (g : Wd) (W : WY) (m : EM) : TE := tG g rD W m
abbrev tB2 (g : Wd) (W : WY) (m : BM) : TT := tG g rB W m
abbrev tA (g : Wd) (W : WY) (m : AM) : TA := tG g rDs W m
def postS (g : Wd) (W : WY) (F : List Addr) (H : Hp) (r : SR) (E : Ends) : Prop := match r with
  | .nx e M => ∀ F' H' σ', Grow F H F' H' → RelM g F' M H' → EnvR g F' H' e σ' → Pin W.p.xs σ' → E.nx σ' H'
  | .rt d M => ∀ F' H' v, Grow F H F' H' → RelM g F' M H' → Rep g F' H' d v → E.rt v H'
  | .bk e M => ∀ F' H' σ', Grow F H F' H' → RelM g F' M H' → EnvR g F' H' e σ' → Pin W.p.xs σ' → E.bk σ' H'
  | .ct e M => ∀ F' H' σ', Grow F H F' H' → RelM g F' M H' → EnvR g F' H' e σ' → Pin W.p.xs σ' → E.ct σ' H'
  | .ex c ns ds e M => ∀ F' H' σ' d, Grow F H F' H' → RelM g F' M H' → EnvR g F' H' e σ' → XRep g F' H' ns ds d → W.w (.ref (g.ca c)) d σ' H'
  | .bad => False
theorem postS.up {g : Wd} {W : WY} {F F1 : List Addr} {H H1 : Hp} {r : SR} {E : Ends} (gr : Grow F H F1 H1) (h : postS g W F H r E) : postS g W F1 H1 r E := by
  cases r with
  | nx e M => exact fun F' H' b g1 R x => h F' H' b (gr.trans g1) R x
  | rt e M => exact fun F' H' b g1 R x => h F' H' b (gr.trans g1) R x
  | bk e M => exact fun F' H' b g1 R x => h F' H' b (gr.trans g1) R x
  | ct e M => exact fun F' H' b g1 R x => h F' H' b (gr.trans g1) R x
  | ex c ns ds e M => exact fun F' H' b d g1 R x y => h F' H' b d (gr.trans g1) R x y
  | bad => exact h
def tS (g : Wd) (W : WY) (m : SM) : TS := fun E σ H => ∃ F e M, RelS g W.p F e M σ H ∧ postS g W F H (m e M) E

theorem RelS.up {g : Wd} {p : PinD} {F F' : List Addr} {e : Env2} {M M' : MH} {σ : St} {H H' : Hp} (R : RelS g p F e M σ H) (gr : Grow F H F' H') (Rm : RelM g F' M' H') : RelS g p F' e M' σ H' := ⟨Rm, R.e.mono gr R.m.good, R.x, R.y.mono gr R.m.good⟩
/-- an expression's value, then a statement -/
def Res.toS (r : Res D) (e : Env2) (k : D → MH → SR) : SR := match r with
  | .ok a M => k a M
  | .exc c ns ds M => .ex c ns ds e M
  | .bad => .bad
def Res.toSB (r : Res Bool) (e : Env2) (k : Bool → MH → SR) : SR := match r with
  | .ok a M => k a M
  | .exc c ns ds M => .ex c ns ds e M
  | .bad => .bad
theorem postS.step {g : Wd} {W : WY} {F : List Addr} {σ : St} {e : Env2} {M0 : MH} {H : Hp} {r : Res D} {k : D → MH → SR} {E : Ends} {R : V → Hp → Prop} (RS : RelS g W.p F e M0 σ H) (h : postS g W F H (r.toS e k) E)
    (f : ∀ a M F' H' v, r = .ok a M → Grow F H F' H' → RelM g F' M H' → Rep g F' H' a v → postS g W F' H' (k a M) E → R v H') : post g rD W.w F σ H r R := by
  cases r with
  | ok a M => exact fun F' H' b g1 Rm ra => f a M F' H' b rfl g1 Rm ra (h.up g1)
  | exc c ns ds M => exact fun F' H' d g1 Rm x => h F' H' σ d g1 Rm (RS.e.mono g1 RS.m.good) x
  | bad => exact h
theorem postS.stepB {g : Wd} {W : WY} {F : List Addr} {σ : St} {e : Env2} {M0 : MH} {H : Hp} {r : Res Bool} {k : Bool → MH → SR} {E : Ends} {R : Bool → Hp → Prop} (RS : RelS g W.p F e M0 σ H) (h : postS g W F H (r.toSB e k) E)
    (f : ∀ a M F' H', r = .ok a M → Grow F H F' H' → RelM g F' M H' → postS g W F' H' (k a M) E → R a H') : post g rB W.w F σ H r R := by
  cases r with
  | ok a M => exact fun F' H' b g1 Rm ra => by cases ra; exact f a M F' H' rfl g1 Rm (h.up g1)
  | exc c ns ds M => exact fun F' H' d g1 Rm x => h F' H' σ d g1 Rm (RS.e.mono g1 RS.m.good) x
  | bad => exact h

/-! ### readings made weaker -/
theorem pe_imp {X : Cx} {e : Expr} {t t' : TE} (h : PE X e t) (i : ∀ σ H Q, t' σ H Q → t σ H Q) : PE X e t' := ⟨fun pins s σ H Q I q => h.run pins s σ H Q I (i σ H Q q)⟩
theorem pt_imp {X : Cx} {e : Expr} {t t' : TT} (h : PT X e t) (i : ∀ σ H Q, t' σ H Q → t σ H Q) : PT X e t' := ⟨fun pins s σ H Q I q => h.run pins s σ H Q I (i σ H Q q)⟩
theorem pw_imp {X : Cx} {e : Expr} {t t' : TT} (h : PW X e t) (i : ∀ σ H Q, t' σ H Q → t σ H Q) : PW X e t' := ⟨fun whole pins s σ H Q I q => h.run whole pins s σ H Q I (i σ H Q q)⟩
theorem pa_imp {X : Cx} {e : List Expr} {t t' : TA} (h : PA X e t) (i : ∀ σ H Q, t' σ H Q → t σ H Q) : PA X e t' := ⟨fun pos pins s σ H Q I q => h.run pos pins s σ H Q I (i σ H Q q)⟩
theorem ps_imp {X : Cx} {e : Stmt} {t t' : TS} (h : PS X e t) (i : ∀ E σ H, t' E σ H → t E σ H) : PS X e t' := ⟨fun pins s σ H E I q => h.run pins s σ H E I (i E σ H q)⟩
theorem pss_imp {X : Cx} {e : List Stmt} {t t' : TS} (h : PSs X e t) (i : ∀ E σ H, t' E σ H → t E σ H) : PSs X e t' := ⟨fun pins s σ H E I q => h.run pins s σ H E I (i E σ H q)⟩

/-! ### expressions -/
def eVar (n : Nat) : EM := fun e M => match e[n]? with
  | some (some d) => .ok d M
  | _ => .bad
def eC (d : D) : EM := fun _ M => .ok d M
def eUn (f : D → MH → Res D) (a : EM) : EM := fun e M => (a e M).bind f
def eBin (f : D → D → MH → Res D) (a b : EM) : EM := fun e M => (a e M).bind fun x M1 => (b e M1).bind fun y M2 => f x y M2
def eNil : AM := fun _ M => .ok [] M
def eCons (a : EM) (b : AM) : AM := fun e M => (a e M).bind fun x M1 => (b e M1).bind fun xs M2 => .ok (x :: xs) M2
def eArgs (f : List D → MH → Res D) (a : AM) : EM := fun e M => (a e M).bind f
def eTup (a : AM) : EM := eArgs (fun ds M => if ds.length ≤ 1000 then .ok (.tup ds) M else .bad) a
def eLst (a : AM) : EM := eArgs (fun ds M => if ds.length ≤ 1000 then .ok (.ref M.length) (M ++ [.lst ds]) else .bad) a
def eFro (a : AM) : EM := eArgs (fun ds M => if ds.length ≤ 1000 then .ok (.fro ds) M else .bad) a
/-- an operation on values, simulated -/
def Sim2 (g : Wd) (f : D → D → MH → Res D) (r : R2) : Prop := ∀ (F : List Addr) (M : MH) (σ : St) (H : Hp) (W : WX) (x y : D) (v w : V) (Q : VK), RelM g F M H → Rep g F H x v → Rep g F H y w → post g rD W F σ H (f x y M) Q → r v w H Q
def SimA (g : Wd) (f : List D → MH → Res D) (r : List V → Hp → VK → Prop) : Prop := ∀ (F : List Addr) (M : MH) (σ : St) (H : Hp) (W : WX) (x : List D) (v : List V) (Q : VK), RelM g F M H → Reps g F H x v → post g rD W F σ H (f x M) Q → r v H Q
section
variable {X : Cx} {g : Wd} {W : WY} {a b : Expr} {pos p : Pos} {m1 m2 : EM} {ma : AM} {es : List Expr}
theorem de_var (n : Nat) {x : Str} (h : PE X (.Name x p) (tVar n)) : PE X (.Name x p) (tD g W (eVar n)) := pe_imp h fun σ H Q ⟨F, e, M, RS, q⟩ => by
  unfold eVar at q
  split at q
  · rename_i d hd
    obtain ⟨v, hv, r⟩ := RS.e.get hd
    exact ⟨v, hv, q.here RS.m r⟩
  · exact q.elim
theorem de_v (i : Nat) {x : Str} (hN : X.N[i]? = some x := by rfl) (hv : Vis X.env.scope x := by first | exact Or.inl rfl | exact Or.inr (Or.inl rfl) | exact Or.inr (Or.inr rfl)) (hd : (x == ("__debug__" : Str)) = false := by decide) (hcd : (x == ("__classdict__" : Str)) = false := by decide) :
    PE X (.Name x p) (tD g W (eVar i)) := de_var i (pe_var hN hv hd hcd)
theorem de_c {e : Expr} {d : D} {v : V} (h : PE X e (tC v)) (r : ∀ F H, Rep g F H d v) : PE X e (tD g W (eC d)) := pe_imp h fun σ H Q ⟨F, e, M, RS, q⟩ => q.here RS.m (r F H)
theorem de_int {i : Int} {j : Nat} : PE X (.Constant (.int i) j p) (tD g W (eC (.int i))) := de_c pe_int fun _ _ => .int i
theorem de_str {x : Str} {j : Nat} : PE X (.Constant (.str x) j p) (tD g W (eC (.str x))) := de_c pe_str fun _ _ => .str x
theorem de_bl {x : Bool} {j : Nat} : PE X (.Constant (.bool x) j p) (tD g W (eC (.bl x))) := de_c pe_bl fun _ _ => .bl x
theorem de_non {j : Nat} : PE X (.Constant .none j p) (tD g W (eC .non)) := de_c pe_non fun _ _ => .non
theorem bin_imp {f : D → D → MH → Res D} {r : R2} (hs : Sim2 g f r) {σ : St} {H : Hp} {Q : VK} (q : tD g W (eBin f m1 m2) σ H Q) : tOp r (tD g W m1) (tD g W m2) σ H Q := by
  obtain ⟨F, e, M, RS, q⟩ := q
  refine ⟨F, e, M, RS, q.bind fun x M1 F1 H1 v e1 g1 R1 rx q1 => ?_⟩
  refine ⟨F1, e, M1, RS.up g1 R1, q1.bind fun y M2 F2 H2 w e2 g2 R2 ry q2 => ?_⟩
  exact hs F2 M2 σ H2 W.w x y v w Q R2 (rx.mono g2 R1.good) ry q2
theorem de_op {op : Operator} {f : D → D → MH → Res D} {r : R2} (ho : OpR X (binaryOp op) r) (hs : Sim2 g f r) (ha : PE X a (tD g W m1)) (hb : PE X b (tD g W m2)) : PE X (.BinOp a op b pos) (tD g W (eBin f m1 m2)) :=
  pe_imp (pe_op ho ha hb) fun σ H Q q => bin_imp hs q
theorem de_cmp {op : CmpOp} {f : D → D → MH → Res D} {r : R2} (ho : OpR X (compareOp op) r) (hs : Sim2 g f r) (ha : PE X a (tD g W m1)) (hb : PE X b (tD g W m2)) (hm : behindInMarks op b = false) : PE X (.Compare a [op] [b] pos) (tD g W (eBin f m1 m2)) :=
  pe_imp (pe_cmpR ho ha hb hm) fun σ H Q q => bin_imp hs q
theorem de_nil : PA X [] (tA g W eNil) := pa_imp pa_nil fun σ H Q ⟨F, e, M, RS, q⟩ => q.here RS.m .nil
theorem de_cons (ha : PE X a (tD g W m1)) (hb : PA X es (tA g W ma)) (hs : starEach (a :: es) X.env = (false, eval a X.env) :: starEach es X.env := by rfl) : PA X (a :: es) (tA g W (eCons m1 ma)) :=
  pa_imp (pa_cons ha hb hs) fun σ H Q ⟨F, e, M, RS, q⟩ => by
    refine ⟨F, e, M, RS, q.bind fun x M1 F1 H1 v e1 g1 R1 rx q1 => ?_⟩
    refine ⟨F1, e, M1, RS.up g1 R1, q1.bind fun y M2 F2 H2 w e2 g2 R2 ry q2 => ?_⟩
    exact q2.here R2 (.cons (rx.mono g2 R1.good) ry)
theorem args_imp {f : List D → MH → Res D} {r : List V → Hp → VK → Prop} (hs : SimA g f r) {σ : St} {H : Hp} {Q : VK} (q : tD g W (eArgs f ma) σ H Q) : tA g W ma σ H fun vs H1 => r vs H1 Q := by
  obtain ⟨F, e, M, RS, q⟩ := q
  exact ⟨F, e, M, RS, q.bind fun x M1 F1 H1 v e1 g1 R1 rx q1 => hs F1 M1 σ H1 W.w x v Q R1 rx q1⟩
theorem small {n : Nat} (h : n ≤ 1000) : n ≤ sizeLine := Nat.le_trans h (by decide)
theorem de_tup {x1} (h : PA X es (tA g W ma)) : PE X (.Tuple es x1 pos) (tD g W (eTup ma)) :=
  pe_imp (pe_tup h) fun σ H Q q => args_imp (r := fun xs H1 Q => xs.length ≤ sizeLine ∧ ∀ p, H1 p = none → Q (.ref p) (upd H1 p (.tup xs))) (fun F M σ H W ds vs Q R r q => by
    split at q
    · rename_i hl
      refine ⟨small (by rw [← r.length]; exact hl), fun p hp => ?_⟩
      obtain ⟨g1, R1⟩ := R.still (o := .tup vs) hp
      exact q.ok g1 R1 (.tup (SqT.of upd_same) (r.mono g1 R.good))
    · exact q.elim) q
theorem de_lst (h : PA X es (tA g W ma)) : PE X (.List es pos) (tD g W (eLst ma)) :=
  pe_imp (pe_lst h) fun σ H Q q => args_imp (r := fun xs H1 Q => xs.length ≤ sizeLine ∧ ∀ p, H1 p = none → Q (.ref p) (upd H1 p (.lst xs))) (fun F M σ H W ds vs Q R r q => by
    split at q
    · rename_i hl
      refine ⟨small (by rw [← r.length]; exact hl), fun p hp => ?_⟩
      obtain ⟨g1, R1⟩ := R.laid (m := .lst ds) (o := .lst vs) hp fun F' H' gr => .lst (r.mono gr R.good)
      exact q.ok g1 R1 (.ref (by rw [← R.len]; simp))
    · exact q.elim) q
theorem de_fro (h : PA X es (tA g W ma)) : PE X (.List es pos) (tD g W (eFro ma)) :=
  pe_imp (pe_lst h) fun σ H Q q => args_imp (r := fun xs H1 Q => xs.length ≤ sizeLine ∧ ∀ p, H1 p = none → Q (.ref p) (upd H1 p (.lst xs))) (fun F M σ H W ds vs Q R r q => by
    split at q
    · rename_i hl
      refine ⟨small (by rw [← r.length]; exact hl), fun p hp => ?_⟩
      obtain ⟨g1, R1⟩ := R.still (o := .lst vs) hp
      exact q.ok g1 R1 (.fro (.inl ⟨upd_same, R.notin hp⟩) (r.mono g1 R.good))
    · exact q.elim) q
end
end T2
namespace T2
open PySem L2

/-! ### tests -/
def asB (d : D) (M : MH) : Res Bool := match d with
  | .bl b => .ok b M
  | _ => .bad
def bVal (m : EM) : BM := fun e M => (m e M).bind asB
def bAnd (a b : BM) : BM := fun e M => (a e M).bind fun c M1 => if c = true then b e M1 else .ok false M1
def bOr (a b : BM) : BM := fun e M => (a e M).bind fun c M1 => if c = true then .ok true M1 else b e M1
def bNot (a : BM) : BM := fun e M => (a e M).bind fun c M1 => .ok (!c) M1
def eAnd (a b : EM) : EM := fun e M => (a e M).bind fun d M1 => match d with
  | .bl true => b e M1
  | .bl false => .ok (.bl false) M1
  | _ => .bad
def eOr (a b : EM) : EM := fun e M => (a e M).bind fun d M1 => match d with
  | .bl false => b e M1
  | .bl true => .ok (.bl true) M1
  | _ => .bad
def eNot (a : EM) : EM := fun e M => (a e M).bind fun d M1 => match d with
  | .bl b => .ok (.bl (!b)) M1
  | _ => .bad
def eIf (c : BM) (a b : EM) : EM := fun e M => (c e M).bind fun k M1 => if k = true then a e M1 else b e M1
section
variable {X : Cx} {g : Wd} {W : WY} {a b c : Expr} {pos p : Pos} {m1 m2 : EM} {ma : AM} {es : List Expr} {rest : List Expr} {b1 b2 : BM}
theorem asB_post {F : List Addr} {σ : St} {H : Hp} {d : D} {M : MH} {v : V} {Q : Bool → Hp → Prop} (R : RelM g F M H) (r : Rep g F H d v) (q : post g rB W.w F σ H (asB d M) Q) : ∃ k, v = .bl k ∧ Q k H := by
  cases r with
  | bl k => exact ⟨k, rfl, q.here R rfl⟩
  | _ => exact q.elim
theorem val_imp {σ : St} {H : Hp} {Q : Bool → Hp → Prop} (q : tB2 g W (bVal m1) σ H Q) : tD g W m1 σ H fun v H' => ∃ k, v = .bl k ∧ Q k H' := by
  obtain ⟨F, e, M, RS, q⟩ := q
  exact ⟨F, e, M, RS, q.bind fun x M1 F1 H1 v e1 g1 R1 rx q1 => asB_post R1 rx q1⟩
theorem dt_val (h : PE X a (tD g W m1)) (he : ∀ whole, isTrue a X.env whole = (do let v ← whole; standAt a.pos; holding [v] (truthy v)) := by intro _; rfl) : PT X a (tB2 g W (bVal m1)) := pt_imp (pt_val h he) fun σ H Q q => val_imp q
theorem test_imp {f : D → D → MH → Res D} {r : R2} (hs : Sim2 g f r) {σ : St} {H : Hp} {Q : Bool → Hp → Prop} (q : tB2 g W (bVal (eBin f m1 m2)) σ H Q) : tTest (tOp r (tD g W m1) (tD g W m2)) σ H Q := bin_imp hs (val_imp q)
theorem dt_cmp {op : CmpOp} {f : D → D → MH → Res D} {r : R2} (ho : OpR X (compareOp op) r) (hs : Sim2 g f r) (ha : PE X a (tD g W m1)) (hb : PE X b (tD g W m2)) (hm : behindInMarks op b = false) : PT X (.Compare a [op] [b] pos) (tB2 g W (bVal (eBin f m1 m2))) :=
  pt_imp (pt_cmpR ho ha hb hm) fun σ H Q q => test_imp hs q
theorem dw_and1 (ha : PT X a (tB2 g W b1)) : PW X (.BoolOp .And [a] pos) (tB2 g W b1) := pw_and1 ha
theorem dw_or1 (ha : PT X a (tB2 g W b1)) : PW X (.BoolOp .Or [a] pos) (tB2 g W b1) := pw_or1 ha
theorem dw_and (ha : PT X a (tB2 g W b1)) (hb : PW X (.BoolOp .And (b :: rest) pos) (tB2 g W b2)) : PW X (.BoolOp .And (a :: b :: rest) pos) (tB2 g W (bAnd b1 b2)) := pw_imp (pw_and ha hb) fun σ H Q ⟨F, e, M, RS, q⟩ =>
  ⟨F, e, M, RS, q.bind fun x M1 F1 H1 v e1 g1 R1 rx q1 => by
    cases rx
    by_cases h : x = true
    · rw [if_pos h] at q1; rw [if_pos h]; exact ⟨F1, e, M1, RS.up g1 R1, q1⟩
    · rw [if_neg h] at q1; rw [if_neg h]; exact q1.here R1 rfl⟩
theorem dw_or (ha : PT X a (tB2 g W b1)) (hb : PW X (.BoolOp .Or (b :: rest) pos) (tB2 g W b2)) : PW X (.BoolOp .Or (a :: b :: rest) pos) (tB2 g W (bOr b1 b2)) := pw_imp (pw_or ha hb) fun σ H Q ⟨F, e, M, RS, q⟩ =>
  ⟨F, e, M, RS, q.bind fun x M1 F1 H1 v e1 g1 R1 rx q1 => by
    cases rx
    by_cases h : x = true
    · rw [if_pos h] at q1; rw [if_pos h]; exact q1.here R1 rfl
    · rw [if_neg h] at q1; rw [if_neg h]; exact ⟨F1, e, M1, RS.up g1 R1, q1⟩⟩
theorem dt_w (h : PW X a (tB2 g W b1)) : PT X a (tB2 g W b1) := h.pt
theorem dt_not (ha : PT X a (tB2 g W b1)) : PT X (.UnaryOp .Not a pos) (tB2 g W (bNot b1)) := pt_imp (pt_not ha) fun σ H Q ⟨F, e, M, RS, q⟩ =>
  ⟨F, e, M, RS, q.bind fun x M1 F1 H1 v e1 g1 R1 rx q1 => by cases rx; exact q1.here R1 rfl⟩
theorem de_and (ha : PE X a (tD g W m1)) (hb : PE X (.BoolOp .And (b :: rest) pos) (tD g W m2)) : PE X (.BoolOp .And (a :: b :: rest) pos) (tD g W (eAnd m1 m2)) := pe_imp (pe_and ha hb) fun σ H Q ⟨F, e, M, RS, q⟩ =>
  ⟨F, e, M, RS, q.bind fun x M1 F1 H1 v e1 g1 R1 rx q1 => by
    cases rx with
    | bl k =>
      refine ⟨k, rfl, ?_⟩
      cases k with
      | true => exact ⟨F1, e, M1, RS.up g1 R1, q1⟩
      | false => exact q1.here R1 (.bl false)
    | _ => exact q1.elim⟩
theorem de_or (ha : PE X a (tD g W m1)) (hb : PE X (.BoolOp .Or (b :: rest) pos) (tD g W m2)) : PE X (.BoolOp .Or (a :: b :: rest) pos) (tD g W (eOr m1 m2)) := pe_imp (pe_or ha hb) fun σ H Q ⟨F, e, M, RS, q⟩ =>
  ⟨F, e, M, RS, q.bind fun x M1 F1 H1 v e1 g1 R1 rx q1 => by
    cases rx with
    | bl k =>
      refine ⟨k, rfl, ?_⟩
      cases k with
      | true => exact q1.here R1 (.bl true)
      | false => exact ⟨F1, e, M1, RS.up g1 R1, q1⟩
    | _ => exact q1.elim⟩
theorem de_one {op : BoolOp} (ha : PE X a (tD g W m1)) : PE X (.BoolOp op [a] pos) (tD g W m1) := pe_one ha
theorem de_not (ha : PE X a (tD g W m1)) : PE X (.UnaryOp .Not a pos) (tD g W (eNot m1)) := pe_imp (pe_not ha) fun σ H Q ⟨F, e, M, RS, q⟩ =>
  ⟨F, e, M, RS, q.bind fun x M1 F1 H1 v e1 g1 R1 rx q1 => by
    cases rx with
    | bl k => exact ⟨k, rfl, q1.here R1 (.bl _)⟩
    | _ => exact q1.elim⟩
theorem de_if (hc : PT X c (tB2 g W b1)) (ha : PE X a (tD g W m1)) (hb : PE X b (tD g W m2)) : PE X (.IfExp c a b pos) (tD g W (eIf b1 m1 m2)) := pe_imp (pe_ifExp hc ha hb) fun σ H Q ⟨F, e, M, RS, q⟩ =>
  ⟨F, e, M, RS, q.bind fun x M1 F1 H1 v e1 g1 R1 rx q1 => by
    cases rx
    by_cases h : x = true
    · rw [if_pos h] at q1; rw [if_pos h]; exact ⟨F1, e, M1, RS.up g1 R1, q1⟩
    · rw [if_neg h] at q1; rw [if_neg h]; exact ⟨F1, e, M1, RS.up g1 R1, q1⟩⟩
end

/-! ### statements -/
def sSeq (a b : SM) : SM := fun e M => match a e M with
  | .nx e1 M1 => b e1 M1
  | r => r
def sNil : SM := fun e M => .nx e M
def sSet (i : Nat) (m : EM) : SM := fun e M => (m e M).toS e fun d M1 => .nx (e.set i (some d)) M1
def sRet (m : EM) : SM := fun e M => (m e M).toS e fun d M1 => .rt d M1
def sRetN : SM := fun _ M => .rt .non M
def sDo (m : EM) : SM := fun e M => (m e M).toS e fun _ M1 => .nx e M1
def sIf (c : BM) (a b : SM) : SM := fun e M => (c e M).toSB e fun k M1 => if k = true then a e M1 else b e M1
abbrev TgM := D → Env2 → Option Env2
def tgName (i : Nat) : TgM := fun d e => some (e.set i (some d))
def forV (tg : TgM) (body : SM) : List D → Env2 → MH → SR
  | [], e, M => .nx e M
  | x :: xs, e, M => match tg x e with
    | none => .bad
    | some e1 => match body e1 M with
      | .nx e2 M2 => forV tg body xs e2 M2
      | .ct e2 M2 => forV tg body xs e2 M2
      | .bk e2 M2 => .nx e2 M2
      | .rt d M2 => .rt d M2
      | .ex c ns ds e2 M2 => .ex c ns ds e2 M2
      | .bad => .bad
/-- a list that may change while it is walked: k turns at most -/
def forL (tg : TgM) (body : SM) (n : Nat) : Nat → Nat → Env2 → MH → SR
  | 0, i, e, M => match M[n]? with
    | some (.lst ds) => if ds.length ≤ i then .nx e M else .bad
    | _ => .bad
  | k + 1, i, e, M => match M[n]? with
    | some (.lst ds) => match ds[i]? with
      | none => .nx e M
      | some x => match tg x e with
        | none => .bad
        | some e1 => match body e1 M with
          | .nx e2 M2 => forL tg body n k (i + 1) e2 M2
          | .ct e2 M2 => forL tg body n k (i + 1) e2 M2
          | .bk e2 M2 => .nx e2 M2
          | .rt d M2 => .rt d M2
          | .ex c ns ds e2 M2 => .ex c ns ds e2 M2
          | .bad => .bad
    | _ => .bad
inductive IV where
  | vals (ds : List D) | live (n : Nat)
def sForI (it : Env2 → MH → Res IV) (tg : TgM) (body : SM) : SM := fun e M => match it e M with
  | .ok (.vals ds) M1 => forV tg body ds e M1
  | .ok (.live n) M1 => match M1[n]? with
    | some (.lst ds) => forL tg body n ds.length 0 e M1
    | _ => .bad
  | .exc c ns ds M1 => .ex c ns ds e M1
  | .bad => .bad
/-- what a for walks: a tuple, a list -/
def ivOf (d : D) (M : MH) : Res IV := match d with
  | .tup ds => .ok (.vals ds) M
  | .fro ds => .ok (.vals ds) M
  | .ref n => .ok (.live n) M
  | _ => .bad
def iSeq (m : EM) : Env2 → MH → Res IV := fun e M => (m e M).bind ivOf
def rangeD (lo : Int) (n : Nat) : List D := (List.range n).map fun i => .int (lo + (i : Nat))
def iRange1 (a : EM) : Env2 → MH → Res IV := fun e M => (a e M).bind fun d M1 => match d with
  | .int j => if -(2 ^ 62) ≤ j ∧ j < 2 ^ 62 then .ok (.vals (rangeD 0 j.toNat)) M1 else .bad
  | _ => .bad
section
variable {X : Cx} {g : Wd} {W : WY} {a b c : Expr} {pos p : Pos} {m1 m2 : EM} {ma : AM} {es : List Expr} {b1 : BM} {s1 s2 : SM} {st : Stmt} {sts : List Stmt}
theorem ds_nil : PSs X [] (tS g W sNil) := pss_imp pss_nil fun E σ H ⟨F, e, M, RS, q⟩ => q F H σ .same RS.m RS.e RS.x
theorem seq_imp {E : Ends} {σ : St} {H : Hp} (h : tS g W (sSeq s1 s2) E σ H) : tSeq (tS g W s1) (tS g W s2) E σ H := by
  obtain ⟨F, e, M, RS, q⟩ := h
  refine ⟨F, e, M, RS, ?_⟩
  unfold sSeq at q
  cases h : s1 e M with
  | nx e1 M1 =>
    rw [h] at q
    exact fun F1 H1 σ1 g1 R1 E1 X1 => ⟨F1, e1, M1, ⟨R1, E1, X1, RS.y.mono g1 RS.m.good⟩, q.up g1⟩
  | rt d M1 => rw [h] at q; exact q
  | bk e1 M1 => rw [h] at q; exact q
  | ct e1 M1 => rw [h] at q; exact q
  | ex c ns ds e1 M1 => rw [h] at q; exact q
  | bad => rw [h] at q; exact q
theorem ds_cons (h1 : PS X st (tS g W s1)) (h2 : PSs X sts (tS g W s2)) : PSs X (st :: sts) (tS g W (sSeq s1 s2)) := pss_imp (pss_cons h1 h2) fun E σ H h => seq_imp h
theorem ds_one (h1 : PS X st (tS g W s1)) : PSs X [st] (tS g W s1) := pss_one h1
theorem ds_set {i : Nat} {x : Str} {pos' : Pos} (hN : X.N.Nodup) (ha : PE X a (tD g W m1)) (hpin : ∀ p ∈ W.p.xs, i ≠ p.1 := by intro p h; first | exact absurd h (by simp) | (simp at h; subst h; decide)) (hi : X.N[i]? = some x := by rfl) (hx : Loc X.env.scope x := by first | exact Or.inl rfl | exact Or.inr rfl) (hs : swapsWith a (some (.Name x pos')) pos.line X.env = pure false := by rfl)
    (hf : X.fn x = true ∨ X.env.scope.names.lookup x = some .local := by first | exact .inl rfl | exact .inr rfl | assumption) : PS X (.Assign [.Name x pos'] a pos) (tS g W (sSet i m1)) :=
  ps_imp (ps_set hN hi hx ha hs hf) fun E σ H ⟨F, e, M, RS, q⟩ => ⟨F, e, M, RS, q.step RS fun d M1 F1 H1 v _ g1 R1 r q1 => q1 F1 H1 _ .same R1 ((RS.up g1 R1).e.set r i) (RS.x.set hpin)⟩
theorem ds_ret (ha : PE X a (tD g W m1)) : PS X (.Return (some a) pos) (tS g W (sRet m1)) := ps_imp (ps_ret ha) fun E σ H ⟨F, e, M, RS, q⟩ => ⟨F, e, M, RS, q.step RS fun d M1 F1 H1 v _ g1 R1 r q1 => q1 F1 H1 _ .same R1 r⟩
theorem ds_do (ha : PE X a (tD g W m1)) (hs : swapsWith a none pos.line X.env = pure false := by rfl) : PS X (.Expr a pos) (tS g W (sDo m1)) := ps_imp (ps_expr ha hs) fun E σ H ⟨F, e, M, RS, q⟩ => ⟨F, e, M, RS, q.step RS fun d M1 F1 H1 v _ g1 R1 r q1 => q1 F1 H1 _ .same R1 (RS.up g1 R1).e RS.x⟩
theorem ds_if {l1 l2 : List Stmt} (hc : PT X c (tB2 g W b1)) (h1 : PSs X l1 (tS g W s1)) (h2 : PSs X l2 (tS g W s2)) : PS X (.If c l1 l2 pos) (tS g W (sIf b1 s1 s2)) := ps_imp (ps_if hc h1 h2) fun E σ H ⟨F, e, M, RS, q⟩ =>
  ⟨F, e, M, RS, q.stepB RS fun k M1 F1 H1 _ g1 R1 q1 => by
    by_cases h : k = true
    · rw [if_pos h] at q1; rw [if_pos h]; exact ⟨F1, e, M1, RS.up g1 R1, q1⟩
    · rw [if_neg h] at q1; rw [if_neg h]; exact ⟨F1, e, M1, RS.up g1 R1, q1⟩⟩
/-! ### for -/
def TgSim (g : Wd) (tg : TgM) (gt : TG) : Prop := ∀ (F : List Addr) (M : MH) (e e1 : Env2) (σ : St) (H : Hp) (x : D) (v : V) (Q : St → Hp → Prop), RelM g F M H → EnvR g F H e σ → Rep g F H x v → tg x e = some e1 → (∀ σ1, EnvR g F H e1 σ1 → Q σ1 H) → gt v σ H Q
theorem tgName_sim (i : Nat) : TgSim g (tgName i) (gName i) := fun F M e e1 σ H x v Q RM RE r h k => by
  unfold tgName at h; cases h
  exact k _ (RE.set r i)
structure ItV (g : Wd) (J : It) (F : List Addr) (H : Hp) (ds : List D) : Prop where
  go : ∀ F' H' (i : Nat), Grow F H F' H' → i < ds.length → J.go i H'
  yld : ∀ F' H' (i : Nat) x H2, Grow F H F' H' → i < ds.length → J.yld i H' x H2 → (∀ b o, H' b = some o → H2 b = some o) ∧ ∃ d, ds[i]? = some d ∧ Rep g F' H2 d x
  stop : ∀ F' H' (i : Nat), Grow F H F' H' → ds.length ≤ i → J.stop i H'
theorem drop_cons' {A : Type} {l : List A} {i : Nat} {x : A} (h : l[i]? = some x) : l.drop i = x :: l.drop (i + 1) := by
  have hl := (List.getElem?_eq_some_iff.mp h)
  obtain ⟨h1, h2⟩ := hl
  rw [List.drop_eq_getElem_cons h1, h2]
theorem forV_run {J : It} {F : List Addr} {e : Env2} {M : MH} {σ : St} {H : Hp} {ds : List D} {tg : TgM} {gt : TG} {E : Ends} (px : ∀ σ, Pin W.p.xs σ) (RS : RelS g W.p F e M σ H) (it : ItV g J F H ds) (ts : TgSim g tg gt) (q : postS g W F H (forV tg s1 ds e M) E) :
    ∃ W1 : Nat → Nat → St → Hp → Prop, (∃ m, W1 0 m σ H) ∧ ∀ i m σ H, W1 i m σ H →
      (J.stop i H ∧ E.nx σ H) ∨ (J.go i H ∧ ∃ N : St → Hp → Prop, (∀ σ' H', N σ' H' → ∃ m', m' < m ∧ W1 (i + 1) m' σ' H') ∧ ∀ x H', J.yld i H x H' → gt x σ H' fun σ2 H2 => tS g W s1 { E with nx := N, ct := N, bk := E.nx } σ2 H2) := by
  refine ⟨fun i m σ' H' => i + m = ds.length ∧ ∃ F' e' M', Grow F H F' H' ∧ RelS g W.p F' e' M' σ' H' ∧ postS g W F' H' (forV tg s1 (ds.drop i) e' M') E, ⟨ds.length, by simp, F, e, M, .same, RS, by simpa using q⟩, ?_⟩
  rintro i m σ1 H1 ⟨hm, F1, e1, M1, g1, RS1, q1⟩
  by_cases hi : i < ds.length
  · refine .inr ⟨it.go F1 H1 i g1 hi, fun σ' H' => ∃ F' e' M', Grow F H F' H' ∧ RelS g W.p F' e' M' σ' H' ∧ postS g W F' H' (forV tg s1 (ds.drop (i + 1)) e' M') E, fun σ' H' ⟨F', e', M', z1, z2, z3⟩ => ⟨m - 1, by omega, by omega, F', e', M', z1, z2, z3⟩, fun x H2 hy => ?_⟩
    obtain ⟨hk, d, hd, r⟩ := it.yld F1 H1 i x H2 g1 hi hy
    obtain ⟨gk, Rk⟩ := RS1.m.keep hk
    have Yk := RS1.y.mono gk RS1.m.good
    replace q1 := q1.up gk
    replace g1 := g1.trans gk
    rw [drop_cons' hd] at q1
    unfold forV at q1
    cases ht : tg d e1 with
    | none => rw [ht] at q1; exact q1.elim
    | some e2 =>
      rw [ht] at q1
      refine ts F1 M1 e1 e2 σ1 _ d x _ Rk (RS1.e.mono gk RS1.m.good) r ht fun σ2 E2 => ⟨F1, e2, M1, ⟨Rk, E2, px _, Yk⟩, ?_⟩
      dsimp only at q1
      cases hb : s1 e2 M1 with
      | nx e3 M3 => rw [hb] at q1; exact fun F3 H3 σ3 g3 R3 E3 X3 => ⟨F3, e3, M3, g1.trans g3, ⟨R3, E3, X3, Yk.mono g3 Rk.good⟩, q1.up g3⟩
      | ct e3 M3 => rw [hb] at q1; exact fun F3 H3 σ3 g3 R3 E3 X3 => ⟨F3, e3, M3, g1.trans g3, ⟨R3, E3, X3, Yk.mono g3 Rk.good⟩, q1.up g3⟩
      | bk e3 M3 => rw [hb] at q1; exact q1
      | rt d3 M3 => rw [hb] at q1; exact q1
      | ex c ns ds e3 M3 => rw [hb] at q1; exact q1
      | bad => rw [hb] at q1; exact q1
  · have hi' : ds.length ≤ i := Nat.le_of_not_lt hi
    rw [List.drop_eq_nil_of_le hi'] at q1
    exact .inl ⟨it.stop F1 H1 i g1 hi', q1 F1 H1 σ1 .same RS1.m RS1.e RS1.x⟩
theorem lst_at {F : List Addr} {M : MH} {H : Hp} {n : Nat} {a : Addr} {ds : List D} (R : RelM g F M H) (hn : F[n]? = some a) (hm : M[n]? = some (.lst ds)) : ∃ vs, H a = some (.lst vs) ∧ Reps g F H ds vs := by
  obtain ⟨h, e, r⟩ := R.obj n a _ hn hm
  cases r with | lst r => exact ⟨_, e, r⟩
end
end T2
namespace T2
open PySem L2

section
variable {X : Cx} {g : Wd} {W : WY} {a b c : Expr} {pos p : Pos} {m1 m2 : EM} {ma : AM} {es : List Expr} {b1 : BM} {s1 s2 : SM} {st : Stmt} {sts : List Stmt}
theorem forL_run {F : List Addr} {e : Env2} {M : MH} {σ : St} {H : Hp} {n : Nat} {ad : Addr} {ds0 : List D} {tg : TgM} {gt : TG} {E : Ends} (px : ∀ σ, Pin W.p.xs σ) (RS : RelS g W.p F e M σ H) (hn : F[n]? = some ad) (ts : TgSim g tg gt) (q : postS g W F H (forL tg s1 n ds0.length 0 e M) E) :
    ∃ W1 : Nat → Nat → St → Hp → Prop, (∃ m, W1 0 m σ H) ∧ ∀ i m σ H, W1 i m σ H →
      ((Itl g.K ad).stop i H ∧ E.nx σ H) ∨ ((Itl g.K ad).go i H ∧ ∃ N : St → Hp → Prop, (∀ σ' H', N σ' H' → ∃ m', m' < m ∧ W1 (i + 1) m' σ' H') ∧ ∀ x H', (Itl g.K ad).yld i H x H' → gt x σ H' fun σ2 H2 => tS g W s1 { E with nx := N, ct := N, bk := E.nx } σ2 H2) := by
  refine ⟨fun i m σ' H' => ∃ F' e' M', Grow F H F' H' ∧ RelS g W.p F' e' M' σ' H' ∧ postS g W F' H' (forL tg s1 n m i e' M') E, ⟨ds0.length, F, e, M, .same, RS, q⟩, ?_⟩
  rintro i m σ1 H1 ⟨F1, e1, M1, g1, RS1, q1⟩
  have hn1 : F1[n]? = some ad := pre_get g1.pre hn
  cases m with
  | zero =>
    unfold forL at q1
    split at q1
    · rename_i ds hd
      obtain ⟨vs, hv, r⟩ := lst_at RS1.m hn1 hd
      split at q1
      · rename_i hl
        exact .inl ⟨⟨vs, SqL.of hv, by rw [← r.length]; exact hl⟩, q1 F1 H1 σ1 .same RS1.m RS1.e RS1.x⟩
      · exact q1.elim
    · exact q1.elim
  | succ m =>
    unfold forL at q1
    split at q1
    · rename_i ds hd
      obtain ⟨vs, hv, r⟩ := lst_at RS1.m hn1 hd
      split at q1
      · rename_i hx
        have hl : vs.length ≤ i := by rw [← r.length]; exact List.getElem?_eq_none_iff.mp hx
        exact .inl ⟨⟨vs, SqL.of hv, hl⟩, q1 F1 H1 σ1 .same RS1.m RS1.e RS1.x⟩
      · rename_i d hx
        obtain ⟨v, hvx, rv⟩ := r.get hx
        refine .inr ⟨⟨vs, v, SqL.of hv, hvx⟩, fun σ' H' => ∃ F' e' M', Grow F H F' H' ∧ RelS g W.p F' e' M' σ' H' ∧ postS g W F' H' (forL tg s1 n m (i + 1) e' M') E, fun σ' H' z => ⟨m, Nat.lt_succ_self m, z⟩, ?_⟩
        rintro x H2 ⟨rfl, hy⟩
        have ex : v = x := Option.some.inj (hvx.symm.trans (hy vs (SqL.of hv)))
        subst ex
        cases ht : tg d e1 with
        | none => rw [ht] at q1; exact q1.elim
        | some e2 =>
          rw [ht] at q1
          refine ts F1 M1 e1 e2 σ1 _ d v _ RS1.m RS1.e rv ht fun σ2 E2 => ⟨F1, e2, M1, ⟨RS1.m, E2, px _, RS1.y⟩, ?_⟩
          dsimp only at q1
          cases hb : s1 e2 M1 with
          | nx e3 M3 => rw [hb] at q1; exact fun F3 H3 σ3 g3 R3 E3 X3 => ⟨F3, e3, M3, g1.trans g3, ⟨R3, E3, X3, RS1.y.mono g3 RS1.m.good⟩, q1.up g3⟩
          | ct e3 M3 => rw [hb] at q1; exact fun F3 H3 σ3 g3 R3 E3 X3 => ⟨F3, e3, M3, g1.trans g3, ⟨R3, E3, X3, RS1.y.mono g3 RS1.m.good⟩, q1.up g3⟩
          | bk e3 M3 => rw [hb] at q1; exact q1
          | rt d3 M3 => rw [hb] at q1; exact q1
          | ex c ns ds e3 M3 => rw [hb] at q1; exact q1
          | bad => rw [hb] at q1; exact q1
    · exact q1.elim
theorem itV_tup {F : List Addr} {M : MH} {H : Hp} {ad : Addr} {ds : List D} {vs : List V} (R : RelM g F M H) (h : SqT g.K H ad vs) (r : Reps g F H ds vs) : ItV g (Itt g.K ad) F H ds where
  go := fun F' H' i gr hi => by
    have h' := sqT_mono gr R.good h
    have hv : i < vs.length := by rw [← r.length]; exact hi
    exact ⟨vs, vs[i], h', List.getElem?_eq_getElem hv⟩
  yld := fun F' H' i x H2 gr hi hy => by
    obtain ⟨rfl, hy⟩ := hy
    have hx := hy vs (sqT_mono gr R.good h)
    obtain ⟨v, hv, rv⟩ := (r.mono gr R.good).get (List.getElem?_eq_getElem hi)
    rw [hv] at hx; cases hx
    exact ⟨fun _ _ z => z, _, List.getElem?_eq_getElem hi, rv⟩
  stop := fun F' H' i gr hi => ⟨vs, sqT_mono gr R.good h, by rw [← r.length]; exact hi⟩
theorem itV_fro {F : List Addr} {M : MH} {H : Hp} {ad : Addr} {ds : List D} {vs : List V} (R : RelM g F M H) (h : FroL g F H ad vs) (r : Reps g F H ds vs) : ItV g (Itl g.K ad) F H ds where
  go := fun F' H' i gr hi => by
    have h' := (h.mono gr R.good).sq
    have hv : i < vs.length := by rw [← r.length]; exact hi
    exact ⟨vs, vs[i], h', List.getElem?_eq_getElem hv⟩
  yld := fun F' H' i x H2 gr hi hy => by
    obtain ⟨rfl, hy⟩ := hy
    have hx := hy vs (h.mono gr R.good).sq
    obtain ⟨v, hv, rv⟩ := (r.mono gr R.good).get (List.getElem?_eq_getElem hi)
    rw [hv] at hx; cases hx
    exact ⟨fun _ _ z => z, _, List.getElem?_eq_getElem hi, rv⟩
  stop := fun F' H' i gr hi => ⟨vs, (h.mono gr R.good).sq, by rw [← r.length]; exact hi⟩
theorem rangeD_len (lo : Int) (n : Nat) : (rangeD lo n).length = n := by unfold rangeD; simp
theorem rangeD_get {lo : Int} {n i : Nat} (h : i < n) : (rangeD lo n)[i]? = some (.int (lo + (i : Nat))) := by unfold rangeD; simp [h]
theorem itV_rng {F : List Addr} {H : Hp} (lo : Int) (n : Nat) : ItV g (Itr lo n) F H (rangeD lo n) where
  go := fun F' H' i gr hi => by rw [rangeD_len] at hi; exact hi
  yld := fun F' H' i x H2 gr hi hy => by
    rw [rangeD_len] at hi
    obtain ⟨rfl, rfl⟩ := hy
    exact ⟨fun _ _ z => z, _, rangeD_get hi, .int _⟩
  stop := fun F' H' i gr hi => by rw [rangeD_len] at hi; exact hi
theorem pi_or {tg iter : Expr} {w1 w2 : TI} (h1 : PI X tg iter w1) (h2 : PI X tg iter w2) : PI X tg iter (fun σ H R => w1 σ H R ∨ w2 σ H R) := ⟨fun pins s σ H R I q => q.elim (h1.run pins s σ H R I) (h2.run pins s σ H R I)⟩
/-- a reading of what is walked, simulated: at the loop and at a comprehension -/
def ItSim (g : Wd) (W : WY) (it : Env2 → MH → Res IV) (wi : TI) : Prop := ∀ (σ : St) (H : Hp) (F : List Addr) (e : Env2) (M : MH) (R : It → Hp → Prop), RelS g W.p F e M σ H →
  (match it e M with
    | .ok (.vals ds) M1 => ∀ F1 H1 J, Grow F H F1 H1 → RelM g F1 M1 H1 → ItV g J F1 H1 ds → R J H1
    | .ok (.live n) M1 => ∃ ds, M1[n]? = some (.lst ds) ∧ ∀ F1 H1 ad, Grow F H F1 H1 → RelM g F1 M1 H1 → F1[n]? = some ad → R (Itl g.K ad) H1
    | .exc c ns ds M1 => ∀ F1 H1 d, Grow F H F1 H1 → RelM g F1 M1 H1 → XRep g F1 H1 ns ds d → W.w (.ref (g.ca c)) d σ H1
    | .bad => False) → wi σ H R
theorem itSim_seq (hK : g.K = X.K) : ItSim g W (iSeq m1) (fun σ H R => iList X.K (tD g W m1) σ H R ∨ iTup X.K (tD g W m1) σ H R) := fun σ H F e M R RS q => by
  unfold iSeq at q
  cases hm : m1 e M with
  | ok d M1 =>
    rw [hm] at q
    cases d with
    | tup ds =>
      refine .inr ⟨F, e, M, RS, ?_⟩
      rw [hm]
      intro F1 H1 v g1 R1 r
      cases r with | tup h r => exact ⟨_, rfl, ⟨_, by rw [← hK]; exact h⟩, by rw [← hK]; exact q F1 H1 _ g1 R1 (itV_tup R1 h r)⟩
    | fro ds =>
      refine .inl ⟨F, e, M, RS, ?_⟩
      rw [hm]
      intro F1 H1 v g1 R1 r
      cases r with | fro h r => exact ⟨_, rfl, ⟨_, by rw [← hK]; exact h.sq⟩, by rw [← hK]; exact q F1 H1 _ g1 R1 (itV_fro R1 h r)⟩
    | ref n =>
      refine .inl ⟨F, e, M, RS, ?_⟩
      rw [hm]
      intro F1 H1 v g1 R1 r
      obtain ⟨ds, hd, q⟩ := q
      cases r with | ref h =>
        obtain ⟨vs, hv, _⟩ := lst_at R1 h hd
        exact ⟨_, rfl, ⟨vs, SqL.of hv⟩, by rw [← hK]; exact q F1 H1 _ g1 R1 h⟩
    | _ => exact q.elim
  | exc c ns ds M1 =>
    rw [hm] at q
    exact .inl ⟨F, e, M, RS, by rw [hm]; exact q⟩
  | bad => rw [hm] at q; exact q.elim
theorem itSim_range1 : ItSim g W (iRange1 m1) (iRng1 (tA g W (eCons m1 eNil))) := fun σ H F e M R RS q => by
  refine ⟨F, e, M, RS, ?_⟩
  unfold iRange1 at q
  unfold eCons eNil
  cases hm : m1 e M with
  | ok d M1 =>
    rw [hm] at q
    intro F1 H1 vs g1 R1 r
    cases r with | cons r t =>
      cases t
      cases r with
      | int j =>
        dsimp only [Res.bind] at q
        by_cases hz : -(2 ^ 62) ≤ j ∧ j < 2 ^ 62
        · rw [if_pos hz] at q
          exact ⟨j, rfl, hz.1, hz.2, q F1 H1 _ g1 R1 (itV_rng 0 _)⟩
        · rw [if_neg hz] at q
          exact q.elim
      | _ => exact q.elim
  | exc c ns ds M1 => rw [hm] at q; exact q
  | bad => rw [hm] at q; exact q.elim
theorem ds_for {tgE iter : Expr} {wi : TI} {it : Env2 → MH → Res IV} {gt : TG} {tg : TgM} (px : ∀ σ, Pin W.p.xs σ) (po : PassesOwn (model X.prog X.w) X.A X.env X.xe) (hc : X.calm = true) (hi : PI X tgE iter wi) (hsim : ItSim g W it wi) (hg : PG X tgE gt) (ts : TgSim g tg gt) (hb : PSs X sts (tS g W s1))
    (hs : ∀ x, foldedSetIterable iter X.env x = pure x := by intro _; rfl) : PS X (.For tgE iter sts [] pos) (tS g W (sForI it tg s1)) :=
  ps_imp (ps_for po hc hi hg hb hs) fun E σ H ⟨F, e, M, RS, q⟩ => hsim σ H F e M _ RS (by
    unfold sForI at q
    cases hm : it e M with
    | ok iv M1 =>
      rw [hm] at q
      cases iv with
      | vals ds => exact fun F1 H1 J g1 R1 itv => forV_run px (RS.up g1 R1) itv ts (q.up g1)
      | live n =>
        dsimp only at q
        split at q
        · rename_i ds hd
          exact ⟨ds, hd, fun F1 H1 ad g1 R1 hn => forL_run px (RS.up g1 R1) hn ts (q.up g1)⟩
        · exact q.elim
    | exc c ns ds M1 => rw [hm] at q; exact fun F1 H1 d g1 R1 x => q F1 H1 σ d g1 R1 (RS.up g1 R1).e x
    | bad => rw [hm] at q; exact q)
end

/-! ### a def -/
def spD (g : Wd) (n : Nat) (f : List D → MH → Res D) : Sp := fun vs H Q E => vs.length = n ∧ ∃ F M ds, RelM g F M H ∧ Reps g F H ds vs ∧ post g rD (fun c d _ H => E c d H) F [] H (f ds M) Q
def env0 (n : Nat) (ds : List D) : Env2 := ds.map some ++ List.replicate (n - ds.length) none
def toR (r : SR) : Res D := match r with
  | .rt d M => .ok d M
  | .nx _ M => .ok .non M
  | .ex c ns xs _ M => .exc c ns xs M
  | _ => .bad
def fnB (n : Nat) (b : SM) : List D → MH → Res D := fun ds M => toR (b (env0 n ds) M)
theorem envR_nones {g : Wd} {F : List Addr} {H : Hp} : ∀ n : Nat, EnvR g F H (List.replicate n none) (List.replicate n none)
  | 0 => .nil
  | n + 1 => .cons .none (envR_nones n)
theorem envR_start {g : Wd} {F : List Addr} {H : Hp} {N : List Str} : ∀ {ds : List D} {vs : List V}, Reps g F H ds vs → ∀ n : Nat, EnvR g F H (ds.map some ++ List.replicate n none) (vs.map some ++ List.replicate n none)
  | _, _, .nil, n => envR_nones n
  | _, _, .cons h t, n => .cons (.some h) (envR_start (N := N) t n)
theorem body_run {g : Wd} {E : XK} {N : List Str} {b : SM} {vs : List V} {H : Hp} {Q : VK} {n : Nat} (h : spD g n (fnB N.length b) vs H Q E) : tS g ⟨fun c d _ H => E c d H, ⟨[], []⟩⟩ b { nx := fun _ H' => Q .non H', rt := Q } (L2.start N vs) H := by
  obtain ⟨_, F, M, ds, R, r, q⟩ := h
  refine ⟨F, env0 N.length ds, M, ⟨R, ?_, pin_nil, xrs_nil⟩, ?_⟩
  · have := envR_start (N := N) r (N.length - ds.length)
    unfold L2.start env0
    rw [← r.length]
    exact this
  · unfold fnB at q
    cases hb : b (env0 N.length ds) M with
    | nx e M1 => rw [hb] at q; exact fun F1 H1 σ1 g1 R1 _ _ => q F1 H1 _ g1 R1 .non
    | rt d M1 => rw [hb] at q; exact q
    | ex c ns xs e M1 => rw [hb] at q; exact fun F1 H1 σ1 d g1 R1 _ x => q F1 H1 d g1 R1 x
    | bk e M1 => rw [hb] at q; exact q.elim
    | ct e M1 => rw [hb] at q; exact q.elim
    | bad => rw [hb] at q; exact q.elim
theorem fn_ok {P : Program} {w : World} {K : PySem.W.Frag} {mg : Str → Option Value} {base : Heap} {g : Wd} {x qual : Str} {st : Stmt} {f : Addr} {fd : FuncData} {N ps : List Str} {k : Nat} {b : SM} (F : Fun K x qual st f fd) (S : FnScope N ps (defScope st))
    (hbody : ∀ (cdv : Value) (A : Around) (outer : List Env) (s : Shared) (H : Hp) (E : XK), Room k (A.deeper (PyProof.Rows.envOfC qual (defScope st) s.heap.objs.size f cdv)) →
      PSs (cxOf (L2N.CX P w) P w K mg base N qual (defScope st) f cdv A outer s H E) (defBody st) (tS g ⟨fun c d _ H => E c d H, ⟨[], []⟩⟩ b)) : FnOk P w K mg base (L2N.CX P w) (k + 1) f fd ps (spD g ps.length (fnB N.length b)) :=
  by
  obtain ⟨oc, od, kV, doc, pm, an, cdv, ct, osl, rfl, lk, hcd⟩ := F.ex
  exact fn_of lk hcd S (fun vs H Q E h => h.1) fun A outer s H vs Q E hr h => ⟨_, hbody cdv A outer s H E hr, body_run h⟩

/-! ### a def's contract: what is left over may be forgotten -/
mutual
def D.low (k : Nat) : D → Prop
  | .ref n => n < k
  | .tup ds => D.lows k ds
  | .fro ds => D.lows k ds
  | .ins _ _ ds => D.lows k ds
  | _ => True
def D.lows (k : Nat) : List D → Prop
  | [] => True
  | d :: ds => D.low k d ∧ D.lows k ds
end
def MO.low (k : Nat) : MO → Prop
  | .lst ds => D.lows k ds
  | .dk _ ds => D.lows k ds
  | .dt _ ds => D.lows k ds
  | .ob _ _ ds => D.lows k ds
  | .lk _ ds => D.lows k ds
  | .lt _ ds => D.lows k ds
  | .dp _ ds => D.lows k ds
  | .lp _ ds => D.lows k ds
def MLow (M : MH) : Prop := ∀ o ∈ M, MO.low M.length o
section
variable {g : Wd} {F F' : List Addr} {H : Hp} {M : MH}
mutual
theorem Rep.low : ∀ {d : D} {v : V}, Rep g F H d v → D.low F.length d
  | _, _, .non => trivial
  | _, _, .bl _ => trivial
  | _, _, .int _ => trivial
  | _, _, .str _ => trivial
  | _, _, .ty _ => trivial
  | _, _, .cls _ => trivial
  | _, _, .obj _ => trivial
  | _, _, .tk _ => trivial
  | _, _, .ref h => (List.getElem?_eq_some_iff.mp h).1
  | _, _, .tup _ r => by unfold D.low; exact Reps.low r
  | _, _, .fro _ r => by unfold D.low; exact Reps.low r
  | _, _, .ins _ _ _ r => by unfold D.low; exact Reps.low r
theorem Reps.low : ∀ {ds : List D} {vs : List V}, Reps g F H ds vs → D.lows F.length ds
  | _, _, .nil => trivial
  | _, _, .cons h t => ⟨Rep.low h, Reps.low t⟩
end
theorem FroL.cut {k : Nat} {ad : Addr} {vs : List V} (h : FroL g F H ad vs) : FroL g (F.take k) H ad vs := by
  rcases h with ⟨h, n⟩ | h | h
  · exact .inl ⟨h, fun z => n (List.mem_of_mem_take z)⟩
  · exact .inr (.inl h)
  · exact .inr (.inr h)
mutual
theorem Rep.cut {k : Nat} : ∀ {d : D} {v : V}, Rep g F H d v → D.low k d → Rep g (F.take k) H d v
  | _, _, .non, _ => .non
  | _, _, .bl b, _ => .bl b
  | _, _, .int i, _ => .int i
  | _, _, .str x, _ => .str x
  | _, _, .ty n, _ => .ty n
  | _, _, .cls c, _ => .cls c
  | _, _, .obj a, _ => .obj a
  | _, _, .tk h, _ => .tk h
  | _, _, .ref h, l => .ref (by rw [List.getElem?_take_of_lt (by unfold D.low at l; exact l)]; exact h)
  | _, _, .tup h r, l => .tup h (Reps.cut r (by unfold D.low at l; exact l))
  | _, _, .fro h r, l => .fro h.cut (Reps.cut r (by unfold D.low at l; exact l))
  | _, _, .ins h hn hl r, l => .ins h (fun z => hn (List.mem_of_mem_take z)) hl (Reps.cut r (by unfold D.low at l; exact l))
theorem Reps.cut {k : Nat} : ∀ {ds : List D} {vs : List V}, Reps g F H ds vs → D.lows k ds → Reps g (F.take k) H ds vs
  | _, _, .nil, _ => .nil
  | _, _, .cons h t, l => .cons (Rep.cut h l.1) (Reps.cut t l.2)
end
theorem ObjR.cut {k : Nat} {o : MO} {h : HO} (r : ObjR g F H o h) (l : MO.low k o) : ObjR g (F.take k) H o h := by
  cases r with
  | lst r => exact .lst (r.cut l)
  | dk hl r => exact .dk hl (r.cut l)
  | dt hl r => exact .dt hl (r.cut l)
  | ob hl r => exact .ob hl (r.cut l)
  | lk hl r => exact .lk hl (r.cut l)
  | lt hl r => exact .lt hl (r.cut l)
  | dp hk kt vl r => exact .dp hk kt vl (r.cut l)
  | lp hk kt vl r => exact .lp hk kt vl (r.cut l)
theorem RelM.low (R : RelM g F M H) : MLow M := fun o ho => by
  obtain ⟨n, hn⟩ := List.getElem?_of_mem ho
  have hl : n < F.length := by rw [R.len]; exact (List.getElem?_eq_some_iff.mp hn).1
  obtain ⟨h, _, r⟩ := R.obj n _ o (List.getElem?_eq_getElem hl) hn
  rw [← R.len]
  cases r with
  | lst r => exact r.low
  | dk hl r => exact r.low
  | dt hl r => exact r.low
  | ob hl r => exact r.low
  | lk hl r => exact r.low
  | lt hl r => exact r.low
  | dp hk kt vl r => exact r.low
  | lp hk kt vl r => exact r.low
theorem RelM.cut {G : MH} (R : RelM g F (M ++ G) H) (l : MLow M) : RelM g (F.take M.length) M H := by
  have hF : M.length ≤ F.length := by rw [R.len]; simp
  refine ⟨by simp [hF], R.nd.sublist (List.take_sublist _ _), fun n a o e m => ?_⟩
  have hn : n < M.length := (List.getElem?_eq_some_iff.mp m).1
  rw [List.getElem?_take_of_lt hn] at e
  obtain ⟨h, e2, r⟩ := R.obj n a o e (by rw [List.getElem?_append_left hn]; exact m)
  exact ⟨h, e2, r.cut (l o (List.mem_of_getElem? m))⟩
theorem Grow.cut {H0 : Hp} {F0 : List Addr} {k : Nat} (gr : Grow F0 H0 F H) (h : F0.length ≤ k) : Grow F0 H0 (F.take k) H := by
  obtain ⟨⟨t, rfl⟩, kp, nw, lk⟩ := gr
  refine ⟨?_, kp, fun b hb => nw b (List.mem_of_mem_take hb), lk⟩
  rw [List.take_append, List.take_of_length_le h]
  exact List.prefix_append _ _
end
/-- r' is what is promised of r; what r has made beyond may be forgotten -/
def Refines (M0 : MH) (r r' : Res D) : Prop := match r' with
  | .bad => True
  | .ok d M => r = .ok d M ∨ (∃ G, r = .ok d (M ++ G) ∧ M0.length ≤ M.length ∧ D.low M.length d ∧ MLow M)
  | .exc c ns ds M => r = .exc c ns ds M ∨ (∃ G, r = .exc c ns ds (M ++ G) ∧ M0.length ≤ M.length ∧ D.lows M.length ds ∧ MLow M)
theorem XRep.cut {g : Wd} {F : List Addr} {H : Hp} {k : Nat} {ns : List Str} {ds : List D} {d : Option Addr} (x : XRep g F H ns ds d) (l : D.lows k ds) : XRep g (F.take k) H ns ds d := by
  cases x with
  | no => exact .no
  | so h hne hl r => exact .so h hne hl (r.cut l)
theorem Refines.post {g : Wd} {W : WX} {F : List Addr} {M0 : MH} {σ : St} {H : Hp} {r r' : Res D} {Q : VK} (R : RelM g F M0 H) (h : Refines M0 r r') (q : post g rD W F σ H r' Q) : post g rD W F σ H r Q := by
  cases r' with
  | bad => exact q.elim
  | ok d M =>
    rcases h with rfl | ⟨G, rfl, hl, ld, lm⟩
    · exact q
    · exact fun F1 H1 v g1 R1 rv => q _ H1 v (g1.cut (by rw [R.len]; exact hl)) (R1.cut lm) (rv.cut ld)
  | exc c ns ds M =>
    rcases h with rfl | ⟨G, rfl, hl, ld, lm⟩
    · exact q
    · exact fun F1 H1 v g1 R1 x => q _ H1 v (g1.cut (by rw [R.len]; exact hl)) (R1.cut lm) (x.cut ld)
theorem fn_ref {P : Program} {w : World} {K : PySem.W.Frag} {mg : Str → Option Value} {base : Heap} {CX : CXT} {g : Wd} {f : Addr} {fd : FuncData} {ps : List Str} {k n : Nat} {m m' : List D → MH → Res D} (F : FnOk P w K mg base CX k f fd ps (spD g n m))
    (h : ∀ ds M, ds.length = n → D.lows M.length ds → MLow M → Refines M (m ds M) (m' ds M)) : FnOk P w K mg base CX k f fd ps (spD g n m') :=
  F.imp fun vs H Q E ⟨hl, F, M, ds, R, r, q⟩ => ⟨hl, F, M, ds, R, r, (h ds M (by rw [r.length]; exact hl) (by rw [← R.len]; exact r.low) R.low).post R q⟩

/-! ### calls -/
def eCall (n : Nat) (f : List D → MH → Res D) (a : AM) : EM := eArgs (fun ds M => if ds.length = n then f ds M else .bad) a
theorem post_call {g : Wd} {W : WX} {F : List Addr} {σ : St} {H : Hp} {r : Res D} {Q : VK} (q : post g rD W F σ H r Q) : post g rD (fun c d _ H => W c d σ H) F [] H r Q := by
  cases r with
  | ok d M => exact q
  | exc c ns ds M => exact q
  | bad => exact q
section
variable {X : Cx} {g : Wd} {W : WY} {a b c : Expr} {pos p : Pos} {m1 m2 : EM} {ma : AM} {es : List Expr} {k n : Nat} {f : Addr} {fd : FuncData} {ps : List Str} {m : List D → MH → Res D} {x : Str}
theorem call_imp {σ : St} {H : Hp} {Q : VK} (q : tD g W (eCall n m ma) σ H Q) : tA g W ma σ H fun vs H1 => spD g n m vs H1 Q (WE W.w σ) := by
  obtain ⟨F, e, M, RS, q⟩ := q
  refine ⟨F, e, M, RS, q.bind fun ds M1 F1 H1 vs e1 g1 R1 r q1 => ?_⟩
  split at q1
  · rename_i hl
    exact ⟨by rw [← r.length]; exact hl, F1, M1, ds, R1, r, post_call q1⟩
  · exact q1.elim
theorem de_call (G : FnOk X.prog X.w X.K X.mg X.base (L2N.CX X.prog X.w) k f fd ps (spD g n m)) (hr : Room k X.A) (tk : L2N.Takes X W.w) (hm : X.mg x = some (.ref f)) (hk : PySem.W.keepIn X.K (.ref f) = true) (hb : Binds X.K fd ps []) (ha : PA X (a :: es) (tA g W ma)) (hg : Gl X x := by rfl)
    (hdb : (x == ("__debug__" : Str)) = false := by decide) (he : starEach (a :: es) X.env = (false, eval a X.env) :: starEach es X.env := by rfl) (hpl : (backTo pos (starEach es X.env)).any (·.1) = false := by rfl) :
    PE X (.Call (.Name x p) (a :: es) [] pos) (tD g W (eCall n m ma)) :=
  pe_imp (pe_callSD G hr hg hm hk hb .nil (fun σ => L2N.passAt tk σ) ha hdb he hpl) fun σ H Q q => by
    have := call_imp q
    unfold tCallSD
    simpa using this
end
end T2
namespace T2
open PySem L2

/-! ### operations on values -/
/-- the items of a tuple or of a list that stands there -/
def items (M : MH) : D → Option (List D)
  | .tup ds => some ds
  | .fro ds => some ds
  | .ref n => match M[n]? with
    | some (.lst ds) => some ds
    | _ => none
  | _ => none
def mkF (ds : List D) (M : MH) : Res D := .ok (.fro ds) M
def listItems (M : MH) : D → Option (List D)
  | .fro ds => some ds
  | .ref n => match M[n]? with
    | some (.lst ds) => some ds
    | _ => none
  | _ => none
def big : Nat := 100000
def dAdd (x y : D) (M : MH) : Res D := match x, y with
  | .int i, .int j => .ok (.int (i + j)) M
  | .str a, .str b => if a.length + b.length ≤ big then .ok (.str (a ++ b)) M else .bad
  | .tup xs, .tup ys => if xs.length + ys.length ≤ big then .ok (.tup (xs ++ ys)) M else .bad
  | _, _ => .bad
def dSub (x y : D) (M : MH) : Res D := match x, y with
  | .int i, .int j => .ok (.int (i - j)) M
  | _, _ => .bad
def dMul (x y : D) (M : MH) : Res D := match x, y with
  | .int i, .int j => if (-(2 ^ 64) < i ∧ i < 2 ^ 64) ∨ (-(2 ^ 64) < j ∧ j < 2 ^ 64) then .ok (.int (i * j)) M else .bad
  | _, _ => .bad
def dDiv (x y : D) (M : MH) : Res D := match x, y with
  | .int i, .int j => if 0 < j ∧ j < 1073741824 then .ok (.int (i / j)) M else .bad
  | _, _ => .bad
def dMod (x y : D) (M : MH) : Res D := match x, y with
  | .int i, .int j => if 0 < j then .ok (.int (i % j)) M else .bad
  | _, _ => .bad
def dPow (x y : D) (M : MH) : Res D := match x, y with
  | .int i, .int j => if 0 ≤ j ∧ j ≤ 1000000 ∧ i.natAbs < 2 ^ 64 then .ok (.int (i ^ j.toNat)) M else .bad
  | _, _ => .bad
def dCmpI (f : Int → Int → Bool) (x y : D) (M : MH) : Res D := match x, y with
  | .int i, .int j => .ok (.bl (f i j)) M
  | _, _ => .bad
def dLt : D → D → MH → Res D := dCmpI fun i j => decide (i < j)
def dGt : D → D → MH → Res D := dCmpI fun i j => decide (j < i)
def dGe : D → D → MH → Res D := dCmpI fun i j => decide (j ≤ i)
def isNon : D → Bool
  | .non => true
  | _ => false
def isBl (b : Bool) : D → Bool
  | .bl c => c == b
  | _ => false
def dIs (x y : D) (M : MH) : Res D := match y with
  | .non => .ok (.bl (isNon x)) M
  | .bl b => .ok (.bl (isBl b x)) M
  | _ => .bad
def dIsNot (x y : D) (M : MH) : Res D := match y with
  | .non => .ok (.bl (!isNon x)) M
  | .bl b => .ok (.bl (!isBl b x)) M
  | _ => .bad
mutual
/-- a tree as data; rf tells what stands at a place -/
def toPa (rf : Nat → Option PyData) : D → Option PyData
  | .non => some .none
  | .bl b => some (.bool b)
  | .int i => some (.int i)
  | .str x => some (.str x)
  | .tup ds => (toPas rf ds).map .tuple
  | .fro ds => (toPas rf ds).map .list
  | .ref n => rf n
  | .ty _ => none
  | .cls _ => none
  | .obj _ => none
  | .tk _ => none
  | .ins _ _ _ => none
def toPas (rf : Nat → Option PyData) : List D → Option (List PyData)
  | [] => some []
  | d :: ds => match toPa rf d, toPas rf ds with
    | some p, some ps => some (p :: ps)
    | _, _ => none
end
def rfOf (M : MH) : Nat → Nat → Option PyData
  | 0, _ => none
  | k + 1, n => match M[n]? with
    | some (.lst ds) => (toPas (rfOf M k) ds).map .list
    | _ => none
def toP (M : MH) (k : Nat) (d : D) : Option PyData := toPa (rfOf M k) d
def toPs (M : MH) (k : Nat) (ds : List D) : Option (List PyData) := toPas (rfOf M k) ds
theorem toP_tup {M : MH} {k : Nat} {ds : List D} : toP M k (.tup ds) = (toPs M k ds).map .tuple := by unfold toP toPs; rw [toPa]
theorem toP_fro {M : MH} {k : Nat} {ds : List D} : toP M k (.fro ds) = (toPs M k ds).map .list := by unfold toP toPs; rw [toPa]
theorem toP_ref {M : MH} {k n : Nat} : toP M (k + 1) (.ref n) = match M[n]? with
    | some (.lst ds) => (toPs M k ds).map .list
    | _ => none := by unfold toP toPs; rw [toPa, rfOf]
theorem toPs_cons {M : MH} {k : Nat} {d : D} {ds : List D} : toPs M k (d :: ds) = match toP M k d, toPs M k ds with
    | some p, some ps => some (p :: ps)
    | _, _ => none := by unfold toP toPs; rw [toPas]
def dEq (x y : D) (M : MH) : Res D := match toP M 4 x, toP M 4 y with
  | some p, some q => if SeqAt.shaped p = true ∧ SeqAt.shaped q = true then .ok (.bl (PyData.eqv p q)) M else .bad
  | _, _ => .bad
def dNe (x y : D) (M : MH) : Res D := match toP M 4 x, toP M 4 y with
  | some p, some q => if SeqAt.shaped p = true ∧ SeqAt.shaped q = true then .ok (.bl (!PyData.eqv p q)) M else .bad
  | _, _ => .bad
def dIx (x y : D) (M : MH) : Res D := match y with
  | .int i => match x with
    | .str z => if z.length ≤ big then (match atI z.cps.toList i with
      | some c => .ok (.str ⟨#[c]⟩) M
      | none => .bad) else .bad
    | x => match items M x with
      | some ds => (match atI ds i with
        | some d => .ok d M
        | none => .bad)
      | none => .bad
  | _ => .bad
def dLen (ds : List D) (M : MH) : Res D := match ds with
  | [.str z] => if z.length ≤ big then .ok (.int z.length) M else .bad
  | [x] => match items M x with
    | some ys => .ok (.int ys.length) M
    | none => .bad
  | _ => .bad
def dListF (ds : List D) (M : MH) : Res D := match ds with
  | [x] => match items M x with
    | some ys => mkF ys M
    | none => .bad
  | _ => .bad
def dInt (ds : List D) (M : MH) : Res D := match ds with
  | [.int i] => .ok (.int i) M
  | [.bl b] => .ok (.int (if b then 1 else 0)) M
  | _ => .bad
def dAbs (ds : List D) (M : MH) : Res D := match ds with
  | [.int i] => .ok (.int (if i < 0 then -i else i)) M
  | _ => .bad
theorem bigLine {n : Nat} (h : n ≤ big) : n ≤ sizeLine := Nat.le_trans h (by decide)
section
variable {X : Cx} {g : Wd}
theorem items_at {F : List Addr} {M : MH} {H : Hp} {x : D} {v : V} {ds : List D} (R : RelM g F M H) (r : Rep g F H x v) (h : items M x = some ds) : ∃ a vs, v = .ref a ∧ (SqL g.K H a vs ∨ SqT g.K H a vs) ∧ Reps g F H ds vs := by
  cases r with
  | tup h1 r => cases h; exact ⟨_, _, rfl, .inr h1, r⟩
  | fro h1 r => cases h; exact ⟨_, _, rfl, .inl h1.sq, r⟩
  | ref h1 =>
    dsimp only [items] at h
    split at h
    · rename_i ds' hd
      cases h
      obtain ⟨vs, hv, r⟩ := lst_at R h1 hd
      exact ⟨_, vs, rfl, .inl (SqL.of hv), r⟩
    · cases h
  | _ => cases h
theorem mkF_post {W : WX} {F : List Addr} {M : MH} {H : Hp} {σ : L2.St} {Q : VK} {ds : List D} {vs : List V} {p : Addr} (R : RelM g F M H) (r : Reps g F H ds vs) (q : post g rD W F σ H (mkF ds M) Q) (hp : H p = none) : Q (.ref p) (upd H p (.lst vs)) := by
  obtain ⟨g1, R1⟩ := R.still (o := .lst vs) hp
  exact q.ok g1 R1 (.fro (.inl ⟨upd_same, R.notin hp⟩) (r.mono g1 R.good))
theorem tup_post {W : WX} {F : List Addr} {M : MH} {H : Hp} {σ : L2.St} {Q : VK} {ds : List D} {vs : List V} {p : Addr} (R : RelM g F M H) (r : Reps g F H ds vs) (q : post g rD W F σ H (.ok (.tup ds) M) Q) (hp : H p = none) : Q (.ref p) (upd H p (.tup vs)) := by
  obtain ⟨g1, R1⟩ := R.still (o := .tup vs) hp
  exact q.ok g1 R1 (.tup (SqT.of upd_same) (r.mono g1 R.good))
theorem sim_sub : Sim2 g dSub (rI0 fun i j => .int (i - j)) := fun F M σ H W x y v w Q R rx ry q => by
  unfold dSub at q
  split at q
  · cases rx; cases ry; exact ⟨_, _, rfl, rfl, q.here R (.int _)⟩
  · exact q.elim
theorem sim_mul : Sim2 g dMul (rI CMul fun i j => .int (i * j)) := fun F M σ H W x y v w Q R rx ry q => by
  unfold dMul at q
  split at q
  · cases rx; cases ry
    split at q
    · rename_i hc; exact ⟨_, _, rfl, rfl, hc, q.here R (.int _)⟩
    · exact q.elim
  · exact q.elim
theorem sim_div : Sim2 g dDiv (rI CDiv fun i j => .int (i / j)) := fun F M σ H W x y v w Q R rx ry q => by
  unfold dDiv at q
  split at q
  · cases rx; cases ry
    split at q
    · rename_i hc; exact ⟨_, _, rfl, rfl, hc, q.here R (.int _)⟩
    · exact q.elim
  · exact q.elim
theorem sim_mod : Sim2 g dMod (rI (fun _ j => 0 < j) fun i j => .int (i % j)) := fun F M σ H W x y v w Q R rx ry q => by
  unfold dMod at q
  split at q
  · cases rx; cases ry
    split at q
    · rename_i hc; exact ⟨_, _, rfl, rfl, hc, q.here R (.int _)⟩
    · exact q.elim
  · exact q.elim
theorem sim_pow : Sim2 g dPow (rI CPow fun i j => .int (i ^ j.toNat)) := fun F M σ H W x y v w Q R rx ry q => by
  unfold dPow at q
  split at q
  · cases rx; cases ry
    split at q
    · rename_i hc; exact ⟨_, _, rfl, rfl, hc, q.here R (.int _)⟩
    · exact q.elim
  · exact q.elim
theorem sim_cmpI {f : Int → Int → Bool} : Sim2 g (dCmpI f) (rI0 fun i j => .bl (f i j)) := fun F M σ H W x y v w Q R rx ry q => by
  unfold dCmpI at q
  split at q
  · cases rx; cases ry; exact ⟨_, _, rfl, rfl, q.here R (.bl _)⟩
  · exact q.elim
def rAddA (K : PySem.W.Frag) : R2 := fun x y H Q => (∃ i j, x = .int i ∧ y = .int j ∧ Q (.int (i + j)) H) ∨ (∃ i j, x = .str i ∧ y = .str j ∧ i.length + j.length ≤ sizeLine ∧ Q (.str (i ++ j)) H) ∨ rCatA K x y H Q
theorem op_addA : OpR X (binaryOp .Add) (rAddA X.K) := op_add.or (op_add_str.or op_catA)
theorem sim_add (hK : g.K = X.K) : Sim2 g dAdd (rAddA X.K) := fun F M σ H W x y v w Q R rx ry q => by
  unfold dAdd at q
  split at q
  · cases rx; cases ry; exact .inl ⟨_, _, rfl, rfl, q.here R (.int _)⟩
  · cases rx; cases ry
    split at q
    · rename_i hl; exact .inr (.inl ⟨_, _, rfl, rfl, bigLine hl, q.here R (.str _)⟩)
    · exact q.elim
  · rename_i xs ys
    cases rx with | tup h1 r1 =>
    cases ry with | tup h2 r2 =>
    rename_i a1 v1 a2 v2
    split at q
    · rename_i hl
      refine .inr (.inr ⟨_, _, _, _, rfl, rfl, by rw [← hK]; exact h1, by rw [← hK]; exact h2, by rw [← r1.length, ← r2.length]; exact bigLine hl, fun z => ?_, fun z1 z => ?_, fun z1 z2 p hp => ?_⟩)
      · have : xs = [] := by cases r1 with | nil => rfl | cons => cases z
        subst this
        exact q.here R (.tup h2 (by simpa using r2))
      · have : ys = [] := by cases r2 with | nil => rfl | cons => cases z
        subst this
        exact q.here R (.tup h1 (by simpa using r1))
      · exact tup_post R (r1.append r2) q hp
    · exact q.elim
  · exact q.elim
def rIsA : R2 := fun x y H Q => (y = .non ∧ Q (.bl (decide (x = .non))) H) ∨ ∃ b, y = .bl b ∧ Q (.bl (decide (x = .bl b))) H
def rIsNotA : R2 := fun x y H Q => (y = .non ∧ Q (.bl (!decide (x = .non))) H) ∨ ∃ b, y = .bl b ∧ Q (.bl (!decide (x = .bl b))) H
theorem op_isB2 : OpR X (compareOp .Is) (fun x y H Q => ∃ b, y = .bl b ∧ Q (.bl (decide (x = .bl b))) H) := by
  intro pins s σ H x y v u Q I rx ry h
  obtain ⟨b, rfl, q⟩ := h
  cases (show u = Value.bool b from ry)
  by_cases e : x = .bl b
  · subst e
    cases (show v = Value.bool b from rx)
    exact wpAny_is_self rfl ⟨.bl true, H, I, rfl, by simpa using q⟩
  · have hne : v ≠ Value.bool b := fun z => by
      subst z
      exact e (rx.inj (show RelV (.bl b) (Value.bool b) from rfl))
    refine wpAny_is_other ?_ hne ⟨.bl false, H, I, rfl, by simpa [e] using q⟩
    cases x <;> first
      | (cases rx; rfl)
      | (obtain ⟨t, rfl⟩ := rx; rfl)
theorem op_isNotB2 : OpR X (compareOp .IsNot) (fun x y H Q => ∃ b, y = .bl b ∧ Q (.bl (!decide (x = .bl b))) H) := by
  intro pins s σ H x y v u Q I rx ry h
  obtain ⟨b, rfl, q⟩ := h
  cases (show u = Value.bool b from ry)
  by_cases e : x = .bl b
  · subst e
    cases (show v = Value.bool b from rx)
    exact wpAny_isNot_self rfl ⟨.bl false, H, I, rfl, by simpa using q⟩
  · have hne : v ≠ Value.bool b := fun z => by
      subst z
      exact e (rx.inj (show RelV (.bl b) (Value.bool b) from rfl))
    refine wpAny_isNot_other ?_ hne ⟨.bl true, H, I, rfl, by simpa [e] using q⟩
    cases x <;> first
      | (cases rx; rfl)
      | (obtain ⟨t, rfl⟩ := rx; rfl)
theorem op_isA : OpR X (compareOp .Is) rIsA := op_isN.or op_isB2
theorem op_isNotA : OpR X (compareOp .IsNot) rIsNotA := op_notN.or op_isNotB2
theorem isNon_rep {F : List Addr} {H : Hp} {x : D} {v : V} (r : Rep g F H x v) : decide (v = .non) = isNon x := by cases r <;> rfl
theorem isBl_rep {F : List Addr} {H : Hp} {x : D} {v : V} {b : Bool} (r : Rep g F H x v) : decide (v = .bl b) = isBl b x := by
  cases r with
  | bl c => cases b <;> cases c <;> rfl
  | _ => rfl
theorem sim_is : Sim2 g dIs rIsA := fun F M σ H W x y v w Q R rx ry q => by
  unfold dIs at q
  split at q
  · cases ry; exact .inl ⟨rfl, by rw [isNon_rep rx]; exact q.here R (.bl _)⟩
  · cases ry; exact .inr ⟨_, rfl, by rw [isBl_rep rx]; exact q.here R (.bl _)⟩
  · exact q.elim
theorem sim_isNot : Sim2 g dIsNot rIsNotA := fun F M σ H W x y v w Q R rx ry q => by
  unfold dIsNot at q
  split at q
  · cases ry; exact .inl ⟨rfl, by rw [isNon_rep rx]; exact q.here R (.bl _)⟩
  · cases ry; exact .inr ⟨_, rfl, by rw [isBl_rep rx]; exact q.here R (.bl _)⟩
  · exact q.elim
mutual
theorem toP_rep {F : List Addr} {M : MH} {H : Hp} (R : RelM g F M H) : ∀ (k : Nat) (d : D) (v : V) (p : PyData), Rep g F H d v → toP M k d = some p → Dp g.K H v p
  | k, .non, v, p, r, h => by cases r; simp only [toP, toPa] at h; cases h; exact .non
  | k, .bl b, v, p, r, h => by cases r; simp only [toP, toPa] at h; cases h; exact .bl b
  | k, .int i, v, p, r, h => by cases r; simp only [toP, toPa] at h; cases h; exact .int i
  | k, .str x, v, p, r, h => by cases r; simp only [toP, toPa] at h; cases h; exact .str x
  | k, .tup ds, v, p, r, h => by
    rw [toP_tup] at h
    cases r with | tup h1 r1 =>
    cases hq : toPs M k ds with
    | none => rw [hq] at h; cases h
    | some ps => rw [hq] at h; cases h; exact .tup h1 (toPs_rep R k ds _ ps r1 hq)
  | k, .fro ds, v, p, r, h => by
    rw [toP_fro] at h
    cases r with | fro h1 r1 =>
    cases hq : toPs M k ds with
    | none => rw [hq] at h; cases h
    | some ps => rw [hq] at h; cases h; exact .lst h1.sq (toPs_rep R k ds _ ps r1 hq)
  | k + 1, .ref n, v, p, r, h => by
    rw [toP_ref] at h
    cases r with | ref h1 =>
    split at h
    · rename_i ds hd
      obtain ⟨vs, hv, r1⟩ := lst_at R h1 hd
      cases hq : toPs M k ds with
      | none => rw [hq] at h; cases h
      | some ps => rw [hq] at h; cases h; exact .lst (SqL.of hv) (toPs_rep R k ds _ ps r1 hq)
    · cases h
  | 0, .ref n, v, p, r, h => by simp [toP, toPa, rfOf] at h
  | k, .ty n, v, p, r, h => by simp [toP, toPa, rfOf] at h
  | k, .cls n, v, p, r, h => by simp [toP, toPa, rfOf] at h
  | k, .obj n, v, p, r, h => by simp [toP, toPa, rfOf] at h
  | k, .ins c ns ds, v, p, r, h => by simp [toP, toPa, rfOf] at h
termination_by k d => (k, sizeOf d)
theorem toPs_rep {F : List Addr} {M : MH} {H : Hp} (R : RelM g F M H) : ∀ (k : Nat) (ds : List D) (vs : List V) (ps : List PyData), Reps g F H ds vs → toPs M k ds = some ps → DpAll g.K H vs ps
  | k, [], vs, ps, r, h => by cases r; simp only [toPs, toPas] at h; cases h; exact .nil
  | k, d :: ds, vs, ps, r, h => by
    rw [toPs_cons] at h
    cases r with | cons r1 r2 =>
    cases hp : toP M k d with
    | none => rw [hp] at h; cases h
    | some p =>
      cases hq : toPs M k ds with
      | none => rw [hp, hq] at h; cases h
      | some qs => rw [hp, hq] at h; cases h; exact .cons (toP_rep R k d _ p r1 hp) (toPs_rep R k ds _ qs r2 hq)
termination_by k ds => (k, sizeOf ds)
end
theorem sim_eq (hK : g.K = X.K) : Sim2 g dEq (rEqD X.K) := fun F M σ H W x y v w Q R rx ry q => by
  unfold dEq at q
  split at q
  · rename_i p1 p2 h1 h2
    split at q
    · rename_i hs
      rw [← hK]
      exact ⟨p1, p2, toP_rep R 4 x v p1 rx h1, toP_rep R 4 y w p2 ry h2, hs.1, hs.2, q.here R (.bl _)⟩
    · exact q.elim
  · exact q.elim
theorem sim_ne (hK : g.K = X.K) : Sim2 g dNe (rNeD X.K) := fun F M σ H W x y v w Q R rx ry q => by
  unfold dNe at q
  split at q
  · rename_i p1 p2 h1 h2
    split at q
    · rename_i hs
      rw [← hK]
      exact ⟨p1, p2, toP_rep R 4 x v p1 rx h1, toP_rep R 4 y w p2 ry h2, hs.1, hs.2, q.here R (.bl _)⟩
    · exact q.elim
  · exact q.elim
theorem atI_rep {F : List Addr} {H : Hp} {ds : List D} {vs : List V} {i : Int} {d : D} (r : Reps g F H ds vs) (h : atI ds i = some d) : ∃ v, atI vs i = some v ∧ Rep g F H d v := by
  unfold atI at h ⊢
  rw [r.length] at h
  cases hj : ixN vs.length i with
  | none => rw [hj] at h; cases h
  | some j =>
    rw [hj] at h
    exact r.get h
theorem sim_ix (hK : g.K = X.K) : Sim2 g dIx (rIx X.K) := fun F M σ H W x y v w Q R rx ry q => by
  unfold dIx at q
  split at q
  · cases ry
    split at q
    · cases rx
      split at q
      · rename_i hl
        split at q
        · rename_i c hc
          exact .inr (.inr ⟨_, _, c, rfl, rfl, bigLine hl, hc, q.here R (.str _)⟩)
        · exact q.elim
      · exact q.elim
    · split at q
      · rename_i ds hd
        obtain ⟨a, vs, rfl, hs, r⟩ := items_at R rx hd
        split at q
        · rename_i d hx
          obtain ⟨z, hz, rz⟩ := atI_rep r hx
          rw [hK] at hs
          rcases hs with hs | hs
          · exact .inl ⟨a, vs, _, z, rfl, rfl, hs, hz, q.here R rz⟩
          · exact .inr (.inl ⟨a, vs, _, z, rfl, rfl, hs, hz, q.here R rz⟩)
        · exact q.elim
      · exact q.elim
  · exact q.elim
end
/-! ### expressions by these operations -/
section
variable {X : Cx} {g : Wd} {W : WY} {a b c : Expr} {pos p : Pos} {m1 m2 m3 : EM} {ma : AM} {es : List Expr}
theorem de_add (hK : g.K = X.K) (ha : PE X a (tD g W m1)) (hb : PE X b (tD g W m2)) : PE X (.BinOp a .Add b pos) (tD g W (eBin dAdd m1 m2)) := de_op op_addA (sim_add hK) ha hb
theorem de_sub (ha : PE X a (tD g W m1)) (hb : PE X b (tD g W m2)) : PE X (.BinOp a .Sub b pos) (tD g W (eBin dSub m1 m2)) := de_op op_sub sim_sub ha hb
theorem de_mul (ha : PE X a (tD g W m1)) (hb : PE X b (tD g W m2)) : PE X (.BinOp a .Mult b pos) (tD g W (eBin dMul m1 m2)) := de_op op_mul sim_mul ha hb
theorem de_div (ha : PE X a (tD g W m1)) (hb : PE X b (tD g W m2)) : PE X (.BinOp a .FloorDiv b pos) (tD g W (eBin dDiv m1 m2)) := de_op op_fdiv sim_div ha hb
theorem de_mod (ha : PE X a (tD g W m1)) (hb : PE X b (tD g W m2)) : PE X (.BinOp a .Mod b pos) (tD g W (eBin dMod m1 m2)) := de_op op_mod sim_mod ha hb
theorem de_pow (ha : PE X a (tD g W m1)) (hb : PE X b (tD g W m2)) : PE X (.BinOp a .Pow b pos) (tD g W (eBin dPow m1 m2)) := de_op op_pow sim_pow ha hb
theorem de_lt (ha : PE X a (tD g W m1)) (hb : PE X b (tD g W m2)) : PE X (.Compare a [.Lt] [b] pos) (tD g W (eBin dLt m1 m2)) := de_cmp op_lt sim_cmpI ha hb (nomark _)
theorem de_ge (ha : PE X a (tD g W m1)) (hb : PE X b (tD g W m2)) : PE X (.Compare a [.GtE] [b] pos) (tD g W (eBin dGe m1 m2)) := de_cmp op_ge sim_cmpI ha hb (nomark _)
theorem de_is (ha : PE X a (tD g W m1)) (hb : PE X b (tD g W m2)) : PE X (.Compare a [.Is] [b] pos) (tD g W (eBin dIs m1 m2)) := de_cmp op_isA sim_is ha hb (nomark _)
theorem de_isnot (ha : PE X a (tD g W m1)) (hb : PE X b (tD g W m2)) : PE X (.Compare a [.IsNot] [b] pos) (tD g W (eBin dIsNot m1 m2)) := de_cmp op_isNotA sim_isNot ha hb (nomark _)
theorem de_eq (hK : g.K = X.K) (hu : X.A.units + 64 < cLine) (ha : PE X a (tD g W m1)) (hb : PE X b (tD g W m2)) : PE X (.Compare a [.Eq] [b] pos) (tD g W (eBin dEq m1 m2)) := de_cmp (op_eqD hu) (sim_eq hK) ha hb (nomark _)
theorem dt_lt (ha : PE X a (tD g W m1)) (hb : PE X b (tD g W m2)) : PT X (.Compare a [.Lt] [b] pos) (tB2 g W (bVal (eBin dLt m1 m2))) := dt_cmp op_lt sim_cmpI ha hb (nomark _)
theorem dt_gt (ha : PE X a (tD g W m1)) (hb : PE X b (tD g W m2)) : PT X (.Compare a [.Gt] [b] pos) (tB2 g W (bVal (eBin dGt m1 m2))) := dt_cmp op_gt sim_cmpI ha hb (nomark _)
theorem dt_ge (ha : PE X a (tD g W m1)) (hb : PE X b (tD g W m2)) : PT X (.Compare a [.GtE] [b] pos) (tB2 g W (bVal (eBin dGe m1 m2))) := dt_cmp op_ge sim_cmpI ha hb (nomark _)
theorem dt_is (ha : PE X a (tD g W m1)) (hb : PE X b (tD g W m2)) : PT X (.Compare a [.Is] [b] pos) (tB2 g W (bVal (eBin dIs m1 m2))) := dt_cmp op_isA sim_is ha hb (nomark _)
theorem dt_isnot (ha : PE X a (tD g W m1)) (hb : PE X b (tD g W m2)) : PT X (.Compare a [.IsNot] [b] pos) (tB2 g W (bVal (eBin dIsNot m1 m2))) := dt_cmp op_isNotA sim_isNot ha hb (nomark _)
theorem dt_eq (hK : g.K = X.K) (hu : X.A.units + 64 < cLine) (ha : PE X a (tD g W m1)) (hb : PE X b (tD g W m2)) : PT X (.Compare a [.Eq] [b] pos) (tB2 g W (bVal (eBin dEq m1 m2))) := dt_cmp (op_eqD hu) (sim_eq hK) ha hb (nomark _)
theorem dt_ne (hK : g.K = X.K) (hu : X.A.units + 64 < cLine) (ha : PE X a (tD g W m1)) (hb : PE X b (tD g W m2)) : PT X (.Compare a [.NotEq] [b] pos) (tB2 g W (bVal (eBin dNe m1 m2))) := dt_cmp (op_neD hu) (sim_ne hK) ha hb (nomark _)
/-- calls of built-ins -/
theorem de_callB {id : String} {x : Str} {r : List V → Hp → VK → Prop} {f : List D → MH → Res D} (hc : CallR X (.builtin id) r) (hs : SimA g f r) (hm : X.mg x = none) (hv : bootBuiltins x = some (.builtin id)) (ha : PA X (a :: es) (tA g W ma)) (hg : Gl X x := by rfl) (hn : x ≠ "__name__" := by decide)
    (hdb : (x == ("__debug__" : Str)) = false := by decide) (he : starEach (a :: es) X.env = (false, eval a X.env) :: starEach es X.env := by rfl) (hpl : (backTo pos (starEach es X.env)).any (·.1) = false := by rfl) : PE X (.Call (.Name x p) (a :: es) [] pos) (tD g W (eArgs f ma)) :=
  pe_imp (pe_callB hc hg hm hv ha hn hdb he hpl) fun σ H Q q => args_imp hs q
theorem de_callT {T : String} {x : Str} {r : List V → Hp → VK → Prop} {f : List D → MH → Res D} (hc : CallR X (.type T) r) (hs : SimA g f r) (hm : X.mg x = none) (hv : bootBuiltins x = some (.type T)) (ha : PA X (a :: es) (tA g W ma)) (hg : Gl X x := by rfl) (hn : x ≠ "__name__" := by decide)
    (hdb : (x == ("__debug__" : Str)) = false := by decide) (he : starEach (a :: es) X.env = (false, eval a X.env) :: starEach es X.env := by rfl) (hpl : (backTo pos (starEach es X.env)).any (·.1) = false := by rfl) : PE X (.Call (.Name x p) (a :: es) [] pos) (tD g W (eArgs f ma)) :=
  pe_imp (pe_callTy hc hg hm hv ha hn hdb he hpl) fun σ H Q q => args_imp hs q
end
end T2
namespace T2
open PySem L2
section
variable {X : Cx} {g : Wd} {W : WY} {a b c : Expr} {pos p : Pos} {m1 m2 m3 : EM} {ma : AM} {es : List Expr}
/-! ### built-ins -/
def rLenA (K : PySem.W.Frag) : List V → Hp → VK → Prop := fun xs H Q => (∃ p ys, xs = [.ref p] ∧ (SqL K H p ys ∨ SqT K H p ys) ∧ Q (.int ys.length) H) ∨ ∃ z, xs = [.str z] ∧ z.length ≤ sizeLine ∧ Q (.int z.length) H
theorem call_lenA : CallR X (.builtin "len") (rLenA X.K) := call_len_seq.or call_len_str
theorem one_rep {F : List Addr} {H : Hp} {d : D} {vs : List V} (r : Reps g F H [d] vs) : ∃ v, vs = [v] ∧ Rep g F H d v := by
  cases r with | cons h t => cases t; exact ⟨_, rfl, h⟩
theorem two_rep {F : List Addr} {H : Hp} {d e : D} {vs : List V} (r : Reps g F H [d, e] vs) : ∃ v w, vs = [v, w] ∧ Rep g F H d v ∧ Rep g F H e w := by
  cases r with | cons h t => cases t with | cons h2 t => cases t; exact ⟨_, _, rfl, h, h2⟩
theorem sim_len (hK : g.K = X.K) : SimA g dLen (rLenA X.K) := fun F M σ H W ds vs Q R r q => by
  unfold dLen at q
  split at q
  · obtain ⟨v, rfl, rv⟩ := one_rep r
    cases rv
    split at q
    · rename_i hl; exact .inr ⟨_, rfl, bigLine hl, q.here R (.int _)⟩
    · exact q.elim
  · obtain ⟨v, rfl, rv⟩ := one_rep r
    split at q
    · rename_i ys hy
      obtain ⟨a, us, rfl, hs, r⟩ := items_at R rv hy
      rw [hK] at hs
      exact .inl ⟨a, us, rfl, hs, by rw [← r.length]; exact q.here R (.int _)⟩
    · exact q.elim
  · exact q.elim
def rListA (K : PySem.W.Frag) : List V → Hp → VK → Prop := fun xs H Q => ∃ p ys, xs = [.ref p] ∧ (SqL K H p ys ∨ SqT K H p ys) ∧ ∀ l, H l = none → Q (.ref l) (upd H l (.lst ys))
theorem sim_listF (hK : g.K = X.K) : SimA g dListF (rListA X.K) := fun F M σ H W ds vs Q R r q => by
  unfold dListF at q
  split at q
  · obtain ⟨v, rfl, rv⟩ := one_rep r
    split at q
    · rename_i ys hy
      obtain ⟨a, us, rfl, hs, r⟩ := items_at R rv hy
      rw [hK] at hs
      exact ⟨a, us, rfl, hs, fun l hl => mkF_post R r q hl⟩
    · exact q.elim
  · exact q.elim
theorem sim_int1 : SimA g dInt (fun xs H Q => (∃ i, xs = [.int i] ∧ Q (.int i) H) ∨ ∃ k, xs = [.bl k] ∧ Q (.int (if k then 1 else 0)) H) := fun F M σ H W ds vs Q R r q => by
  unfold dInt at q
  split at q
  · obtain ⟨v, rfl, rv⟩ := one_rep r; cases rv; exact .inl ⟨_, rfl, q.here R (.int _)⟩
  · obtain ⟨v, rfl, rv⟩ := one_rep r; cases rv; exact .inr ⟨_, rfl, q.here R (.int _)⟩
  · exact q.elim
theorem sim_abs : SimA g dAbs (fun xs H Q => ∃ i, xs = [.int i] ∧ Q (.int (if i < 0 then -i else i)) H) := fun F M σ H W ds vs Q R r q => by
  unfold dAbs at q
  split at q
  · obtain ⟨v, rfl, rv⟩ := one_rep r; cases rv; exact ⟨_, rfl, q.here R (.int _)⟩
  · exact q.elim
section
variable (hK : g.K = X.K) (ha : PA X (a :: es) (tA g W ma)) (he : starEach (a :: es) X.env = (false, eval a X.env) :: starEach es X.env := by rfl) (hpl : (backTo pos (starEach es X.env)).any (·.1) = false := by rfl)
include ha he hpl
theorem de_len (hK : g.K = X.K) (hm : X.mg "len" = none) (hg : Gl X "len" := by rfl) : PE X (.Call (.Name "len" p) (a :: es) [] pos) (tD g W (eArgs dLen ma)) := de_callB call_lenA (sim_len hK) hm PySem.boot_len ha hg (by decide) (by decide) he hpl
theorem de_abs (hm : X.mg "abs" = none) (hg : Gl X "abs" := by rfl) : PE X (.Call (.Name "abs" p) (a :: es) [] pos) (tD g W (eArgs dAbs ma)) := de_callB call_abs sim_abs hm (by decide +kernel) ha hg (by decide) (by decide) he hpl
theorem de_intc (hm : X.mg "int" = none) (hg : Gl X "int" := by rfl) : PE X (.Call (.Name "int" p) (a :: es) [] pos) (tD g W (eArgs dInt ma)) := de_callT call_int1 sim_int1 hm (by decide +kernel) ha hg (by decide) (by decide) he hpl
theorem de_listF (hK : g.K = X.K) (hm : X.mg "list" = none) (hg : Gl X "list" := by rfl) : PE X (.Call (.Name "list" p) (a :: es) [] pos) (tD g W (eArgs dListF ma)) := de_callT call_list_of (sim_listF hK) hm (by decide +kernel) ha hg (by decide) (by decide) he hpl
end

/-! ### stores into lists -/
def dSetIx (o i v : D) (M : MH) : Option MH := match o, i with
  | .ref n, .int k => match M[n]? with
    | some (.lst ds) => match ixN ds.length k with
      | some j => some (M.set n (.lst (ds.set j v)))
      | none => none
    | _ => none
  | _, _ => none
/-- o[i] = v: v first, then o, then i -/
def sSetIx (f : D → D → D → MH → Option MH) (mo mi mv : EM) : SM := fun e M => (mv e M).toS e fun v M1 => (mo e M1).toS e fun o M2 => (mi e M2).toS e fun i M3 => match f o i v M3 with
  | some M4 => .nx e M4
  | none => .bad
def Sim3 (g : Wd) (f : D → D → D → MH → Option MH) (r : TSet) : Prop := ∀ (F : List Addr) (M M' : MH) (H : Hp) (o i x : D) (vo vi vx : V) (Q : Hp → Prop), RelM g F M H → Rep g F H o vo → Rep g F H i vi → Rep g F H x vx → f o i x M = some M' → (∀ H', Grow F H F H' → RelM g F M' H' → Q H') → r vo vi vx H Q
theorem sim_setL : Sim3 g dSetIx rSetL := fun F M M' H o i x vo vi vx Q R ro ri rx h k => by
  unfold dSetIx at h
  split at h
  · cases ro with | ref hn =>
    cases ri
    split at h
    · rename_i ds hd
      obtain ⟨vs, hv, r⟩ := lst_at R hn hd
      split at h
      · rename_i j hj
        cases h
        rw [r.length] at hj
        refine ⟨_, vs, _, j, rfl, rfl, hv, hj, ?_⟩
        obtain ⟨g1, R1⟩ := R.put (o := .lst (vs.set j vx)) (m := .lst (ds.set j x)) hn trivial fun H' gr => .lst ((r.mono gr R.good).set (rx.mono gr R.good) j)
        exact k _ g1 R1
      · cases h
    · cases h
  · cases h
theorem ds_setIx {f : D → D → D → MH → Option MH} {r : TSet} {o i : Expr} {pos' : Pos} (hp : PSet X r) (hs3 : Sim3 g f r) (ho : PE X o (tD g W m1)) (hi : PE X i (tD g W m2)) (hv : PE X a (tD g W m3))
    (hass : ∀ v, assign (.Subscript o i pos') X.env v = (do
      let ov ← holding [v] (eval o X.env)
      let iv ← holding [v, ov] (eval i X.env)
      standAt pos'
      holding [v, ov, iv] (setItem ov iv v)
      release [v, ov, iv] []) := by intro _; rfl)
    (hs : swapsWithSole [.Subscript o i pos'] a pos.line X.env = pure false := by rfl) (hw : swappedStores [.Subscript o i pos'] a X.env = pure none := by rfl) (h1 : (assignEach [.Subscript o i pos'] X.env).map (·.2) = [assign (.Subscript o i pos') X.env] := by rfl) :
    PS X (.Assign [.Subscript o i pos'] a pos) (tS g W (sSetIx f m1 m2 m3)) :=
  ps_imp (ps_asg hv (pg_sub ho hi hp hass) hs hw h1) fun E σ H ⟨F, e, M, RS, q⟩ => by
    refine ⟨F, e, M, RS, q.step RS fun x M1 F1 H1 vx _ g1 R1 rx q1 => ?_⟩
    refine ⟨F1, e, M1, RS.up g1 R1, q1.step (RS.up g1 R1) fun y M2 F2 H2 vo _ g2 R2 ro q2 => ?_⟩
    have RS2 := (RS.up g1 R1).up g2 R2
    refine ⟨F2, e, M2, RS2, q2.step RS2 fun z M3 F3 H3 vi _ g3 R3 ri q3 => ?_⟩
    have RS3 := RS2.up g3 R3
    split at q3
    · rename_i M4 h4
      refine hs3 F3 M3 M4 H3 y z x vo vi vx _ R3 (ro.mono g3 R2.good) ri ((rx.mono g2 R1.good).mono g3 R2.good) h4 fun H4 g4 R4 => ?_
      exact q3 F3 H4 σ g4 R4 (RS3.up g4 R4).e RS3.x
    · exact q3.elim
theorem ds_setL {o i : Expr} {pos' : Pos} (ho : PE X o (tD g W m1)) (hi : PE X i (tD g W m2)) (hv : PE X a (tD g W m3))
    (hass : ∀ v, assign (.Subscript o i pos') X.env v = (do
      let ov ← holding [v] (eval o X.env)
      let iv ← holding [v, ov] (eval i X.env)
      standAt pos'
      holding [v, ov, iv] (setItem ov iv v)
      release [v, ov, iv] []) := by intro _; rfl)
    (hs : swapsWithSole [.Subscript o i pos'] a pos.line X.env = pure false := by rfl) (hw : swappedStores [.Subscript o i pos'] a X.env = pure none := by rfl) (h1 : (assignEach [.Subscript o i pos'] X.env).map (·.2) = [assign (.Subscript o i pos') X.env] := by rfl) :
    PS X (.Assign [.Subscript o i pos'] a pos) (tS g W (sSetIx dSetIx m1 m2 m3)) := ds_setIx set_list sim_setL ho hi hv hass hs hw h1
end
end T2
namespace T2
open PySem L2
theorem fn_ok2 {P : Program} {w : World} {K : PySem.W.Frag} {mg : Str → Option Value} {base : Heap} {g : Wd} {x qual : Str} {st : Stmt} {f : Addr} {fd : FuncData} {N ps : List Str} {k : Nat} {b : SM} (F : Fun K x qual st f fd) (S : FnScope N ps (defScope st))
    (hbody : ∀ (cdv : Value) (A : Around) (outer : List Env) (s : Shared) (H : Hp) (E : XK), Room k (A.deeper (PyProof.Rows.envOfC qual (defScope st) s.heap.objs.size f cdv)) →
      L2N.Takes (cxOf (L2N.CX P w) P w K mg base N qual (defScope st) f cdv A outer s H E) (WY.mk (fun c d _ H => E c d H) ⟨[], []⟩).w →
      PassesOwn (model P w) (cxOf (L2N.CX P w) P w K mg base N qual (defScope st) f cdv A outer s H E).A (cxOf (L2N.CX P w) P w K mg base N qual (defScope st) f cdv A outer s H E).env (cxOf (L2N.CX P w) P w K mg base N qual (defScope st) f cdv A outer s H E).xe →
      PSs (cxOf (L2N.CX P w) P w K mg base N qual (defScope st) f cdv A outer s H E) (defBody st) (tS g ⟨fun c d _ H => E c d H, ⟨[], []⟩⟩ b)) : FnOk P w K mg base (L2N.CX P w) (k + 1) f fd ps (spD g ps.length (fnB N.length b)) :=
  fn_ok F S fun cdv A outer s H E hr => hbody cdv A outer s H E hr (L2N.takes_of rfl rfl rfl rfl) (passes_of (X := cxOf (L2N.CX P w) P w K mg base N qual (defScope st) f cdv A outer s H E) rfl)
end T2
namespace T2
open PySem L2

/-! ### instances: fields -/
def fieldOf (f : Str) (ns : List Str) (ds : List D) : Option D := (ns.zip ds).lookup f
/-- the class and the fields of an instance -/
def instOf (M : MH) : D → Option (Nat × List Str × List D)
  | .ins c ns ds => some (c, ns, ds)
  | .ref n => match M[n]? with
    | some (.ob c ns ds) => some (c, ns, ds)
    | _ => none
  | _ => none
def dFld (cs : List Nat) (f : Str) (x : D) (M : MH) : Res D := match instOf M x with
  | some (c, ns, ds) => if cs.contains c = true then (match fieldOf f ns ds with
    | some d => .ok d M
    | none => .bad) else .bad
  | none => .bad
def putN (f : Str) (d : D) : List Str → List D → List Str × List D
  | n :: ns, x :: ds => if n = f then (n :: ns, d :: ds) else ((n :: (putN f d ns ds).1), (x :: (putN f d ns ds).2))
  | _, _ => ([f], [d])
section
variable {g : Wd} {F : List Addr} {H : Hp} {M : MH}
theorem field_rep {f : Str} : ∀ {ns : List Str} {ds : List D} {vs : List V} {d : D}, Reps g F H ds vs → fieldOf f ns ds = some d → ∃ v, (ns.zip vs).lookup f = some v ∧ Rep g F H d v
  | [], _, _, _, _, h => by simp [fieldOf] at h
  | _ :: _, _, _, _, .nil, h => by simp [fieldOf] at h
  | n :: ns, _, _, d, .cons r t, h => by
    unfold fieldOf at h
    rw [List.zip_cons_cons, List.lookup_cons] at h ⊢
    cases hn : (f == n) with
    | true => rw [hn] at h; cases h; exact ⟨_, rfl, r⟩
    | false => rw [hn] at h; exact field_rep t h
theorem inst_at {x : D} {v : V} {c : Nat} {ns : List Str} {ds : List D} (R : RelM g F M H) (r : Rep g F H x v) (h : instOf M x = some (c, ns, ds)) : ∃ a dx vs, v = .ref a ∧ H a = some (.ins (g.ca c) dx (ns.zip vs)) ∧ ns.length = vs.length ∧ Reps g F H ds vs := by
  cases r with
  | ins h1 h2 h3 r1 => cases h; exact ⟨_, _, _, rfl, h1, h3, r1⟩
  | ref h1 =>
    dsimp only [instOf] at h
    split at h
    · rename_i c' ns' ds' hd
      cases h
      obtain ⟨o, e, r1⟩ := R.obj _ _ _ h1 hd
      cases r1 with | ob hl r1 => exact ⟨_, _, _, rfl, e, hl, r1⟩
    · cases h
  | _ => cases h
end
structure ClsF (K : PySem.W.Frag) (ca : Nat → Addr) (cs : List Nat) (f : Str) : Prop where
  cl : ∀ c, cs.contains c = true → Cls K (ca c)
  na : ∀ c, cs.contains c = true → NoAttr K (ca c) f
section
variable {X : Cx} {g : Wd} {W : WY} {a b c : Expr} {pos p apos : Pos} {m1 m2 m3 : EM} {ma : AM} {es : List Expr} {o : Expr}
theorem de_fld {cs : List Nat} {f : Str} (hC : ClsF X.K g.ca cs f) (ha : PE X a (tD g W m1)) (hb : attributeBase a f X.env (eval a X.env) = eval a X.env := by rfl) : PE X (.Attribute a f pos) (tD g W (eUn (dFld cs f) m1)) :=
  pe_imp (pe_fld ha hb) fun σ H Q ⟨F, e, M, RS, q⟩ => ⟨F, e, M, RS, q.bind fun x M1 F1 H1 v e1 g1 R1 rx q1 => by
    unfold dFld at q1
    split at q1
    · rename_i c ns ds hi
      obtain ⟨ad, dx, vs, rfl, ha, hl, r⟩ := inst_at R1 rx hi
      split at q1
      · rename_i hc
        split at q1
        · rename_i d hd
          obtain ⟨u, hu, ru⟩ := field_rep r hd
          exact ⟨ad, _, dx, _, u, rfl, ha, hC.cl c hc, hC.na c hc, hu, q1.here R1 ru⟩
        · exact q1.elim
      · exact q1.elim
    · exact q1.elim⟩

/-! ### o.f = e -/
def dPutF (cs : List Nat) (f : Str) (x d : D) (M : MH) : Option MH := match x with
  | .ref n => match M[n]? with
    | some (.ob c ns ds) => if cs.contains c = true ∧ ns.length < 100 ∧ ns.length = ds.length then some (M.set n (.ob c (putN f d ns ds).1 (putN f d ns ds).2)) else none
    | _ => none
  | _ => none
def sPutF (cs : List Nat) (f : Str) (mo mv : EM) : SM := fun e M => (mv e M).toS e fun v M1 => (mo e M1).toS e fun o M2 => match dPutF cs f o v M2 with
  | some M3 => .nx e M3
  | none => .bad
theorem putN_rep {g : Wd} {F : List Addr} {H : Hp} {f : Str} {d : D} {v : V} (r : Rep g F H d v) : ∀ {ns : List Str} {ds : List D} {vs : List V}, ns.length = vs.length → Reps g F H ds vs →
    ∃ us, putF f v (ns.zip vs) = (putN f d ns ds).1.zip us ∧ (putN f d ns ds).1.length = us.length ∧ Reps g F H (putN f d ns ds).2 us
  | [], _, [], _, .nil => ⟨[v], rfl, rfl, .cons r .nil⟩
  | [], _, _ :: _, hl, _ => by simp at hl
  | _ :: _, _, [], hl, _ => by simp at hl
  | n :: ns, _, v0 :: vs, hl, .cons (d := d0) (ds := ds) r0 t => by
    simp only [List.length_cons, Nat.add_right_cancel_iff] at hl
    rw [List.zip_cons_cons]
    by_cases hn : n = f
    · refine ⟨v :: vs, ?_, ?_, ?_⟩
      · simp [putN, putF, hn]
      · simp [putN, hn, hl]
      · simp [putN, hn]; exact .cons r t
    · obtain ⟨us, h1, h2, h3⟩ := putN_rep (f := f) r hl t
      refine ⟨v0 :: us, ?_, ?_, ?_⟩
      · simp [putN, putF, hn, h1]
      · simp [putN, hn, h2]
      · simp [putN, hn]; exact .cons r0 h3
theorem ds_putF {cs : List Nat} {f : Str} (hC : ClsF X.K g.ca cs f) (ho : PE X o (tD g W m1)) (hv : PE X a (tD g W m2)) (hs : swapsWith a (some (.Attribute o f apos)) pos.line X.env = pure false := by rfl) :
    PS X (.Assign [.Attribute o f apos] a pos) (tS g W (sPutF cs f m1 m2)) :=
  ps_imp (ps_fld ho hv hs) fun E σ H ⟨F, e, M, RS, q⟩ => by
    refine ⟨F, e, M, RS, q.step RS fun x M1 F1 H1 vx _ g1 R1 rx q1 => ?_⟩
    refine ⟨F1, e, M1, RS.up g1 R1, q1.step (RS.up g1 R1) fun y M2 F2 H2 vo _ g2 R2 ro q2 => ?_⟩
    have RS2 := (RS.up g1 R1).up g2 R2
    split at q2
    · rename_i M4 h4
      unfold dPutF at h4
      split at h4
      · cases ro with | ref hn =>
        split at h4
        · rename_i c ns ds hd
          split at h4
          · rename_i hc
            cases h4
            obtain ⟨oo, e1, r1⟩ := R2.obj _ _ _ hn hd
            cases r1 with | ob hl r1 =>
            rename_i dx vs
            refine ⟨_, _, dx, _, rfl, e1, hC.cl c hc.1, hC.na c hc.1, ?_, ?_⟩
            · rw [List.length_zip, ← hl, Nat.min_self]; omega
            · obtain ⟨us, u1, u2, u3⟩ := putN_rep (f := f) (rx.mono g2 R1.good) hl r1
              obtain ⟨g3, R3⟩ := R2.put (o := .ins (g.ca c) dx (putF f vx (ns.zip vs))) (m := .ob c (putN f x ns ds).1 (putN f x ns ds).2) hn trivial fun H' gr => by
                rw [u1]; exact .ob u2 (u3.mono gr R2.good)
              exact q2 F2 _ σ g3 R3 (RS2.up g3 R3).e RS2.x
          · cases h4
        · cases h4
      · cases h4
    · exact q2.elim
end

/-! ### calls of methods, of classes; what is raised is wished for at the caller's slots -/
def tMakeS (C : Addr) (sp : Sp) (E : L2.St → XK) (t : TA) : TE := fun σ H Q => t σ H fun vs H1 => ∀ x dx, H1 x = none → H1 dx = none → dx ≠ x →
  sp (.ref x :: vs) (upd (upd H1 dx (.own x)) x (.ins C dx [])) (fun v H2 => v = .non ∧ Q (.ref x) H2) (E σ)
section
variable {X : Cx} {CX : CXT} {k : Nat} {f C : Addr} {fd : FuncData} {ps : List Str} {sp : Sp} {E : L2.St → XK} {x m : Str} {p pos apos : Pos} {e o : Expr} {es : List Expr} {ta : TE} {t : TA}
theorem pe_call0S (G : FnOk X.prog X.w X.K X.mg X.base CX k f fd ps sp) (hr : Room k X.A) (hm : X.mg x = some (.ref f)) (hk : PySem.W.keepIn X.K (.ref f) = true) (hb : Binds X.K fd ps []) (hx : ∀ σ, PassesAt CX X σ (E σ)) (hg : Gl X x)
    (hdb : (x == ("__debug__" : Str)) = false) : PE X (.Call (.Name x p) [] [] pos) (fun σ H Q => sp [] H Q (E σ)) :=
  ⟨fun pins s σ H Q I h => wpAny_Call_Name_kw (ld_glob I hg hm (PySem.W.callWith_K0 I.kIn hk (run_fnSD (dvs := []) (ds := []) (vs := []) (us := []) G hr hb .nil (hx σ) I .nil h)) hdb)⟩
theorem run_makeS {pins : List (Addr × Obj)} {σ : L2.St} {H : Hp} {s : Shared} {Q : VK} {us : List Value} {vs : List V} (Mc : Mk X.K C f) (G : FnOk X.prog X.w X.K X.mg X.base CX k f fd ps sp) (hr : Room (k + 1) X.A) (hb : Binds X.K fd ps [])
    (hx : PassesAt CX X σ (E σ)) (I : Inv X pins σ H s) (r : Vals vs us)
    (h : ∀ x dx, H x = none → H dx = none → dx ≠ x → sp (.ref x :: vs) (upd (upd H dx (.own x)) x (.ins C dx [])) (fun v H2 => v = .non ∧ Q (.ref x) H2) (E σ)) :
    wpAny (model X.prog X.w) X.A (call (.ref C) us) (EP X pins σ Q) X.xe s := by
  have hq := h (s.heap.objs.size + 1) s.heap.objs.size (I.hok.fresh (Nat.le_succ _)) (I.hok.fresh (Nat.le_refl _)) (Nat.ne_of_lt (Nat.lt_succ_self _))
  have I2 := Inv.made (C := C) I
  have r2 : Vals (V.ref (s.heap.objs.size + 1) :: vs) (Value.ref (s.heap.objs.size + 1) :: us) := .cons rfl r
  have hl : (Value.ref (s.heap.objs.size + 1) :: us).length = ps.length := by rw [← r2.length]; exact G.len _ _ _ _ hq
  have hbd := hb _ (Value.ref (s.heap.objs.size + 1) :: us) I2.kIn (by simpa using hl)
  rw [List.append_nil] at hbd
  refine wpAny_call (make_map (f := f) I.kIn Mc.makes Mc.init (beq_iff_eq.mp Mc.fn) (codeAny_mono (G.run _ X.stack _ _ ⟨Value.ref (s.heap.objs.size + 1) :: us, []⟩ _ _ _ (E σ) (hr.make C us []) (I2.env0.make C us []) hbd r2 hq) ?_))
  intro r s' hq'
  cases r with
  | error e => exact hx pins _ _ e s' I2 hq'
  | ok fl =>
    cases fl with
    | ret u => obtain ⟨v, H', I3, rv, ev, q3⟩ := I2.after hq'; subst ev; exact ⟨rv, V.ref (s.heap.objs.size + 1), H', I3, rfl, q3⟩
    | next => exact hq'.elim
    | brk => exact hq'.elim
    | cont => exact hq'.elim
theorem pe_makeS (Mc : Mk X.K C f) (G : FnOk X.prog X.w X.K X.mg X.base CX k f fd ps sp) (hr : Room (k + 1) X.A) (hm : X.mg x = some (.ref C)) (hb : Binds X.K fd ps []) (hx : ∀ σ, PassesAt CX X σ (E σ)) (ha : PA X (e :: es) t) (hg : Gl X x) (hdb : (x == ("__debug__" : Str)) = false)
    (he : starEach (e :: es) X.env = (false, eval e X.env) :: starEach es X.env) (hpl : (backTo pos (starEach es X.env)).any (·.1) = false) : PE X (.Call (.Name x p) (e :: es) [] pos) (tMakeS C sp E t) := by
  refine ⟨fun pins s σ H Q I h => wpAny_Call_Name_kw (ld_glob I hg hm (PySem.W.callWith_K (h₀ := X.base) I.ok.mod.kin Mc.kp (thn (ha.run pos pins s σ H _ I h) ?_) he hpl) hdb)⟩
  rintro us s1 ⟨vs, H1, I1, r, q⟩
  exact ⟨I1.kIn, run_makeS Mc G hr hb (hx σ) I1 r q⟩
end

/-! ### .. over trees -/
/-- C(..), an instance that may change -/
def eMake (c n : Nat) (f : List D → MH → Res D) (ma : AM) : EM := fun e M => (ma e M).bind fun ds M1 => if ds.length + 1 = n then (f (.ref M1.length :: ds) (M1 ++ [.ob c [] []])).bind fun r M2 => match r with
  | .non => .ok (.ref M1.length) M2
  | _ => .bad else .bad
/-- an __init__ that stores its arguments in its fields and does nothing else -/
def initC (c : Nat) (fs : List Str) : List D → MH → Res D := fun ds M => match ds with
  | .ref n :: xs => match M[n]? with
    | some (.ob c' [] []) => if xs.length = fs.length ∧ c' = c then .ok .non (M.set n (.ob c fs xs)) else .bad
    | _ => .bad
  | _ => .bad
/-- C(..), an instance that never changes -/
def eMakeF (c : Nat) (fs : List Str) (ma : AM) : EM := eArgs (fun ds M => if ds.length = fs.length then .ok (.ins c fs ds) M else .bad) ma
section
variable {X : Cx} {g : Wd} {W : WY} {a b o : Expr} {pos p apos : Pos} {m1 m2 : EM} {ma : AM} {es : List Expr} {k n : Nat} {f C : Addr} {fd : FuncData} {ps : List Str} {m : List D → MH → Res D} {x mn : Str} {c : Nat}
theorem de_call0 (G : FnOk X.prog X.w X.K X.mg X.base (L2N.CX X.prog X.w) k f fd ps (spD g 0 m)) (hr : Room k X.A) (tk : L2N.Takes X W.w) (hm : X.mg x = some (.ref f)) (hk : PySem.W.keepIn X.K (.ref f) = true) (hb : Binds X.K fd ps []) (hg : Gl X x := by rfl)
    (hdb : (x == ("__debug__" : Str)) = false := by decide) : PE X (.Call (.Name x p) [] [] pos) (tD g W (eCall 0 m eNil)) :=
  pe_imp (pe_call0S G hr hm hk hb (fun σ => L2N.passAt tk σ) hg hdb) fun σ H Q ⟨F, e, M, RS, q⟩ => ⟨rfl, F, M, [], RS.m, .nil, post_call q⟩
theorem makeF_imp {fs : List Str} {σ : L2.St} {H : Hp} {Q : VK} {t : TA} (ht : ∀ σ H Q, tA g W ma σ H Q → t σ H Q) (q : tD g W (eMakeF c fs ma) σ H Q) : tMakeS (g.ca c) (spD g (fs.length + 1) (initC c fs)) (WE W.w) t σ H Q := by
  obtain ⟨F, e, M, RS, q⟩ := q
  refine ht _ _ _ ⟨F, e, M, RS, q.bind fun ds M1 F1 H1 vs e1 g1 R1 rs q1 x dx hx hdx hne => ?_⟩
  split at q1
  · rename_i hl
    obtain ⟨g2, R2⟩ := R1.still (o := .own x) hdx
    have hx2 : upd H1 dx (.own x) x = none := by rw [upd_ne (Ne.symm hne)]; exact hx
    obtain ⟨g3, R3⟩ := R2.laid (m := .ob c [] []) (o := .ins (g.ca c) dx []) hx2 fun F' H' gr => .ob (vs := []) rfl .nil
    have gr := g2.trans g3
    refine ⟨by simp [← rs.length, hl], F1 ++ [x], M1 ++ [.ob c [] []], .ref M1.length :: ds, R3, .cons (.ref (by rw [← R1.len]; simp)) (rs.mono gr R1.good), ?_⟩
    have hM : (M1 ++ [MO.ob c [] []])[M1.length]? = some (.ob c [] []) := by simp
    have hs : (M1 ++ [MO.ob c [] []]).set M1.length (.ob c fs ds) = M1 ++ [.ob c fs ds] := by simp
    unfold initC
    dsimp only
    rw [hM]
    dsimp only
    rw [if_pos ⟨hl, rfl⟩, hs]
    intro F4 H4 v g4 R4 rv
    cases rv
    refine ⟨rfl, ?_⟩
    have low := rs.low
    have hpx : F4[M1.length]? = some x := pre_get g4.pre (by rw [← R1.len]; simp)
    obtain ⟨h, eh, rh⟩ := R4.obj _ _ _ hpx (by simp : (M1 ++ [MO.ob c fs ds])[M1.length]? = some (.ob c fs ds))
    cases rh with | ob hlen rr =>
    have RC := R4.cut R1.low
    have GC := (gr.trans g4).cut (k := M1.length) (by rw [R1.len]; exact Nat.le_refl _)
    refine q1.ok GC RC (.ins eh (fun z => ?_) hlen (rr.cut (by rw [← R1.len]; exact low)))
    obtain ⟨j, hj⟩ := List.getElem?_of_mem z
    have hjl : j < M1.length := by
      have := (List.getElem?_eq_some_iff.mp hj).1
      rw [List.length_take] at this; omega
    rw [List.getElem?_take_of_lt hjl] at hj
    have := (List.getElem?_inj (List.getElem?_eq_some_iff.mp hj).1 R4.nd).mp (hj.trans hpx.symm)
    omega
  · exact q1.elim
theorem de_makeF {fs : List Str} (Mc : Mk X.K (g.ca c) f) (G : FnOk X.prog X.w X.K X.mg X.base (L2N.CX X.prog X.w) k f fd ps (spD g (fs.length + 1) (initC c fs))) (hr : Room (k + 1) X.A) (tk : L2N.Takes X W.w) (hm : X.mg x = some (.ref (g.ca c))) (hb : Binds X.K fd ps []) (ha : PA X (a :: es) (tA g W ma)) (hg : Gl X x := by rfl)
    (hdb : (x == ("__debug__" : Str)) = false := by decide) (he : starEach (a :: es) X.env = (false, eval a X.env) :: starEach es X.env := by rfl) (hpl : (backTo pos (starEach es X.env)).any (·.1) = false := by rfl) :
    PE X (.Call (.Name x p) (a :: es) [] pos) (tD g W (eMakeF c fs ma)) := pe_imp (pe_makeS Mc G hr hm hb (fun σ => L2N.passAt tk σ) ha hg hdb he hpl) fun σ H Q q => makeF_imp (fun _ _ _ h => h) q
end
end T2
namespace T2
open PySem L2

/-! ### flat values, membership -/
def vOf : D → V
  | .bl b => .bl b
  | .int i => .int i
  | .str x => .str x
  | _ => .non
def flatD : D → Bool
  | .non => true
  | .bl _ => true
  | .int _ => true
  | .str _ => true
  | _ => false
theorem flat_rep {g : Wd} {F : List Addr} {H : Hp} {d : D} {v : V} (r : Rep g F H d v) (h : flatD d = true) : v = vOf d ∧ flatV v = true := by cases r <;> first | exact ⟨rfl, rfl⟩ | cases h
theorem flats_rep {g : Wd} {F : List Addr} {H : Hp} : ∀ {ds : List D} {vs : List V}, Reps g F H ds vs → ds.all flatD = true → vs = ds.map vOf ∧ vs.all flatV = true
  | _, _, .nil, _ => ⟨rfl, rfl⟩
  | _, _, .cons r t, h => by
    rw [List.all_cons, Bool.and_eq_true] at h
    obtain ⟨h1, h2⟩ := flat_rep r h.1
    obtain ⟨h3, h4⟩ := flats_rep t h.2
    exact ⟨by rw [h1, h3]; rfl, by rw [List.all_cons, h2, h4]; rfl⟩
def memD (x : D) (ys : List D) : Bool := inV (vOf x) (ys.map vOf)
/-- x in y: flat items; a sign in a text -/
def inRes (x y : D) (M : MH) : Option Bool := match y with
  | .str z => match x with
    | .str w => match w.cps.toList with
      | [c] => some (decide (c ∈ z.cps.toList))
      | _ => none
    | _ => none
  | y => match items M y with
    | some ds => if flatD x = true ∧ ds.all flatD = true then some (memD x ds) else none
    | none => none
def dIn (x y : D) (M : MH) : Res D := match inRes x y M with
  | some b => .ok (.bl b) M
  | none => .bad
def dNotIn (x y : D) (M : MH) : Res D := match inRes x y M with
  | some b => .ok (.bl (!b)) M
  | none => .bad
def rInA (K : PySem.W.Frag) : R2 := fun x y H Q => rIn K false x y H Q ∨ ∃ (c : Nat) (z : Str), x = .str ⟨#[c]⟩ ∧ y = .str z ∧ Q (.bl (decide (c ∈ z.cps.toList))) H
def rNotInA (K : PySem.W.Frag) : R2 := fun x y H Q => rIn K true x y H Q ∨ ∃ (c : Nat) (z : Str), x = .str ⟨#[c]⟩ ∧ y = .str z ∧ Q (.bl (!decide (c ∈ z.cps.toList))) H
theorem op_inA {X : Cx} : OpR X (compareOp .In) (rInA X.K) := op_in_seq.or op_in_sign
theorem op_notInA {X : Cx} : OpR X (compareOp .NotIn) (rNotInA X.K) := op_notIn_seq.or op_notIn_sign
theorem in_at {g : Wd} {F : List Addr} {M : MH} {H : Hp} {x y : D} {v w : V} {b : Bool} (R : RelM g F M H) (rx : Rep g F H x v) (ry : Rep g F H y w) (h : inRes x y M = some b) :
    (∃ p vs, w = .ref p ∧ (SqL g.K H p vs ∨ SqT g.K H p vs) ∧ flatV v = true ∧ vs.all flatV = true ∧ inV v vs = b) ∨ ∃ (c : Nat) (z : Str), v = .str ⟨#[c]⟩ ∧ w = .str z ∧ decide (c ∈ z.cps.toList) = b := by
  have key : ∀ ds, items M y = some ds → (if flatD x = true ∧ ds.all flatD = true then some (memD x ds) else none) = some b → ∃ p vs, w = .ref p ∧ (SqL g.K H p vs ∨ SqT g.K H p vs) ∧ flatV v = true ∧ vs.all flatV = true ∧ inV v vs = b := fun ds hd h => by
    split at h
    · rename_i hf
      cases h
      obtain ⟨p, vs, rfl, hs, r⟩ := items_at R ry hd
      obtain ⟨h1, h2⟩ := flat_rep rx hf.1
      obtain ⟨h3, h4⟩ := flats_rep r hf.2
      exact ⟨p, vs, rfl, hs, h2, h4, by rw [h1, h3]; rfl⟩
    · cases h
  cases y with
  | str z =>
    cases x with
    | str u =>
      dsimp only [inRes] at h
      split at h
      · rename_i c hc
        cases h; cases rx; cases ry
        refine .inr ⟨c, z, ?_, rfl, rfl⟩
        obtain ⟨arr⟩ := u
        have : arr = #[c] := by
          have h2 : arr.toList = [c] := hc
          rw [← Array.toList_inj, h2]
        rw [this]
      · cases h
    | _ => cases h
  | _ =>
    dsimp only [inRes] at h
    split at h
    · rename_i ds hd
      exact .inl (key ds hd h)
    · cases h
section
variable {X : Cx} {g : Wd} {W : WY} {a b c : Expr} {pos p : Pos} {m1 m2 m3 : EM} {ma : AM} {es : List Expr}
theorem sim_in (hK : g.K = X.K) : Sim2 g dIn (rInA X.K) := fun F M σ H W x y v w Q R rx ry q => by
  unfold dIn at q
  split at q
  · rename_i bb hb
    rcases in_at R rx ry hb with ⟨ad, vs, rfl, hs, f1, f2, e⟩ | ⟨cc, z, rfl, rfl, e⟩
    · rw [hK] at hs; exact .inl ⟨ad, vs, rfl, hs, f1, f2, by simp only [Bool.false_eq_true, if_false]; rw [e]; exact q.here R (.bl _)⟩
    · exact .inr ⟨cc, z, rfl, rfl, by rw [e]; exact q.here R (.bl _)⟩
  · exact q.elim
theorem sim_notIn (hK : g.K = X.K) : Sim2 g dNotIn (rNotInA X.K) := fun F M σ H W x y v w Q R rx ry q => by
  unfold dNotIn at q
  split at q
  · rename_i bb hb
    rcases in_at R rx ry hb with ⟨ad, vs, rfl, hs, f1, f2, e⟩ | ⟨cc, z, rfl, rfl, e⟩
    · rw [hK] at hs; exact .inl ⟨ad, vs, rfl, hs, f1, f2, by simp only [if_true]; rw [e]; exact q.here R (.bl _)⟩
    · exact .inr ⟨cc, z, rfl, rfl, by rw [e]; exact q.here R (.bl _)⟩
  · exact q.elim
/-! ### a dict of the text with text keys -/
end
end T2
namespace T2
open PySem L2
section
variable {X : Cx} {g : Wd} {W : WY} {a b c : Expr} {pos p apos : Pos} {m1 m2 m3 : EM} {ma : AM} {es : List Expr}
/-! ### slices -/
/-- a new list -/
def MkOk (g : Wd) (mk : List D → MH → Res D) : Prop := ∀ (W : WX) (F : List Addr) (M : MH) (H : Hp) (σ : L2.St) (Q : VK) (ds : List D) (vs : List V) (p : Addr), RelM g F M H → Reps g F H ds vs → post g rD W F σ H (mk ds M) Q → H p = none → Q (.ref p) (upd H p (.lst vs))
theorem mkF_ok : MkOk g mkF := fun W F M H σ Q ds vs p R r q hp => mkF_post R r q hp
/-! ### further operations -/
/-- xs.append(e) -/
def eApp (mo ma : EM) : EM := fun e M => (mo e M).bind fun x M1 => match x with
  | .ref n => match M1[n]? with
    | some (.lst _) => (ma e M1).bind fun y M2 => match M2[n]? with
      | some (.lst ds) => if ds.length < big then .ok .non (M2.set n (.lst (ds ++ [y]))) else .bad
      | _ => .bad
    | _ => .bad
  | _ => .bad
theorem de_app {o : Expr} (ho : PE X o (tD g W m1)) (ha : PE X a (tD g W m2)) (hst : starEach [a] X.env = (false, eval a X.env) :: starEach [] X.env := by rfl)
    (hpe : ∀ {to : TE} {t : TA}, PE X o to → PA X [a] t → PE X (.Call (.Attribute o "append" apos) [a] [] pos) (tBM X.K "list" rAppend to t) := by intro _ _ h1 h2; exact pe_bm PySem.F.plainAttrs_list PySem.F.slot_list_append PySem.F.type_list_append mt_append h1 h2) :
    PE X (.Call (.Attribute o "append" apos) [a] [] pos) (tD g W (eApp m1 m2)) :=
  pe_imp (hpe ho (de_cons ha de_nil hst)) fun σ H Q ⟨F, e, M, RS, q⟩ => ⟨F, e, M, RS, q.bind fun x M1 F1 H1 v e1 g1 R1 rx q1 => by
    cases x with
    | ref n =>
      cases rx with | ref hn =>
      dsimp only at q1
      split at q1
      · rename_i ds0 hd0
        obtain ⟨vs0, hv0, r0⟩ := lst_at R1 hn hd0
        refine ⟨.inl ⟨rfl, vs0, SqL.of hv0⟩, F1, e, M1, RS.up g1 R1, ?_⟩
        unfold eCons eNil
        refine (?_ : post g rDs W.w F1 σ H1 ((m2 e M1).bind fun x M1 => .ok [x] M1) _)
        cases h2 : m2 e M1 with
        | ok y M2 =>
          rw [h2] at q1
          intro F2 H2 us g2 R2 r2
          obtain ⟨u, rfl, ru⟩ := one_rep r2
          have hn2 := pre_get g2.pre hn
          dsimp only [Res.bind] at q1
          split at q1
          · rename_i ds hd
            obtain ⟨vs, hv, r⟩ := lst_at R2 hn2 hd
            split at q1
            · rename_i hl
              refine ⟨_, vs, u, rfl, rfl, hv, by rw [← r.length]; exact Nat.lt_of_lt_of_le hl (by decide), ?_⟩
              obtain ⟨g3, R3⟩ := R2.put (o := .lst (vs ++ [u])) (m := .lst (ds ++ [y])) hn2 trivial fun H' gr => .lst ((r.mono gr R2.good).append (.cons (ru.mono gr R2.good) .nil))
              exact (q1.up g2).ok g3 R3 .non
            · exact q1.elim
          · exact q1.elim
        | exc c ns ds M2 => rw [h2] at q1; exact q1
        | bad => rw [h2] at q1; exact q1.elim
      · exact q1.elim
    | _ => exact q1.elim⟩
end
end T2
namespace T2
open PySem L2

/-! ### isinstance -/
abbrev Tg := Sum String Nat
def tagOf (M : MH) : D → Option Tg
  | .non => some (.inl "NoneType")
  | .bl _ => some (.inl "bool")
  | .int _ => some (.inl "int")
  | .str _ => some (.inl "str")
  | .tup _ => some (.inl "tuple")
  | .fro _ => some (.inl "list")
  | .ins c _ _ => some (.inr c)
  | .ref n => match M[n]? with
    | some (.lst _) => some (.inl "list")
    | some (.dk _ _) => some (.inl "dict")
    | some (.dt _ _) => some (.inl "dict")
    | some (.ob c _ _) => some (.inr c)
    | _ => none
  | _ => none
def clsTag : D → Option Tg
  | .ty n => some (.inl n)
  | .cls c => some (.inr c)
  | _ => none
def dIsi (isi : Tg → Tg → Option Bool) (ds : List D) (M : MH) : Res D := match ds with
  | [x, c] => match tagOf M x, clsTag c with
    | some t, some u => (match isi t u with
      | some b => .ok (.bl b) M
      | none => .bad)
    | _, _ => .bad
  | _ => .bad
def tagV (g : Wd) : Tg → Value
  | .inl n => .type n
  | .inr c => .ref (g.ca c)
structure ClsI (K : PySem.W.Frag) (C : Addr) : Prop where
  cl : Cls K C
  ha : PySem.W.findIn K (.ref C) "__class__" = some (some (.builtin "object.__class__"))
  hn : PySem.W.specialIn K (.builtin "object.__class__") "__get__" = some (some (.builtin "getset_descriptor.__get__"))
  ht : PySem.W.takesIn K (.builtin "object.__class__") = some true
  hm : PySem.W.mroIn K C (.type "object") = some true
structure IsiOk (g : Wd) (isi : Tg → Tg → Option Bool) : Prop where
  kit : ∀ t c b, isi t c = some b → PySem.W.kitOne g.K (tagV g t) (tagV g c) = some b
  own : ∀ c t b, isi (.inr c) t = some b → ClsI g.K (g.ca c)
section
variable {X : Cx} {g : Wd} {W : WY} {a b c : Expr} {pos p apos : Pos} {m1 m2 m3 : EM} {ma : AM} {es : List Expr}
theorem tag_ty {isi : Tg → Tg → Option Bool} (I : IsiOk g isi) {F : List Addr} {M : MH} {H : Hp} {x : D} {v : V} {t u : Tg} {bb : Bool} (R : RelM g F M H) (r : Rep g F H x v) (h : tagOf M x = some t) (hi : isi t u = some bb) : TyX g.K H v (tagV g t) := by
  cases r with
  | non => cases h; exact .base .non
  | bl => cases h; exact .base (.bl _)
  | int => cases h; exact .base (.int _)
  | str => cases h; exact .base (.str _)
  | ty => cases h
  | cls => cases h
  | obj => cases h
  | tk => cases h
  | tup h1 r1 =>
    cases h
    rcases h1 with (h1 | ⟨o, h1⟩) | ⟨o, its, n, h1, h2, _⟩
    · exact .base (.tup h1)
    · exact .fTuple h1
    · exact .kTuple h1 h2
  | fro h1 r1 =>
    cases h
    rcases h1 with ⟨h1, _⟩ | ⟨o, h1⟩ | ⟨o, its, n, h1, h2, _⟩
    · exact .base (.lst h1)
    · exact .base (.frz h1)
    · exact .kList h1 h2
  | ins h1 h2 h3 r1 =>
    cases h
    have C := I.own _ _ _ hi
    exact .base (.ins h1 C.cl C.ha C.hn C.ht C.hm)
  | ref hn =>
    dsimp only [tagOf] at h
    split at h
    · rename_i hm; cases h; obtain ⟨o, e, ro⟩ := R.obj _ _ _ hn hm; cases ro; exact .base (.lst e)
    · rename_i hm; cases h; obtain ⟨o, e, ro⟩ := R.obj _ _ _ hn hm; cases ro; exact .base (.dK e)
    · rename_i hm; cases h; obtain ⟨o, e, ro⟩ := R.obj _ _ _ hn hm; cases ro; exact .base (.dT e)
    · rename_i hm; cases h; obtain ⟨o, e, ro⟩ := R.obj _ _ _ hn hm; cases ro
      have C := I.own _ _ _ hi
      exact .base (.ins e C.cl C.ha C.hn C.ht C.hm)
    · cases h
theorem sim_isi {isi : Tg → Tg → Option Bool} (I : IsiOk g isi) (hK : g.K = X.K) : SimA g (dIsi isi) (rIsi X.K) := fun F M σ H W ds vs Q R r q => by
  unfold dIsi at q
  split at q
  · rename_i x cc
    obtain ⟨v, w, rfl, rv, rw⟩ := two_rep r
    split at q
    · rename_i t u h1 h2
      split at q
      · rename_i bb hb
        have ty := tag_ty I R rv h1 hb
        have kt := I.kit _ _ _ hb
        rw [hK] at ty kt
        refine ⟨v, w, tagV g t, tagV g u, bb, rfl, ?_, ty, kt, q.here R (.bl _)⟩
        cases rw with
        | ty n => cases h2; exact .ty n
        | cls n => cases h2; exact .own _
        | _ => cases h2
      · exact q.elim
    · exact q.elim
  · exact q.elim
theorem de_isi {isi : Tg → Tg → Option Bool} (I : IsiOk g isi) (hK : g.K = X.K) (ha : PA X (a :: es) (tA g W ma)) (hm : X.mg "isinstance" = none) (hg : Gl X "isinstance" := by rfl) (he : starEach (a :: es) X.env = (false, eval a X.env) :: starEach es X.env := by rfl)
    (hpl : (backTo pos (starEach es X.env)).any (·.1) = false := by rfl) : PE X (.Call (.Name "isinstance" p) (a :: es) [] pos) (tD g W (eArgs (dIsi isi) ma)) := de_callB call_isi (sim_isi I hK) hm (by decide +kernel) ha hg (by decide) (by decide) he hpl
end

/-! ### list comprehensions (one clause) -/
def wipe2 (e : Env2) : List Nat → Env2
  | [] => e
  | v :: vs => (wipe2 e vs).set v none
theorem wipe_rep {g : Wd} {F : List Addr} {H : Hp} {e : Env2} {σ : L2.St} (r : EnvR g F H e σ) : ∀ vs : List Nat, EnvR g F H (wipe2 e vs) (wipe σ vs)
  | [] => r
  | v :: vs => (wipe_rep r vs).unset v none
/-- what is raised within a comprehension is not spoken of -/
def noX {A : Type} (r : Res A) : Res A := match r with
  | .exc _ _ _ _ => .bad
  | r => r
def lcStep (tg : TgM) (tt : BM) (m : EM) (e : Env2) (x : D) (M : MH) : Res (Option D) := match tg x e with
  | none => .bad
  | some e1 => (noX (tt e1 M)).bind fun b M1 => if b = true then (noX (m e1 M1)).bind fun y M2 => .ok (some y) M2 else .ok none M1
/-- y goes behind the list at n -/
def pushAt (n : Nat) (o : Option D) (M : MH) : Option MH := match o with
  | none => some M
  | some y => match M[n]? with
    | some (.lst acc) => if acc.length < big then some (M.set n (.lst (acc ++ [y]))) else none
    | _ => none
def lcV (tg : TgM) (tt : BM) (m : EM) (e : Env2) (n : Nat) : List D → MH → Res D
  | [], M => .ok (.ref n) M
  | x :: xs, M => (lcStep tg tt m e x M).bind fun o M1 => match pushAt n o M1 with
    | some M2 => lcV tg tt m e n xs M2
    | none => .bad
def lcL (tg : TgM) (tt : BM) (m : EM) (e : Env2) (n s : Nat) : Nat → Nat → MH → Res D
  | 0, i, M => match M[s]? with
    | some (.lst ds) => if ds.length ≤ i then .ok (.ref n) M else .bad
    | _ => .bad
  | k + 1, i, M => match M[s]? with
    | some (.lst ds) => match ds[i]? with
      | none => .ok (.ref n) M
      | some x => (lcStep tg tt m e x M).bind fun o M1 => match pushAt n o M1 with
        | some M2 => lcL tg tt m e n s k (i + 1) M2
        | none => .bad
    | _ => .bad
/-- [m for .. in it if tt]: the list stands at its place from the start -/
def eLc (it : Env2 → MH → Res IV) (tg : TgM) (tt : BM) (m : EM) (vs : List Nat) : EM := fun e M => match it e M with
  | .ok (.vals ds) M1 => lcV tg tt m (wipe2 e vs) M1.length ds (M1 ++ [.lst []])
  | .ok (.live s) M1 => match M1[s]? with
    | some (.lst ds) => lcL tg tt m (wipe2 e vs) M1.length s ds.length 0 (M1 ++ [.lst []])
    | _ => .bad
  | .exc c ns ds M1 => .exc c ns ds M1
  | .bad => .bad
def bYes : BM := fun _ M => .ok true M
abbrev W0 : WY := ⟨fun _ _ _ _ => False, ⟨[], []⟩⟩
/-- the target's slots are the comprehension's own -/
def TgOwn (tg : TgM) (gt : TG) (vs : List Nat) : Prop := ∀ (v : V) (σ : L2.St) (H : Hp) (Q : L2.St → Hp → Prop), gt v (wipe σ vs) H Q → gt v (wipe σ vs) H fun σ2 H2 => wipe σ2 vs = wipe σ vs ∧ Q σ2 H2
theorem wipe_get (σ : L2.St) : ∀ (vs : List Nat) (i : Nat), i ∈ vs → ∀ x, (wipe (σ.set i x) vs) = wipe σ vs
  | [], _, h, _ => by simp at h
  | v :: vs, i, h, x => by
    unfold wipe
    by_cases hi : i ∈ vs
    · rw [wipe_get σ vs i hi x]
    · have : i = v := by simp at h; rcases h with h | h; exact h; exact absurd h hi
      subst this
      have key : ∀ (ws : List Nat) (y : Option V), i ∉ ws → wipe (σ.set i y) ws = (wipe σ ws).set i y := by
        intro ws y
        induction ws with
        | nil => intro _; rfl
        | cons w ws ih =>
          intro hn
          simp at hn
          unfold wipe
          rw [ih hn.2]
          exact List.set_comm _ _ hn.1
      rw [key vs x hi, List.set_set]
theorem wipe_wipe (σ : L2.St) : ∀ (vs ws : List Nat), (∀ i ∈ vs, i ∈ ws) → wipe (wipe σ vs) ws = wipe σ ws
  | [], ws, _ => rfl
  | v :: vs, ws, h => by
    show wipe ((wipe σ vs).set v none) ws = _
    rw [wipe_get _ ws v (h v (by simp)) none]
    exact wipe_wipe σ vs ws fun i hi => h i (by simp [hi])
theorem tgName_own (i : Nat) {vs : List Nat} (h : i ∈ vs) : TgOwn (tgName i) (gName i) vs := fun v σ H Q q => ⟨by
  rw [wipe_get _ vs i h]
  exact wipe_wipe σ vs vs fun _ z => z, q⟩
section
variable {X : Cx} {g : Wd} {W : WY} {pos : Pos} {m : EM} {tt : BM}
/-- one item of the comprehension -/
theorem lcStep_run {F : List Addr} {e : Env2} {M : MH} {σ : L2.St} {H : Hp} {x : D} {v : V} {tg : TgM} {gt : TG} {vs : List Nat} {n : Nat} {ad : Addr} {k : MH → Res D} {Q : VK} {Nx : Hp → Prop} {τ : L2.St}
    (RS : RelS g ⟨[], []⟩ F (wipe2 e vs) M (wipe σ vs) H) (ts : TgSim g tg gt) (ow : TgOwn tg gt vs) (r : Rep g F H x v) (hn : F[n]? = some ad)
    (q : post g rD W.w F τ H ((lcStep tg tt m (wipe2 e vs) x M).bind fun o M1 => match pushAt n o M1 with | some M2 => k M2 | none => .bad) Q)
    (f : ∀ M1 F1 H1, Grow F H F1 H1 → RelM g F1 M1 H1 → post g rD W.w F1 τ H1 (k M1) Q → Nx H1) :
    gt v (wipe σ vs) H fun σ2 H2 => wipe σ2 vs = wipe σ vs ∧ tB2 g W0 tt σ2 H2 fun b H3 => if b = true then tD g W0 m σ2 H3 fun y H4 => ∃ acc, H4 ad = some (.lst acc) ∧ acc.length < sizeLine ∧ Nx (upd H4 ad (.lst (acc ++ [y]))) else Nx H3 := by
  unfold lcStep at q
  cases ht : tg x (wipe2 e vs) with
  | none => rw [ht] at q; exact q.elim
  | some e1 =>
    rw [ht] at q
    dsimp only at q
    refine ow v σ H _ (ts F M _ e1 _ H x v _ RS.m RS.e r ht fun σ2 E2 => ?_)
    refine ⟨F, e1, M, ⟨RS.m, E2, pin_nil, xrs_nil⟩, ?_⟩
    cases hb : tt e1 M with
    | bad => rw [hb] at q; exact q.elim
    | exc c ns ds M1 => rw [hb] at q; exact q.elim
    | ok b M1 =>
      rw [hb] at q
      intro F1 H1 b' g1 R1 eb
      cases eb
      dsimp only [Res.bind, noX] at q
      have RS1 : RelS g ⟨[], []⟩ F1 e1 M1 σ2 H1 := RelS.up ⟨RS.m, E2, pin_nil, xrs_nil⟩ g1 R1
      cases b with
      | false => exact f M1 F1 H1 g1 R1 (q.up g1)
      | true =>
        refine ⟨F1, e1, M1, RS1, ?_⟩
        rw [if_pos rfl] at q
        cases hm : m e1 M1 with
        | bad => rw [hm] at q; exact q.elim
        | exc c ns ds M2 => rw [hm] at q; exact q.elim
        | ok y M2 =>
          rw [hm] at q
          intro F2 H2 u g2 R2 ru
          have hn2 : F2[n]? = some ad := pre_get g2.pre (pre_get g1.pre hn)
          have g12 := g1.trans g2
          dsimp only [Res.bind, pushAt, noX] at q
          cases hM : M2[n]? with
          | none => rw [hM] at q; exact q.elim
          | some o =>
            rw [hM] at q
            cases o with
            | lst acc =>
              dsimp only at q
              by_cases hl : acc.length < big
              · rw [if_pos hl] at q
                obtain ⟨us, hu, ra⟩ := lst_at R2 hn2 hM
                refine ⟨us, hu, by rw [← ra.length]; exact Nat.lt_of_lt_of_le hl (by decide), ?_⟩
                obtain ⟨g3, R3⟩ := R2.put (o := .lst (us ++ [u])) (m := .lst (acc ++ [y])) hn2 trivial fun H' gr => .lst ((ra.mono gr R2.good).append (.cons (ru.mono gr R2.good) .nil))
                exact f _ F2 _ (g12.trans g3) R3 (q.up (g12.trans g3))
              · rw [if_neg hl] at q; exact q.elim
            | _ => exact q.elim
theorem eLc_imp {it : Env2 → MH → Res IV} {wi : TI} {tg : TgM} {gt : TG} {vs : List Nat} (hsim : ItSim g W it wi) (ts : TgSim g tg gt) (ow : TgOwn tg gt vs) {σ : L2.St} {H : Hp} {Q : VK} (q : tD g W (eLc it tg tt m vs) σ H Q) : tLc wi gt (tB2 g W0 tt) (tD g W0 m) vs σ H Q := by
  obtain ⟨F, e, M, RS, q⟩ := q
  refine hsim σ H F e M _ RS ?_
  unfold eLc at q
  cases hi : it e M with
  | bad => rw [hi] at q; exact q
  | exc c ns ds M1 => rw [hi] at q; exact q
  | ok iv M1 =>
    rw [hi] at q
    cases iv with
    | vals ds =>
      intro F1 H1 J g1 R1 itv ad had
      obtain ⟨g2, R2⟩ := R1.laid (m := .lst []) (o := .lst []) had fun F' H' gr => .lst .nil
      have RS2 : RelS g W.p (F1 ++ [ad]) e (M1 ++ [.lst []]) σ (upd H1 ad (.lst [])) := (RS.up g1 R1).up g2 R2
      have hn0 : (F1 ++ [ad])[M1.length]? = some ad := by rw [← R1.len]; simp
      refine ⟨fun i k H' => i + k = ds.length ∧ ∃ F' M', Grow (F1 ++ [ad]) (upd H1 ad (.lst [])) F' H' ∧ RelM g F' M' H' ∧ post g rD W.w F' σ H' (lcV tg tt m (wipe2 e vs) M1.length (ds.drop i) M') Q, ⟨ds.length, by simp, F1 ++ [ad], M1 ++ [.lst []], .same, R2, by simpa using q.up (g1.trans g2)⟩, ?_⟩
      rintro i k H3 ⟨hk, F3, M3, g3, R3, q3⟩
      have hn3 : F3[M1.length]? = some ad := pre_get g3.pre hn0
      by_cases hlt : i < ds.length
      · refine .inr ⟨itv.go F3 H3 i (g2.trans g3) hlt, fun H' => ∃ F' M', Grow (F1 ++ [ad]) (upd H1 ad (.lst [])) F' H' ∧ RelM g F' M' H' ∧ post g rD W.w F' σ H' (lcV tg tt m (wipe2 e vs) M1.length (ds.drop (i + 1)) M') Q, fun H' z => ⟨k - 1, by omega, by omega, z⟩, fun x H4 hy => ?_⟩
        obtain ⟨hk4, d, hd, rd⟩ := itv.yld F3 H3 i x H4 (g2.trans g3) hlt hy
        obtain ⟨gk, Rk⟩ := R3.keep hk4
        replace q3 := q3.up gk
        replace g3 := g3.trans gk
        replace R3 := Rk
        rw [drop_cons' hd] at q3
        unfold lcV at q3
        have RS3 : RelS g ⟨[], []⟩ F3 (wipe2 e vs) M3 (wipe σ vs) H4 := ⟨R3, wipe_rep (RS2.up g3 R3).e vs, pin_nil, xrs_nil⟩
        exact lcStep_run RS3 ts ow rd hn3 q3 fun M5 F5 H5 g5 R5 q5 => ⟨F5, M5, g3.trans g5, R5, q5⟩
      · have hge : ds.length ≤ i := Nat.le_of_not_lt hlt
        rw [List.drop_eq_nil_of_le hge] at q3
        exact .inl ⟨itv.stop F3 H3 i (g2.trans g3) hge, q3.here R3 (.ref hn3)⟩
    | live sr =>
      dsimp only at q
      split at q
      · rename_i ds0 hd0
        refine ⟨ds0, hd0, fun F1 H1 as g1 R1 has ad had => ?_⟩
        obtain ⟨g2, R2⟩ := R1.laid (m := .lst []) (o := .lst []) had fun F' H' gr => .lst .nil
        have RS2 : RelS g W.p (F1 ++ [ad]) e (M1 ++ [.lst []]) σ (upd H1 ad (.lst [])) := (RS.up g1 R1).up g2 R2
        have hn0 : (F1 ++ [ad])[M1.length]? = some ad := by rw [← R1.len]; simp
        have hs0 : (F1 ++ [ad])[sr]? = some as := pre_get (List.prefix_append _ _) has
        refine ⟨fun i k H' => ∃ F' M', Grow (F1 ++ [ad]) (upd H1 ad (.lst [])) F' H' ∧ RelM g F' M' H' ∧ post g rD W.w F' σ H' (lcL tg tt m (wipe2 e vs) M1.length sr k i M') Q, ⟨ds0.length, F1 ++ [ad], M1 ++ [.lst []], .same, R2, q.up (g1.trans g2)⟩, ?_⟩
        rintro i k H3 ⟨F3, M3, g3, R3, q3⟩
        have hn3 : F3[M1.length]? = some ad := pre_get g3.pre hn0
        have hs3 : F3[sr]? = some as := pre_get g3.pre hs0
        cases k with
        | zero =>
          unfold lcL at q3
          split at q3
          · rename_i ds hd
            obtain ⟨us, hu, ru⟩ := lst_at R3 hs3 hd
            split at q3
            · rename_i hl
              exact .inl ⟨⟨us, SqL.of hu, by rw [← ru.length]; exact hl⟩, q3.here R3 (.ref hn3)⟩
            · exact q3.elim
          · exact q3.elim
        | succ k =>
          unfold lcL at q3
          split at q3
          · rename_i ds hd
            obtain ⟨us, hu, ru⟩ := lst_at R3 hs3 hd
            split at q3
            · rename_i hx
              exact .inl ⟨⟨us, SqL.of hu, by rw [← ru.length]; exact List.getElem?_eq_none_iff.mp hx⟩, q3.here R3 (.ref hn3)⟩
            · rename_i d hx
              obtain ⟨v, hv, rv⟩ := ru.get hx
              refine .inr ⟨⟨us, v, SqL.of hu, hv⟩, fun H' => ∃ F' M', Grow (F1 ++ [ad]) (upd H1 ad (.lst [])) F' H' ∧ RelM g F' M' H' ∧ post g rD W.w F' σ H' (lcL tg tt m (wipe2 e vs) M1.length sr k (i + 1) M') Q, fun H' z => ⟨k, Nat.lt_succ_self k, z⟩, ?_⟩
              rintro x H4 ⟨rfl, hy⟩
              have ex : v = x := Option.some.inj (hv.symm.trans (hy us (SqL.of hu)))
              subst ex
              have RS3 : RelS g ⟨[], []⟩ F3 (wipe2 e vs) M3 (wipe σ vs) H4 := ⟨R3, wipe_rep (RS2.up g3 R3).e vs, pin_nil, xrs_nil⟩
              exact lcStep_run RS3 ts ow rv hn3 q3 fun M5 F5 H5 g5 R5 q5 => ⟨F5, M5, g3.trans g5, R5, q5⟩
          · exact q3.elim
      · exact q.elim
variable {elt tgE iter : Expr} {ifs : List Expr} {scope : Scope} {own : List (Str × Nat)}
theorem de_lc {it : Env2 → MH → Res IV} {wi : TI} {tg : TgM} {gt : TG} (hN : X.N.Nodup) (hi : PI X tgE iter wi) (hsim : ItSim g W it wi) (ok : BlkOk X.N X.env.scope scope own) (ts : TgSim g tg gt) (ow : TgOwn tg gt (own.map (·.2)))
    (hg : ∀ (s : Shared) (H : Hp) (C : Addr) (cl : List (Str × Addr)) (fp : List Addr), PG (X.blk s H scope (compEnvC scope cl C X.env) fp) tgE gt) (ht : ∀ (s : Shared) (H : Hp) (C : Addr) (cl : List (Str × Addr)) (fp : List Addr), PTs (X.blk s H scope (compEnvC scope cl C X.env) fp) ifs (tB2 g W0 tt))
    (he : ∀ (s : Shared) (H : Hp) (C : Addr) (cl : List (Str × Addr)) (fp : List Addr), PE (X.blk s H scope (compEnvC scope cl C X.env) fp) elt (tD g W0 m)) (hc : X.calm = true := by rfl) (hs : ∀ x, foldedSetIterable iter X.env x = pure x := by intro _; rfl) :
    PE X (.ListComp elt [⟨tgE, iter, ifs, 0⟩] scope pos) (tD g W (eLc it tg tt m (own.map (·.2)))) := pe_imp (pe_lc hc hN hi ok hg ht he hs) fun σ H Q q => eLc_imp hsim ts ow q
theorem ds_setLc {it : Env2 → MH → Res IV} {wi : TI} {tg : TgM} {gt : TG} {i : Nat} {y : Str} {py spos : Pos} (hpin : ∀ p ∈ W.p.xs, i ≠ p.1) (hN : X.N.Nodup) (hi : PI X tgE iter wi) (hsim : ItSim g W it wi) (ok : BlkOk X.N X.env.scope scope own) (ts : TgSim g tg gt) (ow : TgOwn tg gt (own.map (·.2)))
    (hg : ∀ (s : Shared) (H : Hp) (C : Addr) (cl : List (Str × Addr)) (fp : List Addr), PG (X.blk s H scope (compEnvC scope cl C X.env) fp) tgE gt) (ht : ∀ (s : Shared) (H : Hp) (C : Addr) (cl : List (Str × Addr)) (fp : List Addr), PTs (X.blk s H scope (compEnvC scope cl C X.env) fp) ifs (tB2 g W0 tt))
    (he : ∀ (s : Shared) (H : Hp) (C : Addr) (cl : List (Str × Addr)) (fp : List Addr), PE (X.blk s H scope (compEnvC scope cl C X.env) fp) elt (tD g W0 m)) (hsw : swapsWith (.ListComp elt [⟨tgE, iter, ifs, 0⟩] scope pos) (some (.Name y py)) spos.line X.env = pure true)
    (hy : X.N[i]? = some y := by rfl) (hyl : X.env.scope.names.lookup y = some .local := by rfl) (hc : X.calm = true := by rfl) (hs : ∀ x, foldedSetIterable iter X.env x = pure x := by intro _; rfl) :
    PS X (.Assign [.Name y py] (.ListComp elt [⟨tgE, iter, ifs, 0⟩] scope pos) spos) (tS g W (sSet i (eLc it tg tt m (own.map (·.2))))) :=
  ps_imp (ps_setLc hc hN hy hyl hsw hi ok hg ht he hs) fun E σ H ⟨F, e, M, RS, q⟩ => eLc_imp hsim ts ow ⟨F, e, M, RS, q.step RS fun d M1 F1 H1 v _ g1 R1 r q1 => q1 F1 H1 _ .same R1 ((RS.up g1 R1).e.set r i) (RS.x.set hpin)⟩
theorem dts_nil : PTs X [] (tB2 g W bYes) := ⟨fun pins s σ H Q I ⟨F, e, M, RS, q⟩ => pts_nil.run pins s σ H Q I (q.here RS.m rfl)⟩
theorem dts_one {c : Expr} {b1 : BM} (h : PT X c (tB2 g W b1)) : PTs X [c] (tB2 g W b1) := pts_one h
end
end T2
namespace T2
open PySem L2

/-! ### raise, try -/
def sRaise0 (c : Nat) : SM := fun e M => .ex c [] [] e M
/-- behind a suite its name is gone -/
def unbind (i : Nat) (r : SR) : SR := match r with
  | .nx e2 M2 => .nx (e2.set i none) M2
  | .bk e2 M2 => .bk (e2.set i none) M2
  | .ct e2 M2 => .ct (e2.set i none) M2
  | .rt d M2 => .rt d M2
  | _ => .bad
/-- try: body except C as n: suite (n in slot i); ct tells whether the clause takes an exception of the class -/
def sTry (i : Nat) (ct : Nat → Option Bool) (body : SM) (suite : Nat → List Str → List D → SM) : SM := fun e M => match body e M with
  | .ex c ns ds e1 M1 => match ct c with
    | some true => if i < e1.length then unbind i (suite c ns ds (e1.set i none) M1) else .bad
    | some false => .ex c ns ds e1 M1
    | none => .bad
  | r => r
section
variable {X : Cx} {g : Wd} {W : WY} {a b : Expr} {pos p apos : Pos} {m1 m2 m3 : EM} {ma : AM} {es : List Expr} {s1 : SM}
end
end T2
namespace T2
open PySem L2

/-! ### defs with defaults; calls with keywords -/
def eCallK (n k : Nat) (gD : List D → List D → List D) (f : List D → MH → Res D) (ma mk : AM) : EM := fun e M => (ma e M).bind fun ds M1 => (mk e M1).bind fun zs M2 => if ds.length = n ∧ zs.length = k then f (gD ds zs) M2 else .bad
section
variable {X : Cx} {g : Wd} {W : WY} {a : Expr} {pos p apos kpos : Pos} {m1 m2 m3 : EM} {ma mk : AM} {es : List Expr} {kws : List Keyword}
variable {CX : CXT} {k n N : Nat} {f : Addr} {fd : FuncData} {ps ks : List Str} {sp : Sp} {E : L2.St → XK} {x : Str} {t tq : TA} {gg : List Value → List Value → List Value} {gV : List V → List V → List V}
end
/-! ### methods of texts -/
section
variable {X : Cx} {g : Wd} {W : WY} {a : Expr} {pos p apos kpos : Pos} {m1 m2 m3 : EM}
end
end T2
namespace T2
open PySem L2
section
variable {X : Cx}
theorem pe_or {e : Expr} {t1 t2 : TE} (h1 : PE X e t1) (h2 : PE X e t2) : PE X e (fun σ H Q => t1 σ H Q ∨ t2 σ H Q) := ⟨fun pins s σ H Q I q => q.elim (h1.run pins s σ H Q I) (h2.run pins s σ H Q I)⟩
theorem pt_or {e : Expr} {t1 t2 : TT} (h1 : PT X e t1) (h2 : PT X e t2) : PT X e (fun σ H Q => t1 σ H Q ∨ t2 σ H Q) := ⟨fun pins s σ H Q I q => q.elim (h1.run pins s σ H Q I) (h2.run pins s σ H Q I)⟩
theorem ps_or {e : Stmt} {t1 t2 : TS} (h1 : PS X e t1) (h2 : PS X e t2) : PS X e (fun E σ H => t1 E σ H ∨ t2 E σ H) := ⟨fun pins s σ H E I q => q.elim (h1.run pins s σ H E I) (h2.run pins s σ H E I)⟩
end

/-! ### dicts with int and text keys -/
def keyOf : D → Option Key
  | .int i => some (.inl i)
  | .str x => some (.inr x)
  | _ => none
def kGet {k A : Type} [DecidableEq k] (ks : List k) (ds : List A) (x : k) : Option A := ((ks.zip ds).find? fun p => decide (p.1 = x)).map (·.2)
theorem key_rep {g : Wd} {F : List Addr} {H : Hp} {d : D} {v : V} {k : Key} (r : Rep g F H d v) (h : keyOf d = some k) : v = kV k := by cases r <;> first | (cases h; rfl) | cases h
theorem kGet_rep {g : Wd} {F : List Addr} {H : Hp} {κ : Type} [DecidableEq κ] {x : κ} : ∀ {ks : List κ} {ds : List D} {vs : List V}, Reps g F H ds vs → (match kGet ks ds x with
    | some d => ∃ v, valV (ks.zip vs) x = some v ∧ Rep g F H d v
    | none => valV (ks.zip vs) x = none)
  | [], _, _, _ => by simp [kGet, valV]
  | _ :: _, _, _, .nil => by simp [kGet, valV]
  | n :: ns, _, _, .cons (d := d) (v := v) (ds := ds) (vs := vs) r t => by
    unfold kGet valV
    rw [List.zip_cons_cons, List.zip_cons_cons, List.find?_cons, List.find?_cons]
    by_cases hn : n = x
    · simp only [hn, decide_true]
      exact ⟨_, rfl, r⟩
    · simp only [hn, decide_false]
      exact kGet_rep t
section
variable {X : Cx} {g : Wd} {W : WY} {a b c : Expr} {pos p apos : Pos} {m1 m2 m3 : EM} {ma : AM} {es : List Expr}
theorem dk_at {F : List Addr} {M : MH} {H : Hp} {n : Nat} {ad : Addr} {ks : List Key} {ds : List D} (R : RelM g F M H) (hn : F[n]? = some ad) (hm : M[n]? = some (.dk ks ds)) : ∃ vs, H ad = some (.dK (ks.zip vs)) ∧ ks.length = vs.length ∧ Reps g F H ds vs := by
  obtain ⟨h, e, r⟩ := R.obj n ad _ hn hm
  cases r with | dk hl r => exact ⟨_, e, hl, r⟩
/-- any x[y] -/
def dIxA (x y : D) (M : MH) : Res D := match x with
  | .ref n => match M[n]? with
    | some (.dk ks ds) => match keyOf y with
      | some k => (match kGet ks ds k with
        | some d => .ok d M
        | none => .bad)
      | none => .bad
    | _ => dIx x y M
  | _ => dIx x y M
theorem de_ixA (hK : g.K = X.K) (hu : X.A.units + 1 < cLine) (ha : PE X a (tD g W m1)) (hb : PE X b (tD g W m2)) (hs : PlainIx b := by intro _ _; rfl) (hs2 : NoSl b := by intro _ _; rfl) : PE X (.Subscript a b pos) (tD g W (eBin dIxA m1 m2)) :=
  pe_imp (pe_or (pe_ix ix_seq ha hb hs) (pe_dget hu ha hb hs2)) fun σ H Q ⟨F, e, M, RS, q⟩ => by
    cases h1 : m1 e M with
    | bad => unfold eBin at q; rw [h1] at q; exact q.elim
    | exc c ns ds M1 => exact .inl ⟨F, e, M, RS, by rw [h1]; unfold eBin at q; rw [h1] at q; exact q⟩
    | ok x M1 =>
      cases h2 : m2 e M1 with
      | bad => unfold eBin at q; rw [h1] at q; dsimp only [Res.bind] at q; rw [h2] at q; exact q.elim
      | exc c ns ds M2 =>
        refine .inl ⟨F, e, M, RS, ?_⟩
        rw [h1]
        intro F1 H1 v g1 R1 rx
        refine ⟨F1, e, M1, RS.up g1 R1, ?_⟩
        rw [h2]
        unfold eBin at q; rw [h1] at q; dsimp only [Res.bind] at q; rw [h2] at q
        exact q.up g1
      | ok y M2 =>
        have q0 : post g rD W.w F σ H (dIxA x y M2) Q := by unfold eBin at q; rw [h1] at q; dsimp only [Res.bind] at q; rw [h2] at q; exact q
        by_cases hd : ∃ n ks ds, x = .ref n ∧ M2[n]? = some (.dk ks ds)
        · obtain ⟨n, ks, ds, rfl, hM⟩ := hd
          refine .inr ⟨F, e, M, RS, ?_⟩
          rw [h1]
          intro F1 H1 v g1 R1 rx
          refine ⟨F1, e, M1, RS.up g1 R1, ?_⟩
          rw [h2]
          intro F2 H2 w g2 R2 ry
          cases rx with | ref hn =>
          have hn2 := pre_get g2.pre hn
          obtain ⟨vs, hv, hl, r⟩ := dk_at R2 hn2 hM
          dsimp only [dIxA] at q0
          rw [hM] at q0
          dsimp only at q0
          cases hk : keyOf y with
          | none => rw [hk] at q0; exact q0.elim
          | some k =>
            rw [hk] at q0
            dsimp only at q0
            have ek := key_rep ry hk
            subst ek
            have kg := kGet_rep (x := k) (ks := ks) r
            cases hg : kGet ks ds k with
            | none => rw [hg] at q0; exact q0.elim
            | some d =>
              rw [hg] at q0 kg
              obtain ⟨u, hu2, ru⟩ := kg
              exact ⟨_, u, rfl, hu2 ▸ DGet.k hv, (q0.up (g1.trans g2)).here R2 ru⟩
        · have e0 : dIxA x y M2 = dIx x y M2 := by
            unfold dIxA
            split
            · split
              · rename_i hM; exact absurd ⟨_, _, _, rfl, hM⟩ hd
              · rfl
            · rfl
          rw [e0] at q0
          refine .inl (bin_imp (sim_ix hK) ⟨F, e, M, RS, ?_⟩)
          unfold eBin
          rw [h1]; dsimp only [Res.bind]; rw [h2]
          exact q0
/-- x in y, y a dict or a sequence -/
def inResA (x y : D) (M : MH) : Option Bool := match y with
  | .ref n => match M[n]? with
    | some (.dk ks ds) => (keyOf x).map fun k => (kGet ks ds k).isSome
    | _ => inRes x y M
  | _ => inRes x y M
def dInA (x y : D) (M : MH) : Res D := match inResA x y M with
  | some b => .ok (.bl b) M
  | none => .bad
def dNotInA (x y : D) (M : MH) : Res D := match inResA x y M with
  | some b => .ok (.bl (!b)) M
  | none => .bad
theorem inA_imp {f0 fA : D → D → MH → Res D} {r : R2} {gb : Bool → Bool} (hs : Sim2 g f0 r) (hA : ∀ x y M, fA x y M = match inResA x y M with | some b => .ok (.bl (gb b)) M | none => .bad) (h0 : ∀ x y M, f0 x y M = match inRes x y M with | some b => .ok (.bl (gb b)) M | none => .bad)
    {σ : L2.St} {H : Hp} {Q : VK} (q : tD g W (eBin fA m1 m2) σ H Q) :
    tOp r (tD g W m1) (tD g W m2) σ H Q ∨ (tD g W m1 σ H fun y H1 => tD g W m2 σ H1 fun x H2 => ∃ a o, x = .ref a ∧ DGet H2 a y o ∧ Q (.bl (gb o.isSome)) H2) := by
  obtain ⟨F, e, M, RS, q⟩ := q
  cases h1 : m1 e M with
  | bad => unfold eBin at q; rw [h1] at q; exact q.elim
  | exc c ns ds M1 => exact .inl ⟨F, e, M, RS, by rw [h1]; unfold eBin at q; rw [h1] at q; exact q⟩
  | ok x M1 =>
    cases h2 : m2 e M1 with
    | bad => unfold eBin at q; rw [h1] at q; dsimp only [Res.bind] at q; rw [h2] at q; exact q.elim
    | exc c ns ds M2 =>
      refine .inl ⟨F, e, M, RS, ?_⟩
      rw [h1]
      intro F1 H1 v g1 R1 rx
      refine ⟨F1, e, M1, RS.up g1 R1, ?_⟩
      rw [h2]
      unfold eBin at q; rw [h1] at q; dsimp only [Res.bind] at q; rw [h2] at q
      exact q.up g1
    | ok y M2 =>
      have q0 : post g rD W.w F σ H (fA x y M2) Q := by unfold eBin at q; rw [h1] at q; dsimp only [Res.bind] at q; rw [h2] at q; exact q
      rw [hA] at q0
      by_cases hd : ∃ n ks ds, y = .ref n ∧ M2[n]? = some (.dk ks ds)
      · obtain ⟨n, ks, ds, rfl, hM⟩ := hd
        refine .inr ⟨F, e, M, RS, ?_⟩
        rw [h1]
        intro F1 H1 v g1 R1 rx
        refine ⟨F1, e, M1, RS.up g1 R1, ?_⟩
        rw [h2]
        intro F2 H2 w g2 R2 ry
        cases ry with | ref hn2 =>
        obtain ⟨vs, hv, hl, r⟩ := dk_at R2 hn2 hM
        dsimp only [inResA] at q0
        rw [hM] at q0
        dsimp only at q0
        cases hk : keyOf x with
        | none => rw [hk] at q0; exact q0.elim
        | some k =>
          rw [hk] at q0
          dsimp only [Option.map] at q0
          have ek := key_rep (rx.mono g2 R1.good) hk
          subst ek
          refine ⟨_, _, rfl, DGet.k hv, ?_⟩
          have kg := kGet_rep (x := k) (ks := ks) r
          have es : (valV (ks.zip vs) k).isSome = (kGet ks ds k).isSome := by
            cases hg : kGet ks ds k with
            | none => rw [hg] at kg; rw [kg]; rfl
            | some d => rw [hg] at kg; obtain ⟨u, hu, _⟩ := kg; rw [hu]; rfl
          rw [es]
          exact (q0.up (g1.trans g2)).here R2 (.bl _)
      · have e0 : inResA x y M2 = inRes x y M2 := by
          unfold inResA
          split
          · split
            · rename_i hM; exact absurd ⟨_, _, _, rfl, hM⟩ hd
            · rfl
          · rfl
        rw [e0, ← h0] at q0
        refine .inl (bin_imp hs ⟨F, e, M, RS, ?_⟩)
        unfold eBin
        rw [h1]; dsimp only [Res.bind]; rw [h2]
        exact q0
theorem dt_inA (hK : g.K = X.K) (hu : X.A.units + 1 < cLine) (ha : PE X a (tD g W m1)) (hb : PE X b (tD g W m2)) (hm : behindInMarks .In b = false := by rfl) : PT X (.Compare a [.In] [b] pos) (tB2 g W (bVal (eBin dInA m1 m2))) :=
  pt_imp (pt_or (pt_cmpR op_inA ha hb hm) (pt_cmp (pc_din hu ha hb) hm)) fun σ H Q q => inA_imp (gb := fun b => b) (sim_in hK) (fun _ _ _ => rfl) (fun _ _ _ => rfl) (val_imp q)
theorem dt_notinA (hK : g.K = X.K) (hu : X.A.units + 1 < cLine) (ha : PE X a (tD g W m1)) (hb : PE X b (tD g W m2)) (hm : behindInMarks .NotIn b = false := by rfl) : PT X (.Compare a [.NotIn] [b] pos) (tB2 g W (bVal (eBin dNotInA m1 m2))) :=
  pt_imp (pt_or (pt_cmpR op_notInA ha hb hm) (pt_cmp (pc_dnotin hu ha hb) hm)) fun σ H Q q => inA_imp (gb := fun b => !b) (sim_notIn hK) (fun _ _ _ => rfl) (fun _ _ _ => rfl) (val_imp q)
end
end T2
namespace T2
open PySem L2
section
variable {X : Cx} {g : Wd} {W : WY} {a b c : Expr} {pos p apos : Pos} {m1 m2 m3 : EM} {ma : AM} {es : List Expr}
/-! ### dict displays with written keys -/
def eDNew : EM := fun _ M => .ok (.ref M.length) (M ++ [.dk [] []])
theorem de_dnew : PE X (.Dict [] [] pos) (tD g W eDNew) := pe_imp pe_dnewK fun σ H Q ⟨F, e, M, RS, q⟩ ad had => by
  obtain ⟨g1, R1⟩ := RS.m.laid (m := .dk [] []) (o := .dK []) had fun F' H' gr => .dk (ks := []) (vs := []) rfl .nil
  exact q.ok g1 R1 (.ref (by rw [← RS.m.len]; simp))
end
end T2
namespace T2
open PySem L2
/-! ### arguments put in order -/
/-- a def that is not spoken of -/
theorem fn_bad {P : Program} {w : World} {K : PySem.W.Frag} {mg : Str → Option Value} {base : Heap} {CX : CXT} {g : Wd} {f : Addr} {fd : FuncData} {ps : List Str} (k : Nat) : FnOk P w K mg base CX k f fd ps (spD g ps.length fun _ _ => .bad) :=
  ⟨fun vs H Q E h => h.1, fun A outer s H args us vs Q E hr e0 hb hv ⟨_, _, _, _, _, _, q⟩ => q.elim⟩
/-! ### isinstance by a table -/
abbrev IsiTab := List ((Tg × Tg) × Bool)
def isiOf (tab : IsiTab) (t c : Tg) : Option Bool := (tab.find? fun e => decide (e.1.1 = t ∧ e.1.2 = c)).map (·.2)
theorem isiOf_mem {tab : IsiTab} {t c : Tg} {b : Bool} (h : isiOf tab t c = some b) : ((t, c), b) ∈ tab := by
  unfold isiOf at h
  cases hf : tab.find? fun e => decide (e.1.1 = t ∧ e.1.2 = c) with
  | none => rw [hf] at h; cases h
  | some e =>
    rw [hf] at h; cases h
    have h1 := List.find?_some hf
    have h2 := List.mem_of_find?_eq_some hf
    simp only [decide_eq_true_eq] at h1
    obtain ⟨⟨t', c'⟩, b'⟩ := e
    obtain ⟨rfl, rfl⟩ := h1
    exact h2
def bltTab : IsiTab := (["NoneType", "bool", "int", "str", "tuple", "list", "dict"].flatMap fun a => ["int", "bool", "str", "tuple", "list", "dict"].map fun b => ((Sum.inl a, Sum.inl b), a == b || (a == "bool" && b == "int")))
theorem blt_ok (K : PySem.W.Frag) (g : Wd) : ∀ e ∈ bltTab, PySem.W.kitOne K (tagV g e.1.1) (tagV g e.1.2) = some e.2 := by
  intro e he
  simp only [bltTab, List.flatMap_cons, List.flatMap_nil, List.map_cons, List.map_nil, List.cons_append, List.nil_append, List.append_nil, List.mem_cons, List.not_mem_nil, or_false] at he
  rcases he with rfl | rfl | rfl | rfl | rfl | rfl | rfl | rfl | rfl | rfl | rfl | rfl | rfl | rfl | rfl | rfl | rfl | rfl | rfl | rfl | rfl | rfl | rfl | rfl | rfl | rfl | rfl | rfl | rfl | rfl | rfl | rfl | rfl | rfl | rfl | rfl | rfl | rfl | rfl | rfl | rfl | rfl
  all_goals first | rfl | (exact kit_ty (by decide +kernel))
end T2
namespace T2
open PySem L2
/-! ### what the written part says -/
end T2
namespace T2
open PySem L2
/-! ### the law -/
def spLaw (K : PySem.W.Frag) : Sp := fun vs H Q _ => ∃ (a : Addr) (ns : List Int), vs = [.ref a] ∧ ns.length ≤ 63 ∧ SqL K H a (ns.map V.int) ∧ ∀ H', Q (.bl true) H'
theorem reps_ints {g : Wd} {F : List Addr} {H : Hp} : ∀ ns : List Int, Reps g F H (ns.map D.int) (ns.map V.int)
  | [] => .nil
  | n :: ns => .cons (.int n) (reps_ints ns)
theorem sp_of_true {K : PySem.W.Frag} {ad : Nat → Addr} {m : List D → MH → Res D} (h : ∀ ns : List Int, ns.length ≤ 63 → ∃ M', m [.fro (ns.map D.int)] [] = .ok (.bl true) M') {vs : List V} {H : Hp} {Q : VK} {E : XK} (hs : spLaw K vs H Q E) : spD ⟨K, ad⟩ 1 m vs H Q E := by
  obtain ⟨a, ns, rfl, hl, hS, hq⟩ := hs
  obtain ⟨M', hm⟩ := h ns hl
  refine ⟨rfl, [], [], [.fro (ns.map D.int)], ⟨rfl, List.nodup_nil, fun n a o e => by simp at e⟩, .cons (.fro (vs := ns.map V.int) ?_ (reps_ints ns)) .nil, ?_⟩
  · rcases hS with (h1 | h1) | h1
    · exact .inl ⟨h1, by simp⟩
    · exact .inr (.inl h1)
    · exact .inr (.inr h1)
  · rw [hm]
    intro F' H' v gr R r
    cases r
    exact hq H'
theorem no_exc {P : Program} {w : World} {H : Hp} {s : Shared} {e : Value} {s' : Shared} (h : L2N.CX P w [] H s (fun _ _ _ => False) e s') : False := by
  obtain ⟨_, _, _, _, _, _, _, _, _, _, _, _, z⟩ := h
  exact z
end T2
namespace T2
open PySem L2

/-! ### running the shallow functions -/
/-! ### the law's box of draws -/
structure Bx where
  ns : List Int
  i : Int
  c : Int
  k : Int
  f : Int
def Bx.obj (s : Bx) : MO := .lst [.fro (s.ns.map D.int), .int s.i, .int s.c, .int s.k, .int s.f]
structure BxOk (s : Bx) : Prop where
  i0 : 0 ≤ s.i
/-- the box stands at b -/
def BoxAt (M : MH) (b : Nat) (s : Bx) : Prop := M[b]? = some s.obj ∧ BxOk s
abbrev drawB : SM :=
    sSeq (sIf (bVal (eBin dEq (eBin dIxA (eVar 0) (eC (.int 3))) (eC (.int 0))))
    (sSeq (sIf (bVal (eBin dGe (eBin dIxA (eVar 0) (eC (.int 1))) (eArgs dLen (eCons (eBin dIxA (eVar 0) (eC (.int 0))) (eNil)))))
    (sRet (eC (.int 0)))
    (sNil))
    (sSeq (sSetIx dSetIx (eVar 0) (eC (.int 2)) (eArgs dAbs (eCons (eArgs dInt (eCons (eBin dIxA (eBin dIxA (eVar 0) (eC (.int 0))) (eBin dIxA (eVar 0) (eC (.int 1)))) (eNil))) (eNil))))
    (sSeq (sSetIx dSetIx (eVar 0) (eC (.int 1)) (eBin dAdd (eBin dIxA (eVar 0) (eC (.int 1))) (eC (.int 1))))
    (sSeq (sSetIx dSetIx (eVar 0) (eC (.int 4)) (eArgs dInt (eCons (eBin dGe (eBin dIxA (eVar 0) (eC (.int 2))) (eBin dPow (eC (.int 10)) (eC (.int 18)))) (eNil))))
    (sSetIx dSetIx (eVar 0) (eC (.int 3)) (eBin dAdd (eC (.int 12)) (eBin dMul (eC (.int 48)) (eBin dIxA (eVar 0) (eC (.int 4)))))))))) 
    (sNil))
    (sSeq (sSetIx dSetIx (eVar 0) (eC (.int 3)) (eBin dSub (eBin dIxA (eVar 0) (eC (.int 3))) (eC (.int 1))))
    (sSeq (sIf (bVal (eBin dEq (eBin dIxA (eVar 0) (eC (.int 4))) (eC (.int 1))))
    (sSeq (sSet 2 (eBin dMod (eArgs dInt (eCons (eBin dIxA (eVar 0) (eC (.int 2))) (eNil))) (eVar 1)))
    (sSeq (sSetIx dSetIx (eVar 0) (eC (.int 2)) (eBin dDiv (eArgs dInt (eCons (eBin dIxA (eVar 0) (eC (.int 2))) (eNil))) (eVar 1)))
    (sSeq (sIf (bVal (eBin dEq (eBin dIxA (eVar 0) (eC (.int 2))) (eC (.int 0))))
    (sSetIx dSetIx (eVar 0) (eC (.int 3)) (eC (.int 0)))
    (sNil))
    (sRet (eVar 2)))))
    (sNil))
    (sSeq (sSet 3 (eBin dMod (eArgs dInt (eCons (eBin dAdd (eBin dAdd (eBin dMul (eArgs dInt (eCons (eBin dIxA (eVar 0) (eC (.int 2))) (eNil))) (eC (.int 48271))) (eBin dMul (eBin dIxA (eVar 0) (eC (.int 3))) (eC (.int 69621)))) (eC (.int 13))) (eNil))) (eC (.int 2147483647))))
    (sSeq (sSet 3 (eBin dMod (eArgs dInt (eCons (eBin dAdd (eBin dAdd (eBin dMul (eVar 3) (eC (.int 16807))) (eBin dMul (eBin dIxA (eVar 0) (eC (.int 3))) (eC (.int 40692)))) (eC (.int 7))) (eNil))) (eC (.int 2147483629))))
    (sRet (eBin dMod (eArgs dInt (eCons (eVar 3) (eNil))) (eVar 1)))))))
def drawM : List D → MH → Res D := fnB 4 drawB
/-- an item of a list that stands there -/
theorem ix_lst {M : MH} {b : Nat} {ds : List D} {i : Int} {d : D} (h : M[b]? = some (.lst ds)) (ha : atI ds i = some d) : dIxA (.ref b) (.int i) M = .ok d M := by
  simp only [dIxA, dIx, items, h, ha]
theorem ix_fro {M : MH} {ds : List D} {i : Int} {d : D} (ha : atI ds i = some d) : dIxA (.fro ds) (.int i) M = .ok d M := by
  unfold dIxA dIx items
  dsimp only
  rw [ha]
theorem eq_int {i j : Int} {M : MH} : dEq (.int i) (.int j) M = .ok (.bl (i == j)) M := by
  unfold dEq
  simp [toP, toPa, SeqAt.shaped, PyData.canLay0, PyData.depth, PyData.eqv]
theorem eq_str {i j : Str} {M : MH} (h1 : PyData.strOk i = true) (h2 : PyData.strOk j = true) : dEq (.str i) (.str j) M = .ok (.bl (i == j)) M := by
  unfold dEq
  simp [toP, toPa, SeqAt.shaped, PyData.canLay0, PyData.depth, PyData.eqv, h1, h2]

theorem atI_0 {A : Type} {x : A} {l : List A} : atI (x :: l) 0 = some x := by unfold atI ixN; simp
theorem atI_1 {A : Type} {x y : A} {l : List A} : atI (x :: y :: l) 1 = some y := atI_nat (j := 1) rfl
theorem atI_2 {A : Type} {x y z : A} {l : List A} : atI (x :: y :: z :: l) 2 = some z := atI_nat (j := 2) rfl
theorem atI_3 {A : Type} {x y z u : A} {l : List A} : atI (x :: y :: z :: u :: l) 3 = some u := atI_nat (j := 3) rfl
theorem atI_4 {A : Type} {x y z u v : A} {l : List A} : atI (x :: y :: z :: u :: v :: l) 4 = some v := atI_nat (j := 4) rfl
theorem bx_self {M : MH} {b : Nat} {s : Bx} (h : M[b]? = some s.obj) : M.set b s.obj = M := by
  obtain ⟨hl, he⟩ := List.getElem?_eq_some_iff.mp h
  rw [← he]; exact List.set_getElem_self hl
section
variable {M : MH} {b : Nat} {s : Bx} {v : Int} (hb : b < M.length)
include hb
theorem bx_at : (M.set b s.obj)[b]? = some (.lst [.fro (s.ns.map D.int), .int s.i, .int s.c, .int s.k, .int s.f]) := List.getElem?_set_self hb
theorem bg0 : dIxA (.ref b) (.int 0) (M.set b s.obj) = .ok (.fro (s.ns.map D.int)) (M.set b s.obj) := ix_lst (bx_at hb) atI_0
theorem bg1 : dIxA (.ref b) (.int 1) (M.set b s.obj) = .ok (.int s.i) (M.set b s.obj) := ix_lst (bx_at hb) atI_1
theorem bg2 : dIxA (.ref b) (.int 2) (M.set b s.obj) = .ok (.int s.c) (M.set b s.obj) := ix_lst (bx_at hb) atI_2
theorem bg3 : dIxA (.ref b) (.int 3) (M.set b s.obj) = .ok (.int s.k) (M.set b s.obj) := ix_lst (bx_at hb) atI_3
theorem bg4 : dIxA (.ref b) (.int 4) (M.set b s.obj) = .ok (.int s.f) (M.set b s.obj) := ix_lst (bx_at hb) atI_4
theorem bs1 : dSetIx (.ref b) (.int 1) (.int v) (M.set b s.obj) = some (M.set b { s with i := v }.obj) := by unfold dSetIx; dsimp only; rw [bx_at hb]; show some ((M.set b _).set b _) = _; rw [List.set_set]; rfl
theorem bs2 : dSetIx (.ref b) (.int 2) (.int v) (M.set b s.obj) = some (M.set b { s with c := v }.obj) := by unfold dSetIx; dsimp only; rw [bx_at hb]; show some ((M.set b _).set b _) = _; rw [List.set_set]; rfl
theorem bs3 : dSetIx (.ref b) (.int 3) (.int v) (M.set b s.obj) = some (M.set b { s with k := v }.obj) := by unfold dSetIx; dsimp only; rw [bx_at hb]; show some ((M.set b _).set b _) = _; rw [List.set_set]; rfl
theorem bs4 : dSetIx (.ref b) (.int 4) (.int v) (M.set b s.obj) = some (M.set b { s with f := v }.obj) := by unfold dSetIx; dsimp only; rw [bx_at hb]; show some ((M.set b _).set b _) = _; rw [List.set_set]; rfl
end
theorem atI_of {A : Type} {l : List A} {i : Int} (h0 : 0 ≤ i) (h1 : i < l.length) : ∃ x, atI l i = some x ∧ x ∈ l := by
  unfold atI ixN
  rw [if_pos h0, if_pos h1]
  have hl : i.toNat < l.length := by omega
  exact ⟨l[i.toNat], by simp [hl], List.getElem_mem hl⟩
theorem len_fro {ds : List D} {M : MH} : dLen [.fro ds] M = .ok (.int ds.length) M := rfl
/-- the second half of a draw -/
abbrev drawB2 : SM := (sSeq (sSetIx dSetIx (eVar 0) (eC (.int 3)) (eBin dSub (eBin dIxA (eVar 0) (eC (.int 3))) (eC (.int 1))))
    (sSeq (sIf (bVal (eBin dEq (eBin dIxA (eVar 0) (eC (.int 4))) (eC (.int 1))))
    (sSeq (sSet 2 (eBin dMod (eArgs dInt (eCons (eBin dIxA (eVar 0) (eC (.int 2))) (eNil))) (eVar 1)))
    (sSeq (sSetIx dSetIx (eVar 0) (eC (.int 2)) (eBin dDiv (eArgs dInt (eCons (eBin dIxA (eVar 0) (eC (.int 2))) (eNil))) (eVar 1)))
    (sSeq (sIf (bVal (eBin dEq (eBin dIxA (eVar 0) (eC (.int 2))) (eC (.int 0))))
    (sSetIx dSetIx (eVar 0) (eC (.int 3)) (eC (.int 0)))
    (sNil))
    (sRet (eVar 2)))))
    (sNil))
    (sSeq (sSet 3 (eBin dMod (eArgs dInt (eCons (eBin dAdd (eBin dAdd (eBin dMul (eArgs dInt (eCons (eBin dIxA (eVar 0) (eC (.int 2))) (eNil))) (eC (.int 48271))) (eBin dMul (eBin dIxA (eVar 0) (eC (.int 3))) (eC (.int 69621)))) (eC (.int 13))) (eNil))) (eC (.int 2147483647))))
    (sSeq (sSet 3 (eBin dMod (eArgs dInt (eCons (eBin dAdd (eBin dAdd (eBin dMul (eVar 3) (eC (.int 16807))) (eBin dMul (eBin dIxA (eVar 0) (eC (.int 3))) (eC (.int 40692)))) (eC (.int 7))) (eNil))) (eC (.int 2147483629))))
    (sRet (eBin dMod (eArgs dInt (eCons (eVar 3) (eNil))) (eVar 1)))))))
theorem draw2 {M : MH} {b : Nat} {s : Bx} {n : Int} (hb : b < M.length) (hi : BxOk s) (h1 : 0 < n) (h2 : n < 1073741824) : ∃ r s', toR (drawB2 [some (.ref b), some (.int n), none, none] (M.set b s.obj)) = .ok (.int r) (M.set b s'.obj) ∧ 0 ≤ r ∧ r < n ∧ BxOk s' := by
  have hm : ∀ x : Int, 0 ≤ x % n ∧ x % n < n := fun x => ⟨Int.emod_nonneg _ (by omega), Int.emod_lt_of_pos _ h1⟩
  simp only [drawB2, sSeq, sSetIx, sIf, sSet, sRet, sNil, bVal, eBin, eVar, eC, eArgs, eCons, eNil, Res.bind, Res.toS, Res.toSB, asB, dSub, bg3 hb, bs3 hb, bg4 hb, List.getElem?_cons_zero, List.getElem?_cons_succ, eq_int]
  by_cases hf : s.f = 1
  · simp only [hf, beq_self_eq_true, if_true, bg2 hb, dInt, dMod, h1, if_true, List.set_cons_succ, List.set_cons_zero, List.getElem?_cons_zero, List.getElem?_cons_succ, dDiv, h2, and_self, bs2 hb, eq_int]
    by_cases hz : s.c / n = 0
    · simp only [hz, beq_self_eq_true, if_true, bs3 hb, toR]
      exact ⟨_, _, rfl, (hm _).1, (hm _).2, ⟨hi.i0⟩⟩
    · simp only [show (s.c / n == 0) = false by simp [hz], Bool.false_eq_true, if_false, toR]
      exact ⟨_, _, rfl, (hm _).1, (hm _).2, ⟨hi.i0⟩⟩
  · simp only [show (s.f == 1) = false by simp [hf], Bool.false_eq_true, if_false, bg2 hb, bg3 hb, dInt, dMul, dAdd, dMod, h1, if_true, List.set_cons_succ, List.set_cons_zero, List.getElem?_cons_zero, List.getElem?_cons_succ, show (-(2 ^ 64) < (48271 : Int) ∧ (48271 : Int) < 2 ^ 64) by decide, show (-(2 ^ 64) < (69621 : Int) ∧ (69621 : Int) < 2 ^ 64) by decide, show (-(2 ^ 64) < (16807 : Int) ∧ (16807 : Int) < 2 ^ 64) by decide, show (-(2 ^ 64) < (40692 : Int) ∧ (40692 : Int) < 2 ^ 64) by decide, and_self, or_true, show (0 : Int) < 2147483647 by decide, show (0 : Int) < 2147483629 by decide, toR]
    exact ⟨_, _, rfl, (hm _).1, (hm _).2, ⟨hi.i0⟩⟩
/-- a draw: a number below the size, and the box goes on -/
theorem draw_spec {M : MH} {b : Nat} {s : Bx} {n : Int} (h : BoxAt M b s) (h1 : 0 < n) (h2 : n < 1073741824) : ∃ r s', drawM [.ref b, .int n] M = .ok (.int r) (M.set b s'.obj) ∧ 0 ≤ r ∧ r < n ∧ BxOk s' := by
  obtain ⟨hM, hi⟩ := h
  have hb : b < M.length := (List.getElem?_eq_some_iff.mp hM).1
  have e0 := bx_self hM
  rw [← e0]
  show ∃ (r : Int) (s' : Bx), toR (sSeq _ drawB2 [some (.ref b), some (.int n), none, none] (M.set b s.obj)) = .ok (.int r) ((M.set b s.obj).set b s'.obj) ∧ _
  simp only [List.set_set]
  have fin : ∀ s1 : Bx, BxOk s1 → ∀ X : SR, X = .nx [some (.ref b), some (.int n), none, none] (M.set b s1.obj) → ∃ r s', toR (match X with | .nx e1 M1 => drawB2 e1 M1 | r => r) = .ok (.int r) (M.set b s'.obj) ∧ 0 ≤ r ∧ r < n ∧ BxOk s' := by
    intro s1 h X hX
    rw [hX]
    exact draw2 hb h h1 h2
  by_cases hk : s.k = 0
  · by_cases hl : (s.ns.length : Int) ≤ s.i
    · refine ⟨0, s, ?_, by omega, by omega, hi⟩
      simp only [sSeq, sSetIx, sIf, sSet, sRet, sNil, bVal, eBin, eVar, eC, eArgs, eCons, eNil, Res.bind, Res.toS, Res.toSB, asB, bg3 hb, bg1 hb, bg0 hb, List.getElem?_cons_zero, eq_int, hk, beq_self_eq_true, if_true, len_fro, dGe, dCmpI, List.length_map, decide_eq_true hl, toR]
    · obtain ⟨x, hx, hxm⟩ := atI_of (l := s.ns.map D.int) hi.i0 (by rw [List.length_map]; omega)
      obtain ⟨y, _, rfl⟩ := List.mem_map.mp hxm
      refine fin ⟨s.ns, s.i + 1, if y < 0 then -y else y, 12 + 48 * (if (10 : Int) ^ 18 ≤ (if y < 0 then -y else y) then 1 else 0), if (10 : Int) ^ 18 ≤ (if y < 0 then -y else y) then 1 else 0⟩ ⟨by have := hi.i0; show 0 ≤ s.i + 1; omega⟩ _ ?_
      simp only [sSeq, sSetIx, sIf, sSet, sRet, sNil, bVal, eBin, eVar, eC, eArgs, eCons, eNil, Res.bind, Res.toS, Res.toSB, asB, bg3 hb, bg1 hb, bg0 hb, List.getElem?_cons_zero, eq_int, hk, beq_self_eq_true, if_true, len_fro, dGe, dCmpI, List.length_map, decide_eq_false hl, Bool.false_eq_true, if_false, ix_fro hx, dInt, dAbs, bs2 hb, dAdd, bs1 hb, bg2 hb, dPow, show (0 : Int) ≤ 18 ∧ (18 : Int) ≤ 1000000 ∧ (10 : Int).natAbs < 2 ^ 64 by decide, show (18 : Int).toNat = 18 by rfl, bs4 hb, bg4 hb, dMul, show (-(2 ^ 64) < (48 : Int) ∧ (48 : Int) < 2 ^ 64) by decide, and_self, true_or, bs3 hb]
      simp only [decide_eq_true_eq]
  · refine fin s hi _ ?_
    simp only [sIf, sNil, bVal, eBin, eVar, eC, Res.bind, Res.toSB, asB, bg3 hb, List.getElem?_cons_zero, eq_int, show (s.k == 0) = false by simp [hk], Bool.false_eq_true, if_false]
end T2
namespace T2
open PySem L2 PyProof.Rows

/-! ### operators of an own class -/
def tOwn2 (C : Addr) (sp : Sp) (E : L2.St → XK) (ta tb : TE) : TE := fun σ H Q => ta σ H fun x H1 => tb σ H1 fun y H2 => ∃ a b dx dy fs gs, x = .ref a ∧ y = .ref b ∧ H2 a = some (.ins C dx fs) ∧ H2 b = some (.ins C dy gs) ∧ sp [x, y] H2 Q (E σ)
def tOwn1 (C : Addr) (sp : Sp) (E : L2.St → XK) (ta : TE) : TE := fun σ H Q => ta σ H fun x H1 => ∃ a dx fs, x = .ref a ∧ H1 a = some (.ins C dx fs) ∧ sp [x] H1 Q (E σ)
section
variable {X : Cx} {CX : CXT} {k : Nat} {f C : Addr} {fd : FuncData} {ps : List Str} {sp : Sp} {E : L2.St → XK} {x m : Str} {p pos apos : Pos} {a b e o : Expr} {es : List Expr} {ta tb : TE} {t : TA}
theorem not_ni {pins : List (Addr × Obj)} {σ : L2.St} {Q : VK} {v : Value} {s : Shared} (h : EP X pins σ Q v s) : PySem.W.CmpBack (EP X pins σ Q) v s := by
  obtain ⟨y, H', I', ry, qy⟩ := h
  cases v <;> first | exact ⟨y, H', I', ry, qy⟩ | (cases y <;> first | exact ry.elim | (obtain ⟨_, hz⟩ := ry; cases hz) | cases ry)
theorem pe_own2S {op : Operator} (ha : PE X a ta) (hb' : PE X b tb) (hc : PySem.W.selfFirst X.K C = true) (hs : PySem.W.findIn X.K (.ref C) (PySem.dunder op.info.2) = some (some (.ref f))) (hf : PySem.W.isFn X.K (.ref f) = true)
    (G : FnOk X.prog X.w X.K X.mg X.base CX k f fd ps sp) (hr : Room k X.A) (hb : Binds X.K fd ps []) (hx : ∀ σ, PassesAt CX X σ (E σ)) : PE X (.BinOp a op b pos) (tOwn2 C sp E ta tb) := by
  refine ⟨fun pins s σ H Q I h => wpAny_BinOp (binT ha hb' I h fun v u s2 x y H2 I2 rx ry q => ?_)⟩
  obtain ⟨p, r, dx, dy, fs, gs, rfl, rfl, e1, e2, q⟩ := q
  obtain rfl : v = Value.ref p := rx
  obtain rfl : u = Value.ref r := ry
  obtain ⟨mA, J, _⟩ := ins_get I2.hok e1
  obtain ⟨mB, J', _⟩ := ins_get I2.hok e2
  obtain ⟨od, J, _⟩ := J.look
  obtain ⟨od', J', _⟩ := J'.look
  obtain ⟨m, hF⟩ := I2.fr
  exact PySem.W.binop_K hF I2.ok.mod.kin J J'.type hc hs hf (wpAny_mono (run_fnSD (dvs := []) (ds := []) (us := [.ref p, .ref r]) (vs := [.ref p, .ref r]) G hr hb .nil (hx σ) I2 (.cons rfl (.cons rfl .nil)) (by simpa using q)) (fun v s' z => not_ni z) fun _ _ e => e)
theorem pe_invS (ha : PE X a ta) (hs : PySem.W.findIn X.K (.ref C) "__invert__" = some (some (.ref f))) (hf : PySem.W.isFn X.K (.ref f) = true)
    (G : FnOk X.prog X.w X.K X.mg X.base CX k f fd ps sp) (hr : Room k X.A) (hb : Binds X.K fd ps []) (hx : ∀ σ, PassesAt CX X σ (E σ)) : PE X (.UnaryOp .Invert a pos) (tOwn1 C sp E ta) := by
  refine ⟨fun pins s σ H Q I h => UnaryOp_ (thn (ha.run pins s σ H _ I h) fun v s1 ⟨x, H1, I1, r1, q⟩ => ?_)⟩
  obtain ⟨p, dx, fs, rfl, e1, q⟩ := q
  obtain rfl : v = Value.ref p := r1
  obtain ⟨mA, J, _⟩ := ins_get I1.hok e1
  obtain ⟨od, J, _⟩ := J.look
  obtain ⟨m, hF⟩ := I1.fr
  exact PySem.W.ksp_inv hF I1.ok.mod.kin J hs hf (run_fnSD (dvs := []) (ds := []) (us := [.ref p]) (vs := [.ref p]) G hr hb .nil (hx σ) I1 (.cons rfl .nil) (by simpa using q))
/-- C.m(..), m a staticmethod -/
structure SMet (K : PySem.W.Frag) (C : Addr) (m : Str) (q f : Addr) : Prop where
  tp : PySem.W.typeIn K (.ref C) = some (.type "type")
  rd : PySem.W.readsIn K C (.type "type") = true
  ga : PySem.W.specialIn K (.ref C) "__getattribute__" = some (some (.builtin "type.__getattribute__"))
  at_ : PySem.W.findCls K (.ref C) (.type "type") m = some (.get (.builtin "staticmethod.__get__") (.ref q) .none (.ref C))
  rc : ∃ rest, PySem.W.recIn K q "staticmethod" = some (.ref f :: rest)
  kp : PySem.W.keepIn K (.ref f) = true
def tSMetS (C : Addr) (sp : Sp) (E : L2.St → XK) (ta : TE) (t : TA) : TE := fun σ H Q => ta σ H fun x H1 => x = .ref C ∧ t σ H1 fun vs H2 => sp vs H2 Q (E σ)
theorem pe_smS {pl : Sem Bool} {q : Addr} (he : PE X o ta) (c : SMet X.K C m q f) (G : FnOk X.prog X.w X.K X.mg X.base CX k f fd ps sp) (hr : Room k X.A) (hb : Binds X.K fd ps []) (hx : ∀ σ, PassesAt CX X σ (E σ)) (ha : PA X (e :: es) t)
    (hst : starEach (e :: es) X.env = (false, eval e X.env) :: starEach es X.env) (hpl : (backTo pos (starEach es X.env)).any (·.1) = false)
    (ht : eval (.Call (.Attribute o m apos) (e :: es) [] pos) X.env = (do let ov ← eval o X.env; standAt apos.atName; let (f, first) ← holding [ov] (getMethod ov m pl); callWith pos f first (backTo pos (starEach (e :: es) X.env)) (backToKw pos (keywordEach [] X.env)))) :
    PE X (.Call (.Attribute o m apos) (e :: es) [] pos) (tSMetS C sp E ta t) := by
  refine ⟨fun pins s σ H Q I h => PySem.W.methodCall_KW (pl := pl) (thn (he.run pins s σ H _ I h) ?_) ht⟩
  rintro u s1 ⟨y, H1, I1, rx, rfl, q⟩
  obtain rfl : u = Value.ref C := rx
  obtain ⟨rest, hrec⟩ := c.rc
  obtain ⟨mm, hF⟩ := I1.fr
  refine PySem.W.method_of_cls hF I1.ok.mod.kin c.ga (PySem.W.cls_sm hF I1.ok.mod.kin c.tp c.rd c.at_ hrec rfl ?_)
  have I2 := I1.tok (s1.toks + 1)
  refine PySem.W.callWith_K (first := []) (h₀ := X.base) I.ok.mod.kin c.kp (thn (ha.run pos pins _ σ H1 _ I2 q) ?_) hst hpl
  rintro us s2 ⟨vs, H2, I3, r, q2⟩
  exact ⟨I3.kIn, run_fnSD (dvs := []) (ds := []) (us := us) (vs := vs) G hr hb .nil (hx σ) I3 r (by simpa using q2)⟩
end

/-! ### .. over trees -/
def both (M : MH) (c : Nat) (x y : D) : Bool := match instOf M x, instOf M y with
  | some (c1, _, _), some (c2, _, _) => decide (c1 = c ∧ c2 = c)
  | _, _ => false
def eOwn2 (c : Nat) (f : List D → MH → Res D) (a b : EM) : EM := fun e M => (a e M).bind fun x M1 => (b e M1).bind fun y M2 => if both M2 c x y = true then f [x, y] M2 else .bad
def eOwn1 (c : Nat) (f : List D → MH → Res D) (a : EM) : EM := fun e M => (a e M).bind fun x M1 => match instOf M1 x with
  | some (c1, _, _) => if c1 = c then f [x] M1 else .bad
  | none => .bad
/-- an outcome that is no exception -/
def okR (r : Res D) : Res D := match r with
  | .ok d M => .ok d M
  | _ => .bad
/-- o.f, f a property -/
def eProp (c : Nat) (f : List D → MH → Res D) (a : EM) : EM := eOwn1 c (fun ds M => okR (f ds M)) a
/-- C.m(..), m a staticmethod -/
def eStat (c n : Nat) (f : List D → MH → Res D) (a : AM) : EM := eArgs (fun ds M => if ds.length = n then f ds M else .bad) a
section
variable {X : Cx} {g : Wd} {W : WY} {a b o : Expr} {pos p apos : Pos} {m1 m2 : EM} {ma : AM} {es : List Expr} {k n : Nat} {f C : Addr} {fd : FuncData} {ps : List Str} {m : List D → MH → Res D} {x mn : Str} {c : Nat}
theorem own2_imp {σ : L2.St} {H : Hp} {Q : VK} (q : tD g W (eOwn2 c m m1 m2) σ H Q) : tOwn2 (g.ca c) (spD g 2 m) (WE W.w) (tD g W m1) (tD g W m2) σ H Q := by
  obtain ⟨F, e, M, RS, q⟩ := q
  refine ⟨F, e, M, RS, q.bind fun x M1 F1 H1 v e1 g1 R1 rx q1 => ?_⟩
  refine ⟨F1, e, M1, RS.up g1 R1, q1.bind fun y M2 F2 H2 u e2 g2 R2 ry q2 => ?_⟩
  split at q2
  · rename_i hb
    have rx2 := rx.mono g2 R1.good
    unfold both at hb
    split at hb
    · rename_i c1 ns1 ds1 c2 ns2 ds2 h1 h2
      obtain ⟨rfl, rfl⟩ := of_decide_eq_true hb
      obtain ⟨a, dx, vs, rfl, ha, hl, r⟩ := inst_at R2 rx2 h1
      obtain ⟨b, dy, us, rfl, hb', hl', r'⟩ := inst_at R2 ry h2
      exact ⟨a, b, dx, dy, _, _, rfl, rfl, ha, hb', rfl, F2, M2, [x, y], R2, .cons rx2 (.cons ry .nil), post_call q2⟩
    · cases hb
  · exact q2.elim
theorem own1_imp {σ : L2.St} {H : Hp} {Q : VK} (q : tD g W (eOwn1 c m m1) σ H Q) : tOwn1 (g.ca c) (spD g 1 m) (WE W.w) (tD g W m1) σ H Q := by
  obtain ⟨F, e, M, RS, q⟩ := q
  refine ⟨F, e, M, RS, q.bind fun x M1 F1 H1 v e1 g1 R1 rx q1 => ?_⟩
  split at q1
  · rename_i c1 ns1 ds1 h1
    split at q1
    · rename_i hc
      subst hc
      obtain ⟨a, dx, vs, rfl, ha, hl, r⟩ := inst_at R1 rx h1
      exact ⟨a, dx, _, rfl, ha, rfl, F1, M1, [x], R1, .cons rx .nil, post_call q1⟩
    · exact q1.elim
  · exact q1.elim
theorem de_own2 {op : Operator} (ha : PE X a (tD g W m1)) (hb' : PE X b (tD g W m2)) (hc : PySem.W.selfFirst X.K (g.ca c) = true) (hs : PySem.W.findIn X.K (.ref (g.ca c)) (PySem.dunder op.info.2) = some (some (.ref f))) (hf : PySem.W.isFn X.K (.ref f) = true)
    (G : FnOk X.prog X.w X.K X.mg X.base (L2N.CX X.prog X.w) k f fd ps (spD g 2 m)) (hr : Room k X.A) (tk : L2N.Takes X W.w) (hb : Binds X.K fd ps []) : PE X (.BinOp a op b pos) (tD g W (eOwn2 c m m1 m2)) :=
  pe_imp (pe_own2S ha hb' hc hs hf G hr hb (fun σ => L2N.passAt tk σ)) fun σ H Q q => own2_imp q
theorem de_inv (ha : PE X a (tD g W m1)) (hs : PySem.W.findIn X.K (.ref (g.ca c)) "__invert__" = some (some (.ref f))) (hf : PySem.W.isFn X.K (.ref f) = true)
    (G : FnOk X.prog X.w X.K X.mg X.base (L2N.CX X.prog X.w) k f fd ps (spD g 1 m)) (hr : Room k X.A) (tk : L2N.Takes X W.w) (hb : Binds X.K fd ps []) : PE X (.UnaryOp .Invert a pos) (tD g W (eOwn1 c m m1)) :=
  pe_imp (pe_invS ha hs hf G hr hb (fun σ => L2N.passAt tk σ)) fun σ H Q q => own1_imp q
theorem de_sm {pl : Sem Bool} {q : Addr} (cs : SMet X.K (g.ca c) mn q f) (gC : X.mg x = some (.ref (g.ca c))) (G : FnOk X.prog X.w X.K X.mg X.base (L2N.CX X.prog X.w) k f fd ps (spD g n m)) (hr : Room k X.A) (tk : L2N.Takes X W.w) (hb : Binds X.K fd ps []) (ha : PA X (a :: es) (tA g W ma)) (hgx : Gl X x := by rfl) (hdx : (x == ("__debug__" : Str)) = false := by decide)
    (hst : starEach (a :: es) X.env = (false, eval a X.env) :: starEach es X.env := by rfl) (hpl : (backTo pos (starEach es X.env)).any (·.1) = false := by rfl)
    (ht : eval (.Call (.Attribute (.Name x p) mn apos) (a :: es) [] pos) X.env = (do let ov ← eval (.Name x p) X.env; standAt apos.atName; let (f, first) ← holding [ov] (getMethod ov mn pl); callWith pos f first (backTo pos (starEach (a :: es) X.env)) (backToKw pos (keywordEach [] X.env))) := by rfl) :
    PE X (.Call (.Attribute (.Name x p) mn apos) (a :: es) [] pos) (tD g W (eStat c n m ma)) :=
  pe_imp (pe_smS (pe_glob (v := .ref (g.ca c)) hgx gC rfl hdx) cs G hr hb (fun σ => L2N.passAt tk σ) ha hst hpl ht) fun σ H Q ⟨F, e, M, RS, q⟩ => ⟨rfl, F, e, M, RS, q.bind fun ds M1 F1 H1 vs e1 g1 R1 rs q1 => by
    split at q1
    · rename_i hl
      exact ⟨by rw [← rs.length]; exact hl, F1, M1, ds, R1, rs, post_call q1⟩
    · exact q1.elim⟩
/-- what is not reached -/
def eBad : EM := fun _ _ => .bad
theorem de_bad {e : Expr} : PE X e (tD g W eBad) := ⟨fun pins s σ H Q I ⟨F, e, M, RS, q⟩ => q.elim⟩
end

/-! ### != where the class has == alone; bool(x) by an own __bool__ -/
section
variable {prog : Program} {w : World} {A : Around} {E : Value → Shared → Prop} {s : Shared} {K : PySem.W.Frag} {x C L f y : Addr} {h₀ : Heap} {m : Str → Option Value} {ox : Obj} {od : Option Obj} {name : Str} {b tb : Value}
end
end T2
namespace T2
open PySem L2 PyProof.Rows
/-! ### .. as readings -/
section
variable {X : Cx} {CX : CXT} {k : Nat} {f C : Addr} {fd : FuncData} {ps : List Str} {sp : Sp} {E : L2.St → XK} {x m : Str} {p pos apos : Pos} {a b e o : Expr} {es : List Expr} {ta tb : TE} {t : TA}
end
section
variable {X : Cx} {g : Wd} {W : WY} {a b o : Expr} {pos p apos : Pos} {m1 m2 : EM} {ma : AM} {es : List Expr} {k n : Nat} {f C : Addr} {fd : FuncData} {ps : List Str} {m : List D → MH → Res D} {x mn : Str} {c : Nat}
end
end T2
namespace T2
open PySem L2 PyProof.Rows
/-! ### t.index(x), l.index(x): texts -/
section
variable {X : Cx} {g : Wd} {W : WY} {a b o : Expr} {pos p apos : Pos} {m1 m2 : EM}
end
end T2
namespace T2
open PySem L2
/-- an __init__ of one field -/
theorem init1 {c : Nat} {f : Str} : ∀ ds M, ds.length = 2 → D.lows M.length ds → MLow M → Refines M (fnB 2 (sPutF [c] f (eVar 0) (eVar 1)) ds M) (initC c [f] ds M)
  | [x, y], M, _, _, _ => by
    unfold initC
    split
    · rename_i n xs he
      cases he
      split
      · rename_i c' hM
        split
        · rename_i hc
          obtain ⟨hx, rfl⟩ := hc
          refine .inl ?_
          simp only [fnB, env0, List.map_cons, List.map_nil, List.length_cons, List.length_nil, Nat.reduceAdd, Nat.sub_self, List.replicate, List.append_nil, sPutF, eVar, List.getElem?_cons_zero, List.getElem?_cons_succ, Res.toS, dPutF, hM, List.contains_cons, beq_self_eq_true, Bool.true_or, true_and, Nat.zero_lt_succ, and_self, if_true, putN, toR]
        · trivial
      · trivial
    · trivial
  | [], _, h, _, _ => by simp at h
  | [_], _, h, _, _ => by simp at h
  | _ :: _ :: _ :: _, _, h, _, _ => by simp at h
end T2
namespace T2
open PySem L2 PyProof.Rows

/-! ### super().__init__(..) in an own exception over ValueError -/
section
variable {prog : Program} {w : World} {A : Around} {E : Value → Shared → Prop} {h : Heap} {g : Array GenState} {d : Drawn} {t : Nat} {os : OsState} {nm q : Str} {C N : Addr} {bs bm : List Value} {hdct : Bool} {sn : List Str} {sub : List Value} {ab : Bool} {col : Option Bool} {dd : Option Addr} {k0 k1 k2 k3 k5 : Option Value}
/-- the bound __init__ of ValueError, called -/
theorem call_mw {u e t0 : Addr} {rest : List Value} {Q : Value → Shared → Prop} (hC : h.get? C = some (excClassObj nm q C N bs bm hdct sn sub ab col dd k0 k1 k2 k3 k5 "ValueError.__new__")) (he : h.get? e = some (HandSPX.excO C t0)) (hu : h.get? u = some (PySem.W.kxs_mw "ValueError.__init__" e)) (hz : rest.length ≤ sizeLine)
    (hq : ∀ h' t1, (∀ b o, b ≠ e → h.get? b = some o → h'.get? b = some o) → h'.get? e = some (HandSPX.excO C t1) → Q .none ⟨h', g, d, t, os⟩) : wpAny (model prog w) A (call (.ref u) rest) Q E ⟨h, g, d, t, os⟩ := by
  refine wpAny_call (codeAny_of_tree (show wpAny _ A.in1 (callAny (.ref u) ⟨rest, []⟩) _ _ _ from ?_))
  simp only [callAny]
  refine wpAny_bind (wpAny_load hu ?_)
  simp only [PySem.W.kxs_mw, show ((Value.type "method-wrapper" == Value.type "method" || Value.type "method-wrapper" == Value.type "builtin_function_or_method") || Value.type "method-wrapper" == Value.type "method-wrapper") = true by decide, if_true]
  refine W.KFB.if_so (by decide) (wpAny_bind (PySem.ESX.check_bound F.excBase_ValueError hC he rfl (wpAny_bind (wpAny_pure (wpAny_pure ?_)))))
  refine ⟨plainId_quiet F.excBase_ValueError.init.plain _, codeAny_builtin F.excBase_ValueError.initEntry ?_⟩
  rw [Around.under_plainId F.excBase_ValueError.init.plain _]
  wp_walk
  refine hq _ h.objs.size (fun b o hb ho => by rw [Heap.get?_update_other _ _ (Ne.symm hb)]; exact Heap.get?_push_of_some _ ho) ?_
  rw [Heap.get?_update_self _ (Heap.get?_push_of_some _ he) rfl]; rfl
end
theorem start_val {N : List Str} {vs : List V} {i : Nat} {v : V} (h : (L2.start N vs)[i]? = some (some v)) : vs[i]? = some v := by
  unfold L2.start at h
  rw [List.getElem?_append] at h
  split at h
  · simpa using h
  · rw [List.getElem?_replicate] at h
    split at h <;> simp at h
/-- the scope of such an __init__ -/
structure ScopeS (N ps : List Str) (sc : Scope) : Prop where
  kind : sc.kind = .function
  co : sc.isCoroutine = false
  gen : sc.isGenerator = false
  nd : N.Nodup
  pre : N.take ps.length = ps
  par : ∀ x ∈ ps, sc.names.lookup x = some .local
  nocell : ∀ y ∈ sc.names, y.2 ≠ .cell
  sup : sc.names.lookup ("super" : Str) = some .globalImplicit
  cls : sc.names.lookup ("__class__" : Str) = some .free
  free : ∀ y ∈ sc.names, y.2 = .free → y.1 = "__class__"
def cxS (CX : CXT) (P : Program) (w : World) (K : PySem.W.Frag) (mg : Str → Option Value) (base : Heap) (N : List Str) (qual : Str) (scope : Scope) (f : Addr) (cd : Value) (cc : Addr) (A : Around) (outer : List Env) (s : Shared) (H : Hp) (E : XK) : Cx where
  prog := P
  w := w
  K := K
  mg := mg
  base := base
  A := A.deeper (PySem.W.ksEnv qual scope s.heap.objs.size f cd cc)
  N := N
  s_0 := s
  H_0 := H
  env := PySem.W.ksEnv qual scope s.heap.objs.size f cd cc
  outer := outer
  stack := PySem.W.ksEnv qual scope s.heap.objs.size f cd cc :: outer
  ex := []
  calm := true
  fn := fun x => x != "__class__"
  pn := []
  xe := fun e s' => wpAny (model P w) (A.deeper (PySem.W.ksEnv qual scope s.heap.objs.size f cd cc)) (leaving (PySem.W.ksEnv qual scope s.heap.objs.size f cd cc) e) (fun _ s'' => CX outer H s E e s'') (fun e' s'' => CX outer H s E e' s'') s'
theorem look_nodup {x : Str} {u : Value} : ∀ {l : List (Str × Value)}, (l.map (·.1)).Nodup → (x, u) ∈ l → l.lookup x = some u
  | [], _, h => by simp at h
  | (y, v) :: l, nd, h => by
    rw [List.map_cons, List.nodup_cons] at nd
    rw [List.lookup_cons]
    rcases List.mem_cons.mp h with e | e
    · cases e; simp
    · have : (x == y) = false := by
        rw [beq_eq_false_iff_ne]
        rintro rfl
        exact nd.1 (List.mem_map.mpr ⟨_, e, rfl⟩)
      rw [this]
      exact look_nodup nd.2 e
theorem one_cell {c d : Addr} {x y : Str} (h : ([(y, c)] : List (Str × Addr)).lookup x = some d) : x = y ∧ c = d := by
  rw [List.lookup_cons] at h
  cases e : (x == y) with
  | true => rw [e] at h; exact ⟨beq_iff_eq.mp e, Option.some.inj h⟩
  | false => rw [e] at h; cases h
theorem inv_startS {CX : CXT} {P : Program} {w : World} {K : PySem.W.Frag} {mg : Str → Option Value} {base : Heap} {N ps : List Str} {qual : Str} {scope : Scope} {f cc : Addr} {cd : Value} {A : Around} {outer : List Env} {s : Shared} {H : Hp} {E : XK} {us : List Value} {vs : List V} {h1 : Heap} {tk : Nat} {cv : Option Value}
    (S : ScopeS N ps scope) (hd : A.handled = none) (e0 : Env0 P w K mg base A outer s H) (hl : vs.length = ps.length) (r : Vals vs us) (hc : ∃ o, K.lookup cc = some o ∧ o.data = .cell cv)
    (hns : h1.Ns s.heap.objs.size (fun x => (ps.zip us).reverse.lookup x)) (hk : ∀ b o, s.heap.get? b = some o → h1.get? b = some o) :
    Inv (cxS CX P w K mg base N qual scope f cd cc A outer s H E) [] (start N vs) H { s with heap := h1, toks := tk } := by
  have hpl : ps.length ≤ N.length := by have := congrArg List.length S.pre; rw [List.length_take] at this; omega
  have ndP : ps.Nodup := by rw [← S.pre]; exact S.nd.sublist (List.take_sublist _ _)
  obtain ⟨co, lc, dc⟩ := hc
  have bc := e0.mod.kin _ _ lc
  have sc := e0.bs _ _ bc
  have noA : ∀ b : Addr, b ∉ (cxS CX P w K mg base N qual scope f cd cc A outer s H E).ex := fun b z => absurd (show b ∈ ([] : List Addr) from z) (by simp)
  refine ⟨⟨e0.mod, S.kind, rfl, rfl, Nat.le_refl _, fun y z c h1 h2 => (one_cell h1).1.trans (one_cell h2).1.symm, fun y hy => ?_, fun y c hn h => ?_, fun _ => hd, Around.frames_deeper e0.frames, .inr ⟨rfl, rfl⟩, fun b z => absurd z (noA b), e0.bs, e0.bsz, fun b _ _ => noA b, fun b z => absurd z (noA b), e0.funs, e0.frf⟩,
    rfl, e0.bare, Un.kept hk, ⟨_, hns, fun i y v h1 h2 h3 => ?_⟩, fun y c h => ?_, e0.hok.fresh (Nat.le_refl _), fun y c h => ?_, fun p hp => absurd (show p ∈ ([] : List (Addr × Obj)) from hp) (by simp), e0.hok.kept hk, ?_⟩
  · have hy : scope.names.lookup y = some .cell ∨ scope.names.lookup y = some .free := hy
    rcases hy with hy | hy
    · exact absurd rfl (S.nocell _ (PySem.mem_of_lookup hy))
    · have : y = "__class__" := S.free _ (PySem.mem_of_lookup hy) rfl
      subst this
      exact ⟨cc, by rfl⟩
  · obtain ⟨rfl, _⟩ := one_cell h
    exact absurd (show (("__class__" : Str) != "__class__") = true from hn) (by decide)
  · have ha : vs[i]? = some v := start_val h2
    have hi : i < vs.length := (List.getElem?_eq_some_iff.mp ha).1
    obtain ⟨u, hu, rv⟩ := r.get ha
    have hp : ps[i]? = some y := by rw [← S.pre, List.getElem?_take_of_lt (by omega)]; exact h1
    refine ⟨u, rv, .inl ⟨S.par y (List.mem_of_getElem? hp), ?_⟩⟩
    have hul : us.length = ps.length := by rw [← r.length]; exact hl
    refine look_nodup ?_ ?_
    · rw [List.map_reverse, List.map_fst_zip (by omega)]
      exact List.pairwise_reverse.mpr (ndP.imp fun h => Ne.symm h)
    · rw [List.mem_reverse]
      exact List.mem_of_getElem? (by rw [List.getElem?_zip_eq_some]; exact ⟨hp, hu⟩)
  · obtain ⟨rfl, rfl⟩ := one_cell h
    exact ⟨cv, co, hk _ _ sc.1, dc⟩
  · obtain ⟨rfl, rfl⟩ := one_cell h
    exact sc.2
  · unfold L2.start
    show _ = N.length
    rw [List.length_append, List.length_map, List.length_replicate]
    omega
end T2
namespace T2
open PySem L2 PyProof.Rows

/-! ### changes at places that no value reads -/
def NExt (o : HO) : Prop := ∀ p, o ≠ .ext p
section
variable {g : Wd} {F : List Addr} {H H' : Hp}
theorem FroL.ext (k : ∀ b o, H b = some o → (NExt o ∨ b ∈ F) → H' b = some o) {a : Addr} {vs : List V} (h : FroL g F H a vs) : FroL g F H' a vs := by
  rcases h with ⟨h, n⟩ | ⟨o, h⟩ | h
  · exact .inl ⟨k _ _ h (.inl fun _ z => by cases z), n⟩
  · exact .inr (.inl ⟨o, k _ _ h (.inl fun _ z => by cases z)⟩)
  · exact .inr (.inr h)
theorem sqT_ext (k : ∀ b o, H b = some o → (NExt o ∨ b ∈ F) → H' b = some o) {a : Addr} {vs : List V} (h : SqT g.K H a vs) : SqT g.K H' a vs := by
  rcases h with (h | ⟨o, h⟩) | h
  · exact .inl (.inl (k _ _ h (.inl fun _ z => by cases z)))
  · exact .inl (.inr ⟨o, k _ _ h (.inl fun _ z => by cases z)⟩)
  · exact .inr h
mutual
theorem Rep.ext (k : ∀ b o, H b = some o → (NExt o ∨ b ∈ F) → H' b = some o) : ∀ {d : D} {v : V}, Rep g F H d v → Rep g F H' d v
  | _, _, .non => .non
  | _, _, .bl b => .bl b
  | _, _, .int i => .int i
  | _, _, .str x => .str x
  | _, _, .ty n => .ty n
  | _, _, .cls c => .cls c
  | _, _, .obj a => .obj a
  | _, _, .tk h => .tk (k _ _ h (.inl fun _ z => by cases z))
  | _, _, .ref h => .ref h
  | _, _, .tup h r => .tup (sqT_ext k h) (Reps.ext k r)
  | _, _, .fro h r => .fro (h.ext k) (Reps.ext k r)
  | _, _, .ins h hn hl r => .ins (k _ _ h (.inl fun _ z => by cases z)) hn hl (Reps.ext k r)
theorem Reps.ext (k : ∀ b o, H b = some o → (NExt o ∨ b ∈ F) → H' b = some o) : ∀ {ds : List D} {vs : List V}, Reps g F H ds vs → Reps g F H' ds vs
  | _, _, .nil => .nil
  | _, _, .cons h t => .cons (Rep.ext k h) (Reps.ext k t)
end
theorem ObjR.ext (k : ∀ b o, H b = some o → (NExt o ∨ b ∈ F) → H' b = some o) {o : MO} {h : HO} (r : ObjR g F H o h) : ObjR g F H' o h := by
  cases r with
  | lst r => exact .lst (r.ext k)
  | dk hl r => exact .dk hl (r.ext k)
  | dt hl r => exact .dt hl (r.ext k)
  | ob hl r => exact .ob hl (r.ext k)
  | lk hl r => exact .lk hl (r.ext k)
  | lt hl r => exact .lt hl (r.ext k)
  | dp hk kt vl r => exact .dp hk (fun x hx => (kt x hx).mono fun _ _ h => sqT_ext k h) vl (r.ext k)
  | lp hk kt vl r => exact .lp hk (fun x hx => (kt x hx).mono fun _ _ h => sqT_ext k h) vl (r.ext k)
theorem RelM.ext (k : ∀ b o, H b = some o → (NExt o ∨ b ∈ F) → H' b = some o) {M : MH} (R : RelM g F M H) : RelM g F M H' :=
  ⟨R.len, R.nd, fun n a o e m => by
    obtain ⟨h, e2, r⟩ := R.obj n a o e m
    exact ⟨h, k _ _ e2 (.inr (List.mem_of_getElem? e)), r.ext k⟩⟩
theorem EnvR.ext (k : ∀ b o, H b = some o → (NExt o ∨ b ∈ F) → H' b = some o) : ∀ {e : Env2} {s : L2.St}, EnvR g F H e s → EnvR g F H' e s
  | _, _, .nil => .nil
  | _, _, .cons .none t => .cons .none (EnvR.ext k t)
  | _, _, .cons (.some r) t => .cons (.some (r.ext k)) (EnvR.ext k t)
theorem grow_same {F F' : List Addr} {M : MH} {H' : Hp} (h : F <+: F') (R : RelM g F M H) (R' : RelM g F' M H') : F' = F := by
  obtain ⟨t, rfl⟩ := h
  have := R'.len
  rw [List.length_append, R.len] at this
  have : t = [] := List.eq_nil_of_length_eq_zero (by omega)
  rw [this, List.append_nil]
end

/-! ### the stores of an own exception's __init__ -/
def WN : WY := ⟨fun _ _ _ _ => False, ⟨[], []⟩⟩
inductive Sto (X : Cx) (g : Wd) (C : Addr) : List Stmt → List (Str × EM) → Prop
  | nil : Sto X g C [] []
  | cons {f : Str} {p p' pos : Pos} {e : Expr} {m : EM} {sts : List Stmt} {l : List (Str × EM)} (hs : PE X (.Name "self" p) (tVar 0)) (he : PE X e (tD g WN m)) (hf : PySem.W.findIn X.K (.ref C) f = some none)
      (hw : swapsWith e (some (.Attribute (.Name "self" p) f p')) pos.line X.env = pure false) (h : Sto X g C sts l) : Sto X g C (.Assign [.Attribute (.Name "self" p) f p'] e pos :: sts) ((f, m) :: l)
/-- the exception at a, its dict at d with the fields fs -/
inductive XS (a C : Addr) (H : Hp) : Option Addr → List (Str × V) → Prop
  | no (h : H a = some (exo a C none)) : XS a C H none []
  | so {d : Addr} {fs : List (Str × V)} (h : H a = some (exo a C (some d))) (hd : H d = some (exd d fs)) (hne : d ≠ a) : XS a C H (some d) fs
def evs (env : Env2) (M : MH) : List (Str × EM) → List (Str × D) → Prop
  | [], acc => acc = []
  | (f, m) :: l, acc => ∃ d r, m env M = .ok d M ∧ evs env M l r ∧ acc = (f, d) :: r
theorem sto_run {X : Cx} {g : Wd} {C a : Addr} (T : OexC X.K C) {F : List Addr} {env : Env2} {M : MH} {H0 : Hp} {pins : List (Addr × Obj)} {E : Ends} {σ : L2.St} (h0 : σ[0]? = some (some (.ref a))) :
    ∀ {sts : List Stmt} {l : List (Str × EM)}, Sto X g C sts l → ∀ (H : Hp) (s : Shared) (o : Option Addr) (ns : List Str) (ds : List D) (vs : List V) (acc : List (Str × D)), Inv X pins σ H s → RelM g F M H → EnvR g F H env σ → XS a C H o (ns.zip vs) → ns.length = vs.length → ns.length + l.length ≤ 100 → Reps g F H ds vs → a ∉ F → (∀ d, o = some d → d ∉ F) →
      (∀ b u, b ≠ a → (b ∉ F ∨ ¬ NoLk (some u)) → H0 b = some u → H b = some u) → (∀ b, H b = none → H0 b = none) → (∀ d, o = some d → H0 d = none) → evs env M l acc →
      (∀ H2 o2 vs2, (∀ b u, b ≠ a → (b ∉ F ∨ ¬ NoLk (some u)) → H0 b = some u → H2 b = some u) → XS a C H2 o2 (((acc.map (·.1)).reverse ++ ns).zip vs2) → ((acc.map (·.1)).reverse ++ ns).length = vs2.length → (∀ d, o2 = some d → H0 d = none) → RelM g F M H2 → Reps g F H2 ((acc.map (·.2)).reverse ++ ds) vs2 → E.nx σ H2) →
      wpAny (model X.prog X.w) X.A (execs sts X.env) (SP X pins E) X.xe s := by
  intro sts l S
  induction S with
  | nil =>
    intro H s o ns ds vs acc I R e xs hl hz r na nd k kd ko ev fin
    cases ev
    rw [execs_nil]
    refine wpAny_pure ⟨σ, H, I, fin H o vs k ?_ ?_ ko R ?_⟩ <;> simpa
  | @cons f p p' pos ex m sts l hs he hf hw hS ih =>
    intro H s o ns ds vs acc I R e xs hl hz r na nd k kd ko ev fin
    obtain ⟨d, ar, hm, ev, rfl⟩ := ev
    have key : tOst X.K f (tVar 0) (tD g WN m) { nx := fun σ' H' => σ' = σ ∧ ∃ o2 v vs', RelM g F M H' ∧ EnvR g F H' env σ ∧ XS a C H' o2 ((f :: ns).zip (v :: vs')) ∧ ns.length = vs'.length ∧ Reps g F H' (d :: ds) (v :: vs') ∧ (∀ b u, b ≠ a → (b ∉ F ∨ ¬ NoLk (some u)) → H0 b = some u → H' b = some u) ∧ (∀ b, H' b = none → H0 b = none) ∧ (∀ d, o2 = some d → H0 d = none) ∧ (∀ d, o2 = some d → d ∉ F), rt := fun _ _ => False } σ H := by
      refine ⟨F, env, M, ⟨R, e, pin_nil, xrs_nil⟩, ?_⟩
      rw [hm]
      intro F1 H1 v g1 R1 rv
      have hF : F = F1 := (grow_same g1.pre R R1).symm
      subst hF
      refine ⟨.ref a, h0, a, C, rfl, T, hf, ?_⟩
      have nF : ∀ {b : Addr} {u : HO}, H b = some u → ¬ MutO (some u) → b ∉ F := fun hb hu => R.good.notin hb hu
      generalize hfs : ns.zip vs = fs at xs
      cases xs with
      | no h =>
        obtain rfl : ns = [] := by
          cases ns with
          | nil => rfl
          | cons x xs => cases vs with
            | nil => cases hl
            | cons y ys => cases hfs
        obtain rfl : vs = [] := List.eq_nil_of_length_eq_zero hl.symm
        have ha : a ∉ F := na
        have h1 := g1.keep _ _ h ha
        refine .inl ⟨h1, fun dx hd hda => ⟨rfl, some dx, v, [], ?_⟩⟩
        have kk : ∀ b o, H1 b = some o → (NExt o ∨ b ∈ F) → upd (upd H1 dx (exd dx [(f, v)])) a (exo a C (some dx)) b = some o := fun b o hb hn => by
          have b1 : b ≠ a := fun z => hn.elim (fun hn => by rw [z, h1] at hb; exact hn _ (Option.some.inj hb).symm) fun hf => ha (z ▸ hf)
          have b2 : b ≠ dx := fun z => by rw [z, hd] at hb; cases hb
          rw [upd_ne b1, upd_ne b2]; exact hb
        refine ⟨R1.ext kk, (e.mono g1 R.good).ext kk, .so (d := dx) upd_same (by rw [upd_ne hda]; exact upd_same) hda, rfl, .cons (rv.ext kk) ((r.mono g1 R.good).ext kk), fun b u hb hf hu => ?_, fun b hb => ?_, fun d hd' => ?_, fun d hd' => by cases hd'; exact R1.notin hd⟩
        · have z := g1.keep2 (k b u hb hf hu) hf
          have b2 : b ≠ dx := fun y => by rw [y, hd] at z; cases z
          rw [upd_ne hb, upd_ne b2]; exact z
        · by_cases b1 : b = a
          · rw [b1, upd_same] at hb; cases hb
          · rw [upd_ne b1] at hb
            by_cases b2 : b = dx
            · rw [b2, upd_same] at hb; cases hb
            · rw [upd_ne b2] at hb
              by_cases hbF : b ∈ F
              · have := R1.good b hbF; rw [hb] at this; exact this.elim
              · cases z : H b with
                | none => exact kd b z
                | some u => rw [g1.keep _ _ z hbF] at hb; cases hb
        · cases hd'
          have hdF : dx ∉ F := R1.notin hd
          cases z : H dx with
          | none => exact kd dx z
          | some u => rw [g1.keep _ _ z hdF] at hd; cases hd
      | so h hd hne =>
        rename_i dx
        subst hfs
        have ha : a ∉ F := na
        have hdF : dx ∉ F := nd dx rfl
        have h1 := g1.keep _ _ h ha
        have hd1 := g1.keep _ _ hd hdF
        have hzl : (ns.zip vs).length ≤ 900 := by rw [List.length_zip]; omega
        refine .inr ⟨dx, ns.zip vs, h1, hd1, hzl, ⟨rfl, some dx, v, vs, ?_⟩⟩
        have hda : a ≠ dx := Ne.symm hne
        have kk : ∀ b o, H1 b = some o → (NExt o ∨ b ∈ F) → upd H1 dx (exd dx ((f, v) :: ns.zip vs)) b = some o := fun b o hb hn => by
          have b2 : b ≠ dx := fun z => hn.elim (fun hn => by rw [z, hd1] at hb; exact hn _ (Option.some.inj hb).symm) fun hf => hdF (z ▸ hf)
          rw [upd_ne b2]; exact hb
        refine ⟨R1.ext kk, (e.mono g1 R.good).ext kk, .so (d := dx) (by rw [upd_ne hda]; exact h1) upd_same hne, hl, .cons (rv.ext kk) ((r.mono g1 R.good).ext kk), fun b u hb hf hu => ?_, fun b hb => ?_, fun d hd' => ko d hd', fun d hd' => by cases hd'; exact hdF⟩
        · have z := g1.keep2 (k b u hb hf hu) hf
          have b2 : b ≠ dx := fun y => by rw [y] at hu; rw [ko dx rfl] at hu; cases hu
          rw [upd_ne b2]; exact z
        · by_cases b2 : b = dx
          · rw [b2, upd_same] at hb; cases hb
          · rw [upd_ne b2] at hb
            by_cases hbF : b ∈ F
            · have := R1.good b hbF; rw [hb] at this; exact this.elim
            · cases z : H b with
              | none => exact kd b z
              | some u => rw [g1.keep _ _ z hbF] at hb; cases hb
    refine wpAny_execs_cons (thn ((ps_ost (p' := p') (f := f) (pos := pos) hs he hw).run pins s σ H _ I key) fun fl s1 q => ?_)
    cases fl with
    | next =>
      obtain ⟨σ', H', I', rfl, o2, v, vs', R', e', xs', hl', r', k', kd', ko', kf'⟩ := q
      refine ih H' s1 o2 (f :: ns) (d :: ds) (v :: vs') ar I' R' e' xs' (by simp [hl']) (by simp at hz ⊢; omega) r' na kf' k' kd' ko' ev fun H2 o3 vs2 k2 x2 l2 ko2 R2 r2 => fin H2 o3 vs2 k2 ?_ ?_ ko2 R2 ?_
      · simpa using x2
      · simpa using l2
      · simpa using r2
    | ret v => obtain ⟨_, _, _, _, _, q⟩ := q; exact q.elim
    | brk => obtain ⟨_, _, _, q⟩ := q; exact q.elim
    | cont => obtain ⟨_, _, _, q⟩ := q; exact q.elim

/-! ### super().__init__(text), first in such an __init__ -/
structure SupIn (P : Program) (K : PySem.W.Frag) (mg : Str → Option Value) (C f cc cda : Addr) (fd : FuncData) : Prop where
  lk : ∃ oc od osl, K.lookup f = some ⟨oc, od, .func fd, osl⟩
  par : ∃ ar : Arg, (fd.params.posonlyargs ++ fd.params.args).head? = some ar ∧ ar.arg = "self"
  code : ∃ ccl cdd vs ccs file tf, K.lookup cda = some ⟨ccl, cdd, .fields vs, ccs⟩ ∧ vs[2]? = some (.str file tf) ∧ ((P.main.file : Str) == file) = true
  cell : ∃ cl cld csl, K.lookup cc = some ⟨cl, cld, .cell (some (.ref C)), csl⟩
  self : PySem.W.mroIn K C (.ref C) = some true
  sup : mg "super" = none
  third : PySem.W.nsIn K cStatics "thirdparty.any" = some none
  sin : PySem.W.ks_superIn K C C "__init__" = some (some (.builtin "ValueError.__init__"))
  isV : PySem.W.subIn K (.ref C) (.type "ValueError") = some true
  top : (P.main.scope.names.lookup ("super" : Str)).isSome = false
theorem boot_super : bootBuiltins "super" = some (.type "super") := by decide +kernel
abbrev supSt (txt : Str) (j : Nat) (p0 p1 p2 p3 p4 p5 : Pos) : Stmt := .Expr (.Call (.Attribute (.Call (.Name "super" p0) [] [] p1) "__init__" p2) [.Constant (.str txt) j p3] [] p4) p5
theorem sup_first {CX : CXT} {P : Program} {w : World} {K : PySem.W.Frag} {mg : Str → Option Value} {base : Heap} {N ps : List Str} {qual : Str} {scope : Scope} {f cda cc C a : Addr} {fd : FuncData} {A : Around} {outer : List Env} {s0 : Shared} {H0 : Hp} {E0 : XK} {σ : L2.St} {H : Hp} {s : Shared} {body rest : List Stmt}
    {txt : Str} {j : Nat} {p0 p1 p2 p3 p4 p5 : Pos} {Q : Flow → Shared → Prop}
    (S : ScopeS N ps scope) (T : OexC K C) (U : SupIn P K mg C f cc cda fd) (hN : N[0]? = some ("self" : Str)) (hl : scope.names.lookup ("self" : Str) = some .local)
    (I : Inv (cxS CX P w K mg base N qual scope f (.ref cda) cc A outer s0 H0 E0) [] σ H s) (ea : H a = some (exo a C none)) (h0 : σ[0]? = some (some (.ref a)))
    {pl : Sem Bool} (he : eval (.Call (.Attribute (.Call (.Name "super" p0) [] [] p1) "__init__" p2) [.Constant (.str txt) j p3] [] p4) (PySem.W.ksEnv qual scope s0.heap.objs.size f (.ref cda) cc) = (do
      let ov ← attributeBase (.Call (.Name "super" p0) [] [] p1) "__init__" (PySem.W.ksEnv qual scope s0.heap.objs.size f (.ref cda) cc) (eval (.Call (.Name "super" p0) [] [] p1) (PySem.W.ksEnv qual scope s0.heap.objs.size f (.ref cda) cc))
      standAt p2.atName
      let (f', first) ← holding [ov] (getMethod ov "__init__" pl)
      callWith p4 f' first (backTo p4 (starEach [.Constant (.str txt) j p3] (PySem.W.ksEnv qual scope s0.heap.objs.size f (.ref cda) cc))) []))
    (hi : interactive (PySem.W.ksEnv qual scope s0.heap.objs.size f (.ref cda) cc) = false)
    (k : ∀ s', Inv (cxS CX P w K mg base N qual scope f (.ref cda) cc A outer s0 H0 E0) [] σ H s' → wpAny (model P w) (cxS CX P w K mg base N qual scope f (.ref cda) cc A outer s0 H0 E0).A (execs rest (cxS CX P w K mg base N qual scope f (.ref cda) cc A outer s0 H0 E0).env) Q (cxS CX P w K mg base N qual scope f (.ref cda) cc A outer s0 H0 E0).xe s') :
    _root_.PySem.wpAt (model P w) (cxS CX P w K mg base N qual scope f (.ref cda) cc A outer s0 H0 E0).A (.func body (PySem.W.ksEnv qual scope s0.heap.objs.size f (.ref cda) cc))
      (execs (supSt txt j p0 p1 p2 p3 p4 p5 :: rest) (PySem.W.ksEnv qual scope s0.heap.objs.size f (.ref cda) cc)) Q (cxS CX P w K mg base N qual scope f (.ref cda) cc A outer s0 H0 E0).xe s := by
  obtain ⟨nm, q, N', bs, bm, sn, sub, ab, col, dd, k0, k1, k2, k3, k5, hC, hbm⟩ := T.cls
  obtain ⟨oc, od, osl, lk⟩ := U.lk
  obtain ⟨ar, hp, har⟩ := U.par
  obtain ⟨ccl, cdd, vs, ccs, file, tf, hco, hvs, hfile⟩ := U.code
  obtain ⟨cl, cld, csl, hcc⟩ := U.cell
  obtain ⟨t1, ho⟩ := exo_at I.hok ea
  have KX := I.kIn
  have KX : K.In s.heap := KX
  obtain ⟨m, hns, hloc⟩ := I.loc
  obtain ⟨u, ru, hlk⟩ := hloc 0 "self" (.ref a) hN h0 (.inl hl)
  obtain rfl : u = Value.ref a := ru
  have hms : m ar.arg = some (.ref a) := by
    rw [har]
    rcases hlk with ⟨_, h⟩ | ⟨h, _⟩
    · exact h
    · have h : scope.names.lookup ("self" : Str) = some .cell ∨ scope.names.lookup ("self" : Str) = some .free := h
      rw [hl] at h; rcases h with h | h <;> cases h
  obtain ⟨mb, hb1, hb2⟩ := I.mod.blt
  have hgl := I.mod.glob.keeps I.bk
  obtain ⟨hh, g, d, t, os⟩ := s
  have hcl : PySem.W.clsIn K C = some { name := nm, bases := bs, mro := .ref C :: bm, ns := N', qualname := q, hasDict := true, slotNames := sn, subclasses := sub, abstract := ab, collection := col, hasDel := false } := by unfold PySem.W.clsIn; rw [hC] <;> rfl
  have hCo := KX _ _ hC
  have IA : PySem.W.InstAt hh a { cls := .ref C, dict := none, data := .fields #[.ref t1, .none, .none, .none, .bool false, .none] } C none := ⟨ho, rfl, rfl, trivial⟩
  refine ks_wpAt_execs_cons (ks_wpAt_Expr_any (ks_wpAt_MethodCall (pl := pl) ?_ he) hi)
  refine ks_wpAt_super_base (env := PySem.W.ksEnv qual scope s0.heap.objs.size f (.ref cda) cc) S.sup S.cls (by decide) rfl (KX _ _ lk) rfl hp rfl (KX _ _ hco) rfl hvs hfile U.top ?_
  refine PySem.W.ks_loadName_global S.kind S.sup (PySem.Calls.loadGlobal_builtin (env := PySem.W.ksEnv qual scope s0.heap.objs.size f (.ref cda) cc) hgl U.sup (hb1.keeps I.bk) ((hb2 _ (by decide)).trans boot_super) ⟨rfl, ?_⟩)
  refine wpAny_loadName_free S.kind S.cls rfl ⟨_, KX _ _ hcc, rfl⟩ ?_
  refine wpAny_loadName_local S.kind (by rw [har]; exact hl) hns hms ?_
  refine ks_wpAny_isType_cls hCo rfl ⟨rfl, ?_⟩
  refine ks_wpAny_call_super hCo rfl ho rfl (fun c e => by cases e) (PySem.W.looks_mroIn KX U.self) (fun h1 e1 kk1 => ?_)
  have KX1 : K.In h1 := fun b o e => kk1 b o (KX b o e)
  have hI1 : PySem.W.Looks (model P w) h1 (isInstance (.ref a) (.type "ValueError")) true := (show PySem.W.InstAt h1 a _ C none from ⟨kk1 _ _ ho, rfl, rfl, trivial⟩).type.andThen (PySem.W.looks_subIn KX1 U.isV)
  have hsin := U.sin
  unfold PySem.W.ks_superIn at hsin
  rw [hcl, Option.bind_some] at hsin
  refine PySem.W.kxs_getMethod PySem.W.kxs_ValueError e1 (PySem.W.looks_opaque KX1 U.third) (l₀ := .ref C :: bm) ?_ rfl KX1 hsin hI1 (PySem.W.ks_ne KX IA hcl) (by decide) ?_
  · exact fun A Q E s k q => wpAny_bind ((PySem.W.looks_clsIn KX1 hcl) A _ E s k (wpAny_pure q))
  have kk2 : ∀ b o, hh.get? b = some o → (h1.push (PySem.W.kxs_mw "ValueError.__init__" a)).get? b = some o := fun b o e => Heap.get?_push_of_some _ (kk1 b o e)
  have I2 := I.kept (h' := h1.push (PySem.W.kxs_mw "ValueError.__init__" a)) (t' := t + 1) kk2
  have hsz : hh.objs.size ≤ h1.objs.size := Nat.le_of_lt (Heap.lt_size e1)
  have hu : (h1.push (PySem.W.kxs_mw "ValueError.__init__" a)).get? h1.objs.size = some (PySem.W.kxs_mw "ValueError.__init__" a) := Heap.get?_push_at rfl rfl
  have I3 := I2.pins_of (pins' := [(h1.objs.size, PySem.W.kxs_mw "ValueError.__init__" a)]) (fun p hp => by
    rcases List.mem_singleton.mp hp with rfl
    refine ⟨hu, I.hok.fresh hsz, ?_, I.nofs hsz, fun v z => by cases z⟩
    exact Nat.ne_of_gt (Nat.lt_of_lt_of_le I.lt hsz))
  refine PySem.W.kxs_callWith (i := "ValueError.__init__") (x := a) (by rfl) (PySem.Calls.evalArgs_plain (thn ((pa_cons pe_str pa_nil (by rfl)).run p4 _ _ σ H (fun vs H1 => vs = [.str txt] ∧ H1 = H) I3 ⟨rfl, rfl⟩) ?_))
  rintro us s4 ⟨ws, H4, I4, rw4, rfl, rfl⟩
  have hu4 := (I4.pin _ (List.mem_append_right _ (List.mem_singleton.mpr rfl))).1
  refine ⟨hu4, ?_⟩
  obtain ⟨t4, ho4⟩ := exo_at I4.hok ea
  obtain ⟨h4, g4, d4, tk4, os4⟩ := s4
  have hlen : us.length = 1 := by rw [← rw4.length]; rfl
  refine call_mw (I4.kIn _ _ hC) ho4 hu4 (by rw [List.nil_append, hlen]; decide) fun h' t5 kk5 he5 => ?_
  have J := I4.write (t' := tk4) (x := a) (e := a) (o := exo a C none) (by rw [ea]; exact True.intro) (.inl rfl) kk5 ⟨_, he5⟩ (exo_ok he5)
  have eu : upd H4 a (exo a C none) = H4 := by
    funext b
    by_cases hb : b = a
    · rw [hb, upd_same, ea]
    · rw [upd_ne hb]
  rw [eu] at J
  exact wpAt_of_wpAny (k _ (J.pins_of (pins' := []) (fun p hp => absurd hp (by simp))))
end T2
namespace T2
open PySem L2 PyProof.Rows

/-! ### an own exception's __init__ as a def -/
def spX (g : Wd) (c n : Nat) (ns : List Str) (f : List D → List D) : Sp := fun vs H Q _ => vs.length = n + 1 ∧ ∃ a ws F M ds, vs = .ref a :: ws ∧ H a = some (exo a (g.ca c) none) ∧ RelM g F M H ∧ a ∉ F ∧ Reps g F H ds ws ∧
  ∀ H2 d us, (∀ b u, b ≠ a → (b ∉ F ∨ ¬ NoLk (some u)) → H b = some u → H2 b = some u) → H2 a = some (exo a (g.ca c) (some d)) → H2 d = some (exd d (ns.zip us)) → d ≠ a → H d = none → ns.length = us.length → RelM g F M H2 → Reps g F H2 (f ds) us → Q .non H2
theorem fnX_ok {P : Program} {w : World} {K : PySem.W.Frag} {mg : Str → Option Value} {base : Heap} {g : Wd} {c n k : Nat} {f cc cda : Addr} {name qual : Str} {params : Arguments} {scope : Scope} {dV kV doc pm ct oc : Value} {an od : Option Addr} {osl : Array (Option Value)} {ps' : List Str} {ns : List Str}
    {txt : Str} {j : Nat} {p0 p1 p2 p3 p4 p5 : Pos} {rest : List Stmt} {l : List (Str × EM)} {acc : List D → List (Str × D)} {pl : Addr → Sem Bool}
    (lk : K.lookup f = some ⟨oc, od, .func (PySem.W.ksFn name qual params (supSt txt j p0 p1 p2 p3 p4 p5 :: rest) scope dV kV doc pm an (.ref cda) ct cc), osl⟩) (hcd : PySem.W.codeIn K (.ref cda) qual = true) (S : ScopeS ("self" :: ps') ("self" :: ps') scope) (T : OexC K (g.ca c))
    (U : SupIn P K mg (g.ca c) f cc cda (PySem.W.ksFn name qual params (supSt txt j p0 p1 p2 p3 p4 p5 :: rest) scope dV kV doc pm an (.ref cda) ct cc)) (hn : ps'.length = n)
    (he : ∀ L, eval (.Call (.Attribute (.Call (.Name "super" p0) [] [] p1) "__init__" p2) [.Constant (.str txt) j p3] [] p4) (PySem.W.ksEnv qual scope L f (.ref cda) cc) = (do
      let ov ← attributeBase (.Call (.Name "super" p0) [] [] p1) "__init__" (PySem.W.ksEnv qual scope L f (.ref cda) cc) (eval (.Call (.Name "super" p0) [] [] p1) (PySem.W.ksEnv qual scope L f (.ref cda) cc))
      standAt p2.atName
      let (f', first) ← holding [ov] (getMethod ov "__init__" (pl L))
      callWith p4 f' first (backTo p4 (starEach [.Constant (.str txt) j p3] (PySem.W.ksEnv qual scope L f (.ref cda) cc))) []))
    (hi : ∀ L, interactive (PySem.W.ksEnv qual scope L f (.ref cda) cc) = false)
    (hst : ∀ A outer s H E, Sto (cxS (L2N.CX P w) P w K mg base ("self" :: ps') qual scope f (.ref cda) cc A outer s H E) g (g.ca c) rest l)
    (hev : ∀ a ds M, ds.length = n → evs (some (.obj a) :: ds.map some) M l (acc ds)) (hns : ∀ ds, ((acc ds).map (·.1)).reverse = ns) (hnn : ns ≠ []) (hll : l.length ≤ 100) :
    FnOk P w K mg base (L2N.CX P w) (k + 1) f (PySem.W.ksFn name qual params (supSt txt j p0 p1 p2 p3 p4 p5 :: rest) scope dV kV doc pm an (.ref cda) ct cc) ("self" :: ps') (spX g c n ns fun ds => ((acc ds).map (·.2)).reverse) := by
  refine ⟨fun vs H Q E h => by rw [h.1, List.length_cons, hn], fun A outer s H args us vs Q E hr e0 hb r hsp => ?_⟩
  obtain ⟨hl, a, ws, F, M, ds, rfl, ea, R, na, rs, fin⟩ := hsp
  have KX : K.In s.heap := e0.mod.kin.keeps fun b o e => (e0.bs b o e).1
  have lim : s.heap.NoLimit := e0.mod.nolimit.keeps fun b o e => (e0.bs b o e).1
  have hlw : ws.length = n := by simpa using hl
  have hld : ds.length = n := by rw [rs.length]; exact hlw
  refine ks_codeAny_call_defAt hr.depth (KX _ _ lk) rfl lim (PySem.W.codeRec_of KX hcd) rfl hb S.nocell (fun x hx => S.par x.1 (List.of_mem_zip hx).1) (fun h1 hns1 hk1 => ?_) S.co S.gen S.kind
  obtain ⟨cl, cld, csl, hcc⟩ := U.cell
  have I := inv_startS (CX := L2N.CX P w) (P := P) (w := w) (N := "self" :: ps') (qual := qual) (f := f) (cd := .ref cda) (outer := outer) (E := E) (tk := s.toks + ((("self" : Str) :: ps').zip us).length) S hr.hd e0 (by rw [hl, List.length_cons, hn]) r ⟨_, hcc, rfl⟩ hns1 hk1
  have I0 := I
  have hst0 : (L2.start ("self" :: ps') (V.ref a :: ws)) = some (.ref a) :: ws.map some := by
    unfold L2.start
    rw [List.length_cons, List.length_cons, hn, hlw]
    simp
  rw [hst0] at I
  have hself : scope.names.lookup ("self" : Str) = some .local := S.par _ (List.mem_cons_self ..)
  refine ks_wpAt_mono (Q := SP (cxS (L2N.CX P w) P w K mg base ("self" :: ps') qual scope f (.ref cda) cc A outer s H E) [] { nx := fun _ H' => Q .non H', rt := Q }) (sup_first (CX := L2N.CX P w) (base := base) (outer := outer) (H0 := H) (E0 := E) (qual := qual) (scope := scope) (a := a) S T U rfl hself I ea rfl (he _) (hi _) fun s' I' => ?_) (fun fl s' hs => ?_) fun _ _ z => z
  · have er : EnvR g F H (some (.obj a) :: ds.map some) (some (.ref a) :: ws.map some) := by
      have := envR_start (N := []) (Reps.cons (Rep.obj a) rs) 0
      simpa using this
    refine sto_run (H0 := H) (a := a) (env := some (.obj a) :: ds.map some) T rfl (hst A outer s H E) H s' none [] [] [] (acc ds) I' R er (.no ea) rfl (by simpa using hll) .nil na (fun d z => by cases z) (fun b u _ _ z => z) (fun b z => z) (fun d z => by cases z) (hev a ds M hld) fun H2 o2 vs2 k2 x2 l2 ko2 R2 r2 => ?_
    rw [List.append_nil] at x2 l2
    rw [List.append_nil] at r2
    rw [hns] at x2 l2
    generalize hz : ns.zip vs2 = fs at x2
    cases x2 with
    | no h =>
      exfalso
      cases ns with
      | nil => exact hnn rfl
      | cons x xs => cases vs2 with
        | nil => cases l2
        | cons y ys => cases hz
    | so h hd hne => subst hz; exact fin H2 _ vs2 k2 h hd hne (ko2 _ rfl) l2 R2 r2
  · have fin2 : ∀ {σ' : L2.St} {H' : Hp} {v : V} {u : Value}, Inv (cxS (L2N.CX P w) P w K mg base ("self" :: ps') qual scope f (.ref cda) cc A outer s H E) [] σ' H' s' → RelV v u → Q v H' → CE outer P w H s Q u s' :=
      fun {σ' H' v u} J rv q => ⟨v, H', J.os, J.bare, J.base, J.hok, rv, q⟩
    cases fl with
    | ret u => obtain ⟨v, σ', H', J, rv, q⟩ := hs; exact fin2 J rv q
    | next => obtain ⟨σ', H', J, q⟩ := hs; exact fin2 (v := V.non) (u := Value.none) J rfl q
    | brk => obtain ⟨_, _, _, q⟩ := hs; exact False.elim q
    | cont => obtain ⟨_, _, _, q⟩ := hs; exact False.elim q

/-! ### raise C(e, ..) -/
def sRaiseX (c n : Nat) (ns : List Str) (f : List D → List D) (ma : AM) : SM := fun e M => match ma e M with
  | .ok ds M1 => if ds.length = n then .ex c ns (f ds) e M1 else .bad
  | .exc c ns ds M1 => .ex c ns ds e M1
  | .bad => .bad
section
variable {X : Cx} {g : Wd} {W : WY} {e : Expr} {es : List Expr} {ma : AM} {c n k : Nat} {x : Str} {fI : Addr} {fd : FuncData} {ps ns : List Str} {f : List D → List D} {p pos pos2 : Pos}
theorem passes_no : Passes (L2N.CX X.prog X.w) X (fun _ _ _ => False) := fun _ _ _ _ _ _ _ h => by
  obtain ⟨_, _, _, _, _, _, _, _, _, _, _, _, z⟩ := h
  exact z.elim
theorem mk_endN {pins : List (Addr × Obj)} {σ : L2.St} {H1 H2 : Hp} {Q : XK} {hp hp2 h2 : Heap} {g1 g2 : Array GenState} {d1 d2 : Drawn} {t1 t2 : Nat} {os1 os2 : OsState} {a C d : Addr} {fs : List (Str × V)} (T : Raises X (.ref C)) (I1 : Inv X pins σ H1 ⟨hp, g1, d1, t1, os1⟩)
    (ha : hp.objs.size ≤ a) (k : ∀ b o, hp.get? b = some o → hp2.get? b = some o) (un : Un (frs X.stack) [] (upd H1 a (exo a C none)) H2 hp2 h2) (hok : HOk X.prog X.w H2 h2) (ho : os2 = os1) (hb : AllBare g2)
    (ea : H2 a = some (exo a C (some d))) (ed : H2 d = some (exd d fs)) (hd1 : H1 d = none) (q : Q (.ref C) (some d) (upd (del H2 a) d (.xd fs))) : L2N.MkP X pins σ Q (.ref a) ⟨h2, g2, d2, t2, os2⟩ := by
  obtain ⟨t0, G, J, kG, ge, hoe, na⟩ := mk_end0 (d2 := d2) (t2 := t2) I1 ha k un hok ho hb ea ed hd1
  exact ⟨a, _, _, ⟨G, g2, d2, t2, os2⟩, _, .ref C, some d, rfl, J, kG, ge, hoe, ⟨rfl, rfl, fun vs e => by cases e; rfl⟩, rfl, rfl, na, rfl, hb, T, q⟩
theorem pmk_oex0 {sp : Sp} {C : Addr} (T : OexC X.K C) (iC : PySem.W.findIn X.K (.ref C) "__init__" = some (some (.ref fI))) (tI : PySem.W.typeIn X.K (.ref fI) = some (.type "function"))
    (F1 : FnOk X.prog X.w X.K X.mg X.base (L2N.CX X.prog X.w) k fI fd ps sp) (hr : Room (k + 1) X.A) (hb : Binds X.K fd ps []) (hg : Gl X x) (hm : X.mg x = some (.ref C))
    (hdb : (x == ("__debug__" : Str)) = false := by decide) :
    L2N.PMk X (.Call (.Name x p) [] [] pos) (tMkO C sp [] tNil) := by
  intro pins s σ H Q I h
  obtain ⟨nm, q, N, bs, bm, sn, sub, ab, col, dd, k0, k1, k2, k3, k5, hC, hbm⟩ := T.cls
  refine wpAny_Call_Name_kw (ld_glob I hg hm ?_ hdb)
  refine PySem.W.callWith_K0 I.kIn T.kC ?_
  show wpAny _ _ (call (.ref C) []) _ _ _
  obtain ⟨hz, q1⟩ := h
  obtain ⟨hp, g, dr, tk, os⟩ := s
  have hsz : hp.objs.size ≤ hp.objs.size + 1 := Nat.le_succ _
  have hn : H (hp.objs.size + 1) = none := I.hok.fresh hsz
  have hq := q1 (hp.objs.size + 1) hn
  have kk : ∀ b o, hp.get? b = some o → ((hp.push (PySem.W.kdv_tup [])).push (PySem.HandSPX.excO C hp.objs.size)).get? b = some o := fun b o e => Heap.get?_push_of_some _ (Heap.get?_push_of_some _ e)
  have hget : ((hp.push (PySem.W.kdv_tup [])).push (PySem.HandSPX.excO C hp.objs.size)).get? (hp.objs.size + 1) = some (PySem.HandSPX.excO C hp.objs.size) := by heap_get
  have I2 : Inv X pins σ (upd H (hp.objs.size + 1) (exo (hp.objs.size + 1) C none)) ⟨(hp.push (PySem.W.kdv_tup [])).push (PySem.HandSPX.excO C hp.objs.size), g, dr, tk, os⟩ :=
    I.laid (t' := tk) (a := hp.objs.size + 1) (o := exo (hp.objs.size + 1) C none) (h' := (hp.push (PySem.W.kdv_tup [])).push (PySem.HandSPX.excO C hp.objs.size)) kk hsz (exo_ok hget)
  have r2 : Vals (V.ref (hp.objs.size + 1) :: []) (Value.ref (hp.objs.size + 1) :: []) := .cons rfl .nil
  have hl : ([Value.ref (hp.objs.size + 1)] ++ []).length = ps.length := by
    have e := F1.len _ _ _ _ hq
    simpa using e
  refine wpAny_call (PySem.HandSPX.call_own F.excBase_ValueError (fun Y => PySem.HandSPX.refsVE_contains Y bm hbm) (I.kIn _ _ hC) (PySem.W.looks_findIn I.kIn iC) (fun self => PySem.W.bind_fn I.kIn self tI) (Nat.zero_le _)
    (codeAny_mono (F1.run _ X.stack _ _ ⟨[Value.ref (hp.objs.size + 1)], []⟩ [Value.ref (hp.objs.size + 1)] _ _ (fun _ _ _ => False) (hr.make C [] []) (I2.env0.make C [] []) (hb _ [Value.ref (hp.objs.size + 1)] I2.kIn hl) r2 hq) fun r s' hq' => ?_))
  cases r with
  | error er => exact passes_no pins σ _ _ er s' I2 hq'
  | ok fl =>
    cases fl with
    | ret u =>
      obtain ⟨v, H2, os2, bare2, un2, hok2, rv, ev, d, fs, ea, ed, hd1, q2⟩ := hq'
      subst ev
      obtain ⟨h2, g2, d2, t2, os'⟩ := s'
      exact ⟨rv, mk_endN (raises_own T.exC T.tyC) I hsz kk un2 hok2 os2 bare2 ea ed hd1 q2⟩
    | next => exact False.elim hq'
    | brk => exact False.elim hq'
    | cont => exact False.elim hq'
theorem raiseX_imp {E : Ends} {σ : L2.St} {H : Hp} {t : TA} (hnn : ns ≠ []) (hn : n ≤ 100) (hlen : ∀ ds : List D, ds.length = n → (f ds).length = ns.length) (ht : ∀ σ H Q, tA g W ma σ H Q → t σ H Q) (q : tS g W (sRaiseX c n ns f ma) E σ H) : tMkO (g.ca c) (spX g c n ns f) [] t σ H (fun cls d H' => W.w cls d σ H') := by
  obtain ⟨F, e, M, RS, q⟩ := q
  refine ht σ H _ ⟨F, e, M, RS, ?_⟩
  unfold sRaiseX at q
  cases hm : ma e M with
  | bad => rw [hm] at q; exact q
  | exc c' ns' ds' M' =>
    rw [hm] at q
    exact fun F' H' d g1 Rm x => q F' H' σ d g1 Rm (RS.e.mono g1 RS.m.good) x
  | ok ds M1 =>
    rw [hm] at q
    dsimp only at q
    intro F1 H1 vs g1 R1 rs
    by_cases hl : ds.length = n
    · rw [if_pos hl] at q
      have hvl : vs.length = n := by rw [← rs.length]; exact hl
      refine ⟨by omega, fun a ha => ⟨by simp [hvl], a, vs, F1, M1, ds, by simp, upd_same, ?_, R1.notin ha, ?_, ?_⟩⟩
      · exact (R1.still ha).2
      · exact rs.mono (R1.still ha).1 R1.good
      · intro H2 d us k2 ea ed hda hd hul R2 r2
        have hd1 : H1 d = none := by rw [upd_ne hda] at hd; exact hd
        refine ⟨rfl, d, _, ea, ed, hd1, ?_⟩
        have kk : ∀ b o, H2 b = some o → (NExt o ∨ b ∈ F1) → upd (del H2 a) d (.xd (ns.zip us)) b = some o := fun b o hb hx => by
          have b1 : b ≠ a := fun z => hx.elim (fun hx => by rw [z, ea] at hb; exact hx _ (Option.some.inj hb).symm) fun hf => R1.notin ha (z ▸ hf)
          have b2 : b ≠ d := fun z => hx.elim (fun hx => by rw [z, ed] at hb; exact hx _ (Option.some.inj hb).symm) fun hf => R1.notin hd1 (z ▸ hf)
          rw [upd_ne b2, del_ne b1]; exact hb
        have gr : Grow F1 H1 F1 (upd (del H2 a) d (.xd (ns.zip us))) := ⟨List.prefix_refl _, fun b o hb hf => by
          have b1 : b ≠ a := fun z => by rw [z, ha] at hb; cases hb
          have b2 : b ≠ d := fun z => by rw [z, hd1] at hb; cases hb
          rw [upd_ne b2, del_ne b1]
          exact k2 b o b1 (.inl hf) (by rw [upd_ne b1]; exact hb), fun b hb => .inl hb, fun b o hb hf => by
          have b1 : b ≠ a := fun z => by rw [z, ha] at hb; cases hb
          have b2 : b ≠ d := fun z => by rw [z, hd1] at hb; cases hb
          rw [upd_ne b2, del_ne b1]
          exact k2 b o b1 (.inr hf) (by rw [upd_ne b1]; exact hb)⟩
        exact q F1 _ σ (some d) (g1.trans gr) (R2.ext kk) (RS.e.mono (g1.trans gr) RS.m.good) (.so upd_same hnn hul (r2.ext kk))
    · rw [if_neg hl] at q; exact q.elim
theorem ds_raiseX0 (T : OexC X.K (g.ca c)) (iC : PySem.W.findIn X.K (.ref (g.ca c)) "__init__" = some (some (.ref fI))) (tI : PySem.W.typeIn X.K (.ref fI) = some (.type "function"))
    (F1 : FnOk X.prog X.w X.K X.mg X.base (L2N.CX X.prog X.w) k fI fd ps (spX g c n ns f)) (hr : Room (k + 1) X.A) (tk : L2N.Takes X W.w) (hb : Binds X.K fd ps []) (hm : X.mg x = some (.ref (g.ca c))) (hnn : ns ≠ [] := by decide) (hn : n ≤ 100 := by decide) (hlen : ∀ ds : List D, ds.length = n → (f ds).length = ns.length := by exact fun _ _ => rfl)
    (hc : X.calm = true := by rfl) (hg : Gl X x := by rfl) (hdb : (x == ("__debug__" : Str)) = false := by decide) :
    PS X (.Raise (some (.Call (.Name x p) [] [] pos)) none pos2) (tS g W (sRaiseX c n ns f eNil)) :=
  ps_imp (L2N.ps_raise hc tk (pmk_oex0 T iC tI F1 hr hb hg hm hdb)) fun E σ H q => raiseX_imp (t := tNil) hnn hn hlen (fun σ H Q ⟨F, e, M, RS, q⟩ => q.here RS.m .nil) q
end
end T2
namespace T2
open PySem L2 PyProof.Rows

/-! ### within a suite: isinstance(n, C) and n.f, n an exception with fields -/
section
variable {X : Cx} {g : Wd} {W : WY} {a b : Expr} {pos p apos : Pos} {m1 m2 m3 : EM} {ma : AM} {es : List Expr} {s1 : SM}
/-! ### try: body, except C: suite -/
def sTry0 (ct : Nat → Option Bool) (body : SM) (suite : SM) : SM := fun e M => match body e M with
  | .ex c ns ds e1 M1 => match ct c with
    | some true => match suite e1 M1 with
      | .ex _ _ _ _ _ => .bad
      | r => r
    | some false => .ex c ns ds e1 M1
    | none => .bad
  | r => r
/-! ### defs called where an exception is handled -/
variable {k n : Nat} {f : Addr} {fd : FuncData} {ps : List Str} {m : List D → MH → Res D} {x : Str}
end
theorem takesN0 {X : Cx} : L2N.Takes X (fun _ _ _ _ => False) := fun _ _ x => by
  obtain ⟨_, _, _, _, _, _, _, _, _, _, _, _, _, _, _, _, z⟩ := x
  exact z.elim
end T2
namespace T2
open PySem L2 PyProof.Rows

/-- an own exception's __init__ in the text -/
structure OIn (P : Program) (K : PySem.W.Frag) (mg : Str → Option Value) (C : Addr) (nm qual : Str) (st : Stmt) (f : Addr) (fd : FuncData) : Prop where
  ex : ∃ cc cda oc od osl kV doc pm an ct, fd = PySem.W.ksFn nm qual (defArgs st) (defBody st) (defScope st) .none kV doc pm an (.ref cda) ct cc ∧ K.lookup f = some ⟨oc, od, .func fd, osl⟩ ∧ PySem.W.codeIn K (.ref cda) qual = true ∧ SupIn P K mg C f cc cda fd
theorem initX_ok {P : Program} {w : World} {K : PySem.W.Frag} {mg : Str → Option Value} {base : Heap} {g : Wd} {c n k : Nat} {f : Addr} {fd : FuncData} {nm qual : Str} {st : Stmt} {ps' ns : List Str}
    {txt : Str} {j : Nat} {p0 p1 p2 p3 p4 p5 : Pos} {rest : List Stmt} {l : List (Str × EM)} {acc : List D → List (Str × D)} {fm : List D → List D} {pl : Addr → Addr → Addr → Addr → Sem Bool}
    (O : OIn P K mg (g.ca c) nm qual st f fd) (S : ScopeS ("self" :: ps') ("self" :: ps') (defScope st)) (T : OexC K (g.ca c)) (hb : defBody st = supSt txt j p0 p1 p2 p3 p4 p5 :: rest) (hn : ps'.length = n)
    (he : ∀ L f cda cc, eval (.Call (.Attribute (.Call (.Name "super" p0) [] [] p1) "__init__" p2) [.Constant (.str txt) j p3] [] p4) (PySem.W.ksEnv qual (defScope st) L f (.ref cda) cc) = (do
      let ov ← attributeBase (.Call (.Name "super" p0) [] [] p1) "__init__" (PySem.W.ksEnv qual (defScope st) L f (.ref cda) cc) (eval (.Call (.Name "super" p0) [] [] p1) (PySem.W.ksEnv qual (defScope st) L f (.ref cda) cc))
      standAt p2.atName
      let (f', first) ← holding [ov] (getMethod ov "__init__" (pl L f cda cc))
      callWith p4 f' first (backTo p4 (starEach [.Constant (.str txt) j p3] (PySem.W.ksEnv qual (defScope st) L f (.ref cda) cc))) []))
    (hi : ∀ L f cda cc, interactive (PySem.W.ksEnv qual (defScope st) L f (.ref cda) cc) = false)
    (hst : ∀ cda cc A outer s H E, Sto (cxS (L2N.CX P w) P w K mg base ("self" :: ps') qual (defScope st) f (.ref cda) cc A outer s H E) g (g.ca c) rest l)
    (hev : ∀ a ds M, ds.length = n → evs (some (.obj a) :: ds.map some) M l (acc ds)) (hns : ∀ ds, ((acc ds).map (·.1)).reverse = ns) (hfm : ∀ ds, ((acc ds).map (·.2)).reverse = fm ds) (hnn : ns ≠ []) (hll : l.length ≤ 100) :
    FnOk P w K mg base (L2N.CX P w) (k + 1) f fd ("self" :: ps') (spX g c n ns fm) := by
  obtain ⟨cc, cda, oc, od, osl, kV, doc, pm, an, ct, rfl, lk, hcd, U⟩ := O.ex
  rw [hb] at lk U ⊢
  have := fnX_ok (w := w) (base := base) (k := k) (pl := fun L => pl L f cda cc) lk hcd S T U hn (fun L => he L f cda cc) (fun L => hi L f cda cc) (fun A outer s H E => hst cda cc A outer s H E) hev hns hnn hll
  rwa [show (fun ds => ((acc ds).map (·.2)).reverse) = fm from funext hfm] at this
end T2
namespace T2
open PySem L2 PyProof.Rows

/-! ### list + list -/
def rCatLS (K : PySem.W.Frag) : R2 := fun x y H Q => ∃ l b xs zs, x = .ref l ∧ y = .ref b ∧ SqL K H l xs ∧ SqL K H b zs ∧ xs.length + zs.length ≤ sizeLine ∧ ∀ p, H p = none → Q (.ref p) (upd H p (.lst (xs ++ zs)))
theorem op_catLS {X : Cx} : OpR X (binaryOp .Add) (rCatLS X.K) := by
  intro pins s σ H x y v u Q I rx ry h
  obtain ⟨l, b, xs, zs, rfl, rfl, ha, hb, hz, q⟩ := h
  cases rx; cases ry
  obtain ⟨its, r, ⟨⟨oc, od, oda, osl⟩, n, e, hc, hd, ho⟩, _⟩ := I.list ha
  obtain ⟨its2, r2, ⟨⟨oc2, od2, oda2, osl2⟩, n2, e2, hc2, hd2, ho2⟩, _⟩ := I.list hb
  dsimp only at hc hd ho hc2 hd2 ho2
  subst hc hd ho hc2 hd2 ho2
  have hl1 := r.length
  have hl2 := r2.length
  have sz : its.toArray.size + its2.toArray.size ≤ sizeLine := by rw [List.size_toArray, List.size_toArray]; omega
  refine PySem.concat_meets ⟨_, e, rfl⟩ ⟨_, e2, rfl⟩ PySem.noFill_list_add PySem.seq_list_add F.slot_list_add F.entry_list_add (F.args_list_add_2 _ _) (PyProof.Rows.list_addW l b its.toArray its2.toArray n n2 none none osl osl2 sz) ⟨e, e2, ?_⟩
  have ea : its.toArray ++ its2.toArray = (its ++ its2).toArray := by simp
  rw [ea]
  exact ⟨.ref _, _, I.lnew (t' := s.toks) (r.append r2) (by rw [List.length_append]; omega), rfl, q _ I.fresh⟩
def dCat (mk : List D → MH → Res D) (x y : D) (M : MH) : Res D := match listItems M x, listItems M y with
  | some xs, some ys => if xs.length + ys.length ≤ big then mk (xs ++ ys) M else .bad
  | _, _ => .bad
section
variable {X : Cx} {g : Wd} {W : WY} {a b : Expr} {pos : Pos} {m1 m2 : EM}
theorem listItems_at {F : List Addr} {M : MH} {H : Hp} {x : D} {v : V} {ds : List D} (R : RelM g F M H) (r : Rep g F H x v) (h : listItems M x = some ds) : ∃ a vs, v = .ref a ∧ SqL g.K H a vs ∧ Reps g F H ds vs := by
  cases r with
  | fro hf r => cases h; exact ⟨_, _, rfl, hf.sq, r⟩
  | @ref n ad hn =>
    unfold listItems at h
    dsimp only at h
    split at h
    · rename_i ys hm
      cases h
      obtain ⟨o, e, ro⟩ := R.obj n ad _ hn hm
      cases ro with | lst r => exact ⟨_, _, rfl, SqL.of e, r⟩
    · cases h
  | _ => cases h
theorem sim_cat (hK : g.K = X.K) {mk : List D → MH → Res D} (hmk : MkOk g mk) : Sim2 g (dCat mk) (rCatLS X.K) := fun F M σ H W x y v w Q R rx ry q => by
  unfold dCat at q
  split at q
  · rename_i xs ys h1 h2
    obtain ⟨a1, v1, rfl, s1, r1⟩ := listItems_at R rx h1
    obtain ⟨a2, v2, rfl, s2, r2⟩ := listItems_at R ry h2
    split at q
    · rename_i hl
      exact ⟨a1, a2, v1, v2, rfl, rfl, by rw [← hK]; exact s1, by rw [← hK]; exact s2, by rw [← r1.length, ← r2.length]; exact bigLine hl, fun p hp => hmk W F M H σ Q _ _ p R (r1.append r2) q hp⟩
    · exact q.elim
  · exact q.elim
theorem de_cat (hK : g.K = X.K) {mk : List D → MH → Res D} (hmk : MkOk g mk) (ha : PE X a (tD g W m1)) (hb : PE X b (tD g W m2)) : PE X (.BinOp a .Add b pos) (tD g W (eBin (dCat mk) m1 m2)) := de_op op_catLS (sim_cat hK hmk) ha hb
end
end T2
namespace T2
open PySem L2 PyProof.Rows

/-! ### def f(a, .., *v) -/
section
variable {X : Cx} {g : Wd} {W : WY} {a e : Expr} {es : List Expr} {pos p ps0 : Pos} {m1 : EM} {ma : AM} {k n : Nat} {f : Addr} {m : List D → MH → Res D} {x : Str}
end

/-! ### C(k = v, ..): an instance that may change, its __init__ with keyword-only parameters -/
section
variable {X : Cx} {g : Wd} {W : WY} {pos p : Pos} {mk : AM} {kws : List Keyword} {k n N : Nat} {f : Addr} {fd : FuncData} {ps ks : List Str} {m : List D → MH → Res D} {x : Str} {c : Nat}
end
end T2
namespace T2
open PySem L2 PyProof.Rows

/-! ### targets that are tuples of names -/
def setAll (e : Env2) : List Nat → List D → Env2
  | i :: is, d :: ds => setAll (e.set i (some d)) is ds
  | _, _ => e
def tgTup (is : List Nat) : TgM := fun d e => match d with
  | .tup ds => if ds.length = is.length then some (setAll e is ds) else none
  | _ => none
def gNs : List Nat → TGs
  | [] => gNil
  | i :: is => gCons (gName i) (gNs is)
theorem gNs_run {g : Wd} {F : List Addr} {M : MH} {H : Hp} (R : RelM g F M H) : ∀ (is : List Nat) (e : Env2) (σ : L2.St) (ds : List D) (vs : List V) (Q : L2.St → Hp → Prop), ds.length = is.length → EnvR g F H e σ → Reps g F H ds vs → (∀ σ1, EnvR g F H (setAll e is ds) σ1 → Q σ1 H) → gNs is vs σ H Q
  | [], e, σ, ds, vs, Q, hl, RE, r, k => by
    have : ds = [] := List.eq_nil_of_length_eq_zero hl
    subst this
    cases r
    exact ⟨rfl, k σ RE⟩
  | i :: is, e, σ, ds, vs, Q, hl, RE, r, k => by
    cases r with
    | nil => cases hl
    | cons h t => exact ⟨_, _, rfl, gNs_run R is _ _ _ _ Q (by simpa using hl) (RE.set h i) t k⟩
theorem tgTup_sim {g : Wd} {K : PySem.W.Frag} (hK : g.K = K) (is : List Nat) : TgSim g (tgTup is) (gTup K is.length (gNs is)) := fun F M e e1 σ H x v Q R RE r h k => by
  unfold tgTup at h
  cases r with
  | tup hs rs =>
    dsimp only at h
    split at h
    · rename_i hl
      cases h
      exact ⟨_, _, rfl, by rw [← hK]; exact hs, by rw [← rs.length]; exact hl, gNs_run R is e σ _ _ Q hl RE rs k⟩
    · cases h
  | _ => cases h

/-! ### zip of two tuples -/
section
variable {g : Wd}
end

/-! ### all, any of a list of bools -/
/-! ### x in a list or tuple of data of any depth -/
section
variable {X : Cx} {g : Wd} {W : WY} {a b : Expr} {pos p : Pos} {m1 m2 : EM} {ma : AM} {es : List Expr}
end
end T2
namespace T2
open PySem L2 PyProof.Rows

/-! ### l.pop(i), l[::-1], a, b = e -/
theorem Reps.reverse {g : Wd} {F : List Addr} {H : Hp} : ∀ {ds : List D} {vs : List V}, Reps g F H ds vs → Reps g F H ds.reverse vs.reverse
  | _, _, .nil => .nil
  | _, _, .cons h t => by rw [List.reverse_cons, List.reverse_cons]; exact (Reps.reverse t).append (.cons h .nil)
section
variable {X : Cx} {g : Wd} {W : WY} {a b o : Expr} {pos p apos : Pos} {m1 m2 m3 : EM} {ma : AM} {es : List Expr}
/-! ### dicts with int and text keys: d[k] = v, d.get, d.pop -/
def kPutD {κ A : Type} [DecidableEq κ] (x : κ) (d : A) (ks : List κ) (ds : List A) : List κ × List A := if x ∈ ks then (ks, List.zipWith (fun k y => if k = x then d else y) ks ds) else (ks ++ [x], ds ++ [d])
theorem putK_zip {κ : Type} [DecidableEq κ] {x : κ} {v : V} : ∀ {ks : List κ} {vs : List V}, ks.length = vs.length → putK (ks.zip vs) x v = (kPutD x v ks vs).1.zip (kPutD x v ks vs).2 := by
  intro ks vs hl
  have hmem : ∀ {ks : List κ} {vs : List V}, ks.length = vs.length → (((ks.zip vs).any fun kv => decide (kv.1 = x)) = true ↔ x ∈ ks) := by
    intro ks
    induction ks with
    | nil => intro vs _; simp
    | cons k ks ih =>
      intro vs hl
      cases vs with
      | nil => cases hl
      | cons u vs =>
        have := ih (vs := vs) (by simpa using hl)
        rw [List.zip_cons_cons, List.any_cons, Bool.or_eq_true, this, List.mem_cons]
        simp only [decide_eq_true_eq]
        constructor
        · rintro (h | h)
          · exact .inl h.symm
          · exact .inr h
        · rintro (h | h)
          · exact .inl h.symm
          · exact .inr h
  have hmap : ∀ {ks : List κ} {vs : List V}, (ks.zip vs).map (fun kv => if kv.1 = x then (kv.1, v) else kv) = ks.zip (List.zipWith (fun k y => if k = x then v else y) ks vs) := by
    intro ks
    induction ks with
    | nil => intro vs; simp
    | cons k ks ih =>
      intro vs
      cases vs with
      | nil => simp
      | cons u vs =>
        rw [List.zip_cons_cons, List.map_cons, ih, List.zipWith_cons_cons, List.zip_cons_cons]
        by_cases h : k = x
        · simp [h]
        · simp [h]
  unfold putK kPutD
  by_cases h : x ∈ ks
  · rw [if_pos ((hmem hl).mpr h), if_pos h]; exact hmap
  · rw [if_neg (fun z => h ((hmem hl).mp z)), if_neg h, List.zip_append hl]; rfl
theorem kPutD_len {κ A B : Type} [DecidableEq κ] {x : κ} {d : A} {v : B} {ks : List κ} {ds : List A} {vs : List B} (h : ds.length = vs.length) : (kPutD x d ks ds).1 = (kPutD x v ks vs).1 ∧ (kPutD x d ks ds).2.length = (kPutD x v ks vs).2.length := by
  unfold kPutD
  by_cases hx : x ∈ ks
  · rw [if_pos hx, if_pos hx]; simp [h]
  · rw [if_neg hx, if_neg hx]; simp [h]
theorem kPutD_one {κ A : Type} [DecidableEq κ] {x : κ} {d : A} {ks : List κ} {ds : List A} (h : ks.length = ds.length) : (kPutD x d ks ds).1.length = (kPutD x d ks ds).2.length := by
  unfold kPutD
  by_cases hx : x ∈ ks
  · rw [if_pos hx]; simp [h]
  · rw [if_neg hx]; simp [h]
theorem kPutD_rep {F : List Addr} {H : Hp} {κ : Type} [DecidableEq κ] {x : κ} {d : D} {v : V} (r : Rep g F H d v) {ks : List κ} {ds : List D} {vs : List V} (rs : Reps g F H ds vs) : Reps g F H (kPutD x d ks ds).2 (kPutD x v ks vs).2 := by
  unfold kPutD
  by_cases hx : x ∈ ks
  · rw [if_pos hx, if_pos hx]
    have : ∀ {ks : List κ} {ds : List D} {vs : List V}, Reps g F H ds vs → Reps g F H (List.zipWith (fun k y => if k = x then d else y) ks ds) (List.zipWith (fun k y => if k = x then v else y) ks vs) := by
      intro ks
      induction ks with
      | nil => intro ds vs _; simp; exact .nil
      | cons k ks ih =>
        intro ds vs rs
        cases rs with
        | nil => simp; exact .nil
        | cons h t =>
          rw [List.zipWith_cons_cons, List.zipWith_cons_cons]
          by_cases hk : k = x
          · rw [if_pos hk, if_pos hk]; exact .cons r (ih t)
          · rw [if_neg hk, if_neg hk]; exact .cons h (ih t)
    exact this rs
  · rw [if_neg hx, if_neg hx]; exact rs.append (.cons r .nil)
def dSetD (o i x : D) (M : MH) : Option MH := match o with
  | .ref n => match M[n]? with
    | some (.dk ks ds) => (match keyOf i with
      | some k => if ds.length ≤ 1000 then some (M.set n (.dk (kPutD k x ks ds).1 (kPutD k x ks ds).2)) else none
      | none => none)
    | _ => none
  | _ => none
theorem sim_setD : Sim3 g dSetD rSetD := fun F M M' H o i x vo vi vx Q R ro ri rx h k => by
  unfold dSetD at h
  split at h
  · rename_i n
    cases ro with | ref hn =>
    rename_i ad
    split at h
    · rename_i ks ds hm
      obtain ⟨vs, hv, hl, r⟩ := dk_at R hn hm
      split at h
      · rename_i ky hk
        split at h
        · rename_i hz
          cases h
          have ev := key_rep ri hk
          subst ev
          have e2 := kPutD_len (x := ky) (d := x) (v := vx) (ks := ks) r.length
          refine ⟨ad, _, rfl, DPut.k hv (by rw [List.length_zip]; have := r.length; exact Nat.lt_of_lt_of_le (by omega : _ < 1002) (by decide)), ?_⟩
          rw [putK_zip hl]
          obtain ⟨g1, R1⟩ := R.put (o := .dK ((kPutD ky vx ks vs).1.zip (kPutD ky vx ks vs).2)) (m := .dk (kPutD ky x ks ds).1 (kPutD ky x ks ds).2) hn trivial fun H' gr => by
            rw [e2.1]
            exact .dk (kPutD_one hl) (kPutD_rep (rx.mono gr R.good) (r.mono gr R.good))
          exact k _ g1 R1
        · cases h
      · cases h
    · cases h
  · cases h
theorem ds_setD {i : Expr} {pos' : Pos} (hu : X.A.units + 1 < cLine) (ho : PE X o (tD g W m1)) (hi : PE X i (tD g W m2)) (hv : PE X a (tD g W m3))
    (hass : ∀ v, assign (.Subscript o i pos') X.env v = (do
      let ov ← holding [v] (eval o X.env)
      let iv ← holding [v, ov] (eval i X.env)
      standAt pos'
      holding [v, ov, iv] (setItem ov iv v)
      release [v, ov, iv] []) := by intro _; rfl)
    (hs : swapsWithSole [.Subscript o i pos'] a pos.line X.env = pure false := by rfl) (hw : swappedStores [.Subscript o i pos'] a X.env = pure none := by rfl) (h1 : (assignEach [.Subscript o i pos'] X.env).map (·.2) = [assign (.Subscript o i pos') X.env] := by rfl) :
    PS X (.Assign [.Subscript o i pos'] a pos) (tS g W (sSetIx dSetD m1 m2 m3)) := ds_setIx (set_dict hu) sim_setD ho hi hv hass hs hw h1
def eDGet2 (mo mk mx : EM) : EM := fun e M => (mo e M).bind fun x M1 => match x with
  | .ref n => match M1[n]? with
    | some (.dk _ _) => (mk e M1).bind fun y M2 => (mx e M2).bind fun z M3 => match M3[n]?, keyOf y with
      | some (.dk ks ds), some k => .ok ((kGet ks ds k).getD z) M3
      | _, _ => .bad
    | _ => .bad
  | _ => .bad
theorem kGet_opt {F : List Addr} {H : Hp} {κ : Type} [DecidableEq κ] {k : κ} {ks : List κ} {ds : List D} {vs : List V} (r : Reps g F H ds vs) {z : D} {vz : V} (rz : Rep g F H z vz) : Rep g F H ((kGet ks ds k).getD z) ((valV (ks.zip vs) k).getD vz) := by
  have h := kGet_rep (x := k) (ks := ks) r
  cases hk : kGet ks ds k with
  | none => rw [hk] at h; rw [h]; exact rz
  | some d => rw [hk] at h; obtain ⟨v, h1, h2⟩ := h; rw [h1]; exact h2
theorem de_dget2 {f : Expr} (hu : X.A.units + 1 < cLine) (ho : PE X o (tD g W m1)) (hk : PE X a (tD g W m2)) (hf : PE X f (tD g W m3)) (m : M2 X o "get" apos a f pos := by exact ⟨rfl, rfl, rfl, rfl⟩) : PE X (.Call (.Attribute o "get" apos) [a, f] [] pos) (tD g W (eDGet2 m1 m2 m3)) :=
  pe_imp (pe_dget2 hu ho hk hf m) fun σ H Q ⟨F, e, M, RS, q⟩ => ⟨F, e, M, RS, q.bind fun x M1 F1 H1 v e1 g1 R1 rx q1 => by
    cases x with
    | ref n =>
      cases rx with | ref hn =>
      dsimp only at q1
      split at q1
      · rename_i ks0 ds0 hm0
        obtain ⟨vs0, hv0, _, _⟩ := dk_at R1 hn hm0
        refine ⟨_, rfl, .inl ⟨_, .inl hv0⟩, F1, e, M1, RS.up g1 R1, q1.bind fun y M2 F2 H2 u e2 g2 R2 ry q2 => ?_⟩
        refine ⟨F2, e, M2, (RS.up g1 R1).up g2 R2, q2.bind fun z M3 F3 H3 w e3 g3 R3 rz q3 => ?_⟩
        have hn3 := pre_get g3.pre (pre_get g2.pre hn)
        split at q3
        · rename_i ks ds k hm hky
          obtain ⟨vs, hv, _, r⟩ := dk_at R3 hn3 hm
          have := key_rep ry hky
          subst this
          exact ⟨_, DGet.k hv, q3.here R3 (kGet_opt r rz)⟩
        · exact q3.elim
      · exact q1.elim
    | _ => exact q1.elim⟩
end

/-! ### for c in a text -/
def signsOf (z : Str) : List D := z.cps.toList.map fun c => .str ⟨#[c]⟩
def fStrI (d : D) (M : MH) : Res IV := match d with
  | .str z => .ok (.vals (signsOf z)) M
  | _ => .bad
def iStrD (m : EM) : Env2 → MH → Res IV := fun e M => (m e M).bind fStrI
theorem signs_len (z : Str) : (signsOf z).length = z.cps.size := by unfold signsOf; simp
theorem itV_str {g : Wd} {F : List Addr} {H : Hp} (z : Str) : ItV g (Its z) F H (signsOf z) where
  go := fun F' H' i gr hi => by rw [signs_len] at hi; exact hi
  yld := fun F' H' i x H2 gr hi hy => by
    obtain ⟨rfl, c, hc, rfl⟩ := hy
    refine ⟨fun _ _ q => q, .str ⟨#[c]⟩, ?_, .str _⟩
    unfold signsOf
    rw [List.getElem?_map, Array.getElem?_toList, hc]
    rfl
  stop := fun F' H' i gr hi => by rw [signs_len] at hi; exact hi
theorem itSim_str {g : Wd} {W : WY} {m1 : EM} : ItSim g W (iStrD m1) (iStr (tD g W m1)) := fun σ H F e M R RS q => by
  refine ⟨F, e, M, RS, ?_⟩
  unfold iStrD at q
  cases h1 : m1 e M with
  | bad => rw [h1] at q; exact q
  | exc c ns ds M' => rw [h1] at q; exact q
  | ok x M1 =>
    rw [h1] at q
    intro F1 H1 v g1 R1 rx
    cases rx with
    | str z => exact ⟨z, rfl, q F1 H1 _ g1 R1 (itV_str z)⟩
    | _ => exact q.elim
end T2
namespace T2
open PySem L2

/-! ### evaluation by rewriting: each construct's parts first, then the rest -/
section
variable {A B : Type} {e e1 : Env2} {M M1 : MH} {d x y : D} {c : Nat} {ns : List Str} {ds xs : List D} {k : Bool}
def qSeq (r : SR) (b : SM) : SR := match r with
  | .nx e1 M1 => b e1 M1
  | r => r
theorem z_seq {a b : SM} : sSeq a b e M = qSeq (a e M) b := rfl
theorem z_seq_nx {b : SM} : qSeq (.nx e1 M1) b = b e1 M1 := rfl
theorem z_seq_rt {b : SM} : qSeq (.rt d M1) b = .rt d M1 := rfl
theorem z_seq_ex {b : SM} : qSeq (.ex c ns ds e1 M1) b = .ex c ns ds e1 M1 := rfl
theorem z_seq_bk {b : SM} : qSeq (.bk e1 M1) b = .bk e1 M1 := rfl
theorem z_seq_ct {b : SM} : qSeq (.ct e1 M1) b = .ct e1 M1 := rfl
def qIf (r : Res Bool) (e : Env2) (a b : SM) : SR := r.toSB e fun k M1 => if k = true then a e M1 else b e M1
theorem z_if {c : BM} {a b : SM} : sIf c a b e M = qIf (c e M) e a b := rfl
theorem z_if_t {a b : SM} : qIf (.ok true M1) e a b = a e M1 := rfl
theorem z_if_f {a b : SM} : qIf (.ok false M1) e a b = b e M1 := rfl
theorem z_if_x {a b : SM} : qIf (.exc c ns ds M1) e a b = .ex c ns ds e M1 := rfl
def qSet (i : Nat) (e : Env2) (r : Res D) : SR := r.toS e fun d M1 => .nx (e.set i (some d)) M1
theorem z_set {i : Nat} {m : EM} : sSet i m e M = qSet i e (m e M) := rfl
theorem z_set_ok {i : Nat} : qSet i e (.ok d M1) = .nx (e.set i (some d)) M1 := rfl
theorem z_set_x {i : Nat} : qSet i e (.exc c ns ds M1) = .ex c ns ds e M1 := rfl
def qRet (e : Env2) (r : Res D) : SR := r.toS e fun d M1 => .rt d M1
theorem z_ret {m : EM} : sRet m e M = qRet e (m e M) := rfl
theorem z_ret_ok : qRet e (.ok d M1) = .rt d M1 := rfl
theorem z_ret_x : qRet e (.exc c ns ds M1) = .ex c ns ds e M1 := rfl
theorem z_retN : sRetN e M = .rt .non M := rfl
def qDo (e : Env2) (r : Res D) : SR := r.toS e fun _ M1 => .nx e M1
theorem z_do {m : EM} : sDo m e M = qDo e (m e M) := rfl
theorem z_do_ok : qDo e (.ok d M1) = .nx e M1 := rfl
theorem z_do_x : qDo e (.exc c ns ds M1) = .ex c ns ds e M1 := rfl
theorem z_nil : sNil e M = .nx e M := rfl
theorem z_raise0 {c : Nat} : sRaise0 c e M = .ex c [] [] e M := rfl
def qRaise (c n : Nat) (ns : List Str) (f : List D → List D) (e : Env2) (r : Res (List D)) : SR := match r with
  | .ok ds M1 => if ds.length = n then .ex c ns (f ds) e M1 else .bad
  | .exc c ns ds M1 => .ex c ns ds e M1
  | .bad => .bad
theorem z_raise {n : Nat} {f : List D → List D} {ma : AM} : sRaiseX c n ns f ma e M = qRaise c n ns f e (ma e M) := by unfold sRaiseX qRaise; cases ma e M <;> rfl
theorem z_raise_ok {n : Nat} {f : List D → List D} (h : ds.length = n) : qRaise c n ns f e (.ok ds M1) = .ex c ns (f ds) e M1 := if_pos h
theorem z_toR_rt : toR (.rt d M) = .ok d M := rfl
theorem z_toR_nx : toR (.nx e M) = .ok .non M := rfl
theorem z_toR_ex : toR (.ex c ns ds e M) = .exc c ns ds M := rfl
theorem z_fn {n : Nat} {b : SM} : fnB n b ds M = toR (b (env0 n ds) M) := rfl

/-! expressions -/
theorem z_c : eC d e M = .ok d M := rfl
def qVar (o : Option (Option D)) (M : MH) : Res D := match o with
  | some (some d) => .ok d M
  | _ => .bad
theorem z_var {n : Nat} : eVar n e M = qVar e[n]? M := rfl
theorem z_var_ok : qVar (some (some d)) M = .ok d M := rfl
def qUn (f : D → MH → Res D) (r : Res D) : Res D := r.bind f
theorem z_un {f : D → MH → Res D} {a : EM} : eUn f a e M = qUn f (a e M) := rfl
theorem z_un_ok {f : D → MH → Res D} : qUn f (.ok x M1) = f x M1 := rfl
theorem z_un_x {f : D → MH → Res D} : qUn f (.exc c ns ds M1) = .exc c ns ds M1 := rfl
def qBin (f : D → D → MH → Res D) (r : Res D) (b : EM) (e : Env2) : Res D := r.bind fun x M1 => (b e M1).bind fun y M2 => f x y M2
theorem z_bin {f : D → D → MH → Res D} {a b : EM} : eBin f a b e M = qBin f (a e M) b e := rfl
theorem z_bin_ok {f : D → D → MH → Res D} {b : EM} : qBin f (.ok x M1) b e = qUn (f x) (b e M1) := rfl
theorem z_bin_x {f : D → D → MH → Res D} {b : EM} : qBin f (.exc c ns ds M1) b e = .exc c ns ds M1 := rfl
theorem z_anil : eNil e M = .ok [] M := rfl
def qC2 (x : D) (r : Res (List D)) : Res (List D) := r.bind fun xs M2 => .ok (x :: xs) M2
def qC1 (r : Res D) (b : AM) (e : Env2) : Res (List D) := r.bind fun x M1 => (b e M1).bind fun xs M2 => .ok (x :: xs) M2
theorem z_cons {a : EM} {b : AM} : eCons a b e M = qC1 (a e M) b e := rfl
theorem z_cons1 {b : AM} : qC1 (.ok x M1) b e = qC2 x (b e M1) := rfl
theorem z_cons1x {b : AM} : qC1 (.exc c ns ds M1) b e = .exc c ns ds M1 := rfl
theorem z_cons2 : qC2 x (.ok xs M1) = .ok (x :: xs) M1 := rfl
theorem z_cons2x : qC2 x (.exc c ns ds M1) = .exc c ns ds M1 := rfl
def qArgs (f : List D → MH → Res D) (r : Res (List D)) : Res D := r.bind f
theorem z_args {f : List D → MH → Res D} {a : AM} : eArgs f a e M = qArgs f (a e M) := rfl
theorem z_args_ok {f : List D → MH → Res D} : qArgs f (.ok xs M1) = f xs M1 := rfl
theorem z_args_x {f : List D → MH → Res D} : qArgs f (.exc c ns ds M1) = .exc c ns ds M1 := rfl
def fTup (ds : List D) (M : MH) : Res D := if ds.length ≤ 1000 then .ok (.tup ds) M else .bad
theorem z_tup {a : AM} : eTup a e M = qArgs fTup (a e M) := rfl
theorem z_tup_ok (h : xs.length ≤ 1000) : fTup xs M = .ok (.tup xs) M := if_pos h
def fFro (ds : List D) (M : MH) : Res D := if ds.length ≤ 1000 then .ok (.fro ds) M else .bad
theorem z_fro {a : AM} : eFro a e M = qArgs fFro (a e M) := rfl
theorem z_fro_ok (h : xs.length ≤ 1000) : fFro xs M = .ok (.fro xs) M := if_pos h
def fLst (ds : List D) (M : MH) : Res D := if ds.length ≤ 1000 then .ok (.ref M.length) (M ++ [.lst ds]) else .bad
theorem z_lst {a : AM} : eLst a e M = qArgs fLst (a e M) := rfl
theorem z_lst_ok (h : xs.length ≤ 1000) : fLst xs M = .ok (.ref M.length) (M ++ [.lst xs]) := if_pos h
def fCall (n : Nat) (f : List D → MH → Res D) (ds : List D) (M : MH) : Res D := if ds.length = n then f ds M else .bad
theorem z_call {n : Nat} {f : List D → MH → Res D} {a : AM} : eCall n f a e M = qArgs (fCall n f) (a e M) := rfl
theorem z_stat {c n : Nat} {f : List D → MH → Res D} {a : AM} : eStat c n f a e M = qArgs (fCall n f) (a e M) := rfl
theorem z_call_ok {n : Nat} {f : List D → MH → Res D} (h : xs.length = n) : fCall n f xs M = f xs M := if_pos h
def qK (n k : Nat) (gD : List D → List D → List D) (f : List D → MH → Res D) (ds : List D) (r : Res (List D)) : Res D := r.bind fun zs M2 => if ds.length = n ∧ zs.length = k then f (gD ds zs) M2 else .bad
def qK1 (n k : Nat) (gD : List D → List D → List D) (f : List D → MH → Res D) (r : Res (List D)) (mk : AM) (e : Env2) : Res D := r.bind fun ds M1 => (mk e M1).bind fun zs M2 => if ds.length = n ∧ zs.length = k then f (gD ds zs) M2 else .bad
theorem z_callk {n k : Nat} {gD : List D → List D → List D} {f : List D → MH → Res D} {ma mk : AM} : eCallK n k gD f ma mk e M = qK1 n k gD f (ma e M) mk e := rfl
theorem z_callk1 {n k : Nat} {gD : List D → List D → List D} {f : List D → MH → Res D} {mk : AM} : qK1 n k gD f (.ok xs M1) mk e = qK n k gD f xs (mk e M1) := rfl
theorem z_callk2 {n k : Nat} {gD : List D → List D → List D} {f : List D → MH → Res D} {zs : List D} (h1 : xs.length = n) (h2 : zs.length = k) : qK n k gD f xs (.ok zs M1) = f (gD xs zs) M1 := if_pos ⟨h1, h2⟩
def fMakeF (c : Nat) (fs : List Str) (ds : List D) (M : MH) : Res D := if ds.length = fs.length then .ok (.ins c fs ds) M else .bad
theorem z_mkF {c : Nat} {fs : List Str} {a : AM} : eMakeF c fs a e M = qArgs (fMakeF c fs) (a e M) := rfl
theorem z_mkF_ok {c : Nat} {fs : List Str} (h : xs.length = fs.length) : fMakeF c fs xs M = .ok (.ins c fs xs) M := if_pos h
def fOwn1 (c : Nat) (f : List D → MH → Res D) (x : D) (M1 : MH) : Res D := match instOf M1 x with
  | some (c1, _, _) => if c1 = c then f [x] M1 else .bad
  | none => .bad
theorem z_own1 {c : Nat} {f : List D → MH → Res D} {a : EM} : eOwn1 c f a e M = qUn (fOwn1 c f) (a e M) := rfl
theorem z_own1_ok {c : Nat} {f : List D → MH → Res D} : fOwn1 c f (.ins c ns ds) M = f [.ins c ns ds] M := if_pos rfl
theorem z_prop {c : Nat} {f : List D → MH → Res D} {a : EM} : eProp c f a e M = qUn (fOwn1 c fun ds M => okR (f ds M)) (a e M) := rfl
def fOwn2 (c : Nat) (f : List D → MH → Res D) (x y : D) (M2 : MH) : Res D := if both M2 c x y = true then f [x, y] M2 else .bad
theorem z_own2 {c : Nat} {f : List D → MH → Res D} {a b : EM} : eOwn2 c f a b e M = qBin (fOwn2 c f) (a e M) b e := rfl
theorem z_own2_ok {c : Nat} {f : List D → MH → Res D} {ns' : List Str} {ds' : List D} : fOwn2 c f (.ins c ns ds) (.ins c ns' ds') M = f [.ins c ns ds, .ins c ns' ds'] M := by
  unfold fOwn2; rw [if_pos]; unfold both instOf; simp

/-! tests -/
def qVal (r : Res D) : Res Bool := r.bind asB
theorem z_val {m : EM} : bVal m e M = qVal (m e M) := rfl
theorem z_val_ok : qVal (.ok (.bl k) M1) = .ok k M1 := rfl
theorem z_val_x : qVal (.exc c ns ds M1) = .exc c ns ds M1 := rfl
def qAnd (r : Res Bool) (b : BM) (e : Env2) : Res Bool := r.bind fun c M1 => if c = true then b e M1 else .ok false M1
theorem z_and {a b : BM} : bAnd a b e M = qAnd (a e M) b e := rfl
theorem z_and_t {b : BM} : qAnd (.ok true M1) b e = b e M1 := rfl
theorem z_and_f {b : BM} : qAnd (.ok false M1) b e = .ok false M1 := rfl
def qOr (r : Res Bool) (b : BM) (e : Env2) : Res Bool := r.bind fun c M1 => if c = true then .ok true M1 else b e M1
theorem z_or {a b : BM} : bOr a b e M = qOr (a e M) b e := rfl
theorem z_or_t {b : BM} : qOr (.ok true M1) b e = .ok true M1 := rfl
theorem z_or_f {b : BM} : qOr (.ok false M1) b e = b e M1 := rfl
def qNot (r : Res Bool) : Res Bool := r.bind fun c M1 => .ok (!c) M1
theorem z_not {a : BM} : bNot a e M = qNot (a e M) := rfl
theorem z_not_ok : qNot (.ok k M1) = .ok (!k) M1 := rfl
theorem z_yes : bYes e M = .ok true M := rfl
def qEAnd (r : Res D) (b : EM) (e : Env2) : Res D := match r with
  | .ok (.bl true) M1 => b e M1
  | .ok (.bl false) M1 => .ok (.bl false) M1
  | .ok _ _ => .bad
  | .exc c ns ds M1 => .exc c ns ds M1
  | .bad => .bad
theorem z_eand {a b : EM} : eAnd a b e M = qEAnd (a e M) b e := by
  show Res.bind _ _ = _
  cases a e M with
  | ok d M1 => cases d <;> first | rfl | (rename_i b; cases b <;> rfl)
  | _ => rfl
theorem z_eand_t {b : EM} : qEAnd (.ok (.bl true) M1) b e = b e M1 := rfl
theorem z_eand_f {b : EM} : qEAnd (.ok (.bl false) M1) b e = .ok (.bl false) M1 := rfl
def qEOr (r : Res D) (b : EM) (e : Env2) : Res D := match r with
  | .ok (.bl false) M1 => b e M1
  | .ok (.bl true) M1 => .ok (.bl true) M1
  | .ok _ _ => .bad
  | .exc c ns ds M1 => .exc c ns ds M1
  | .bad => .bad
theorem z_eor {a b : EM} : eOr a b e M = qEOr (a e M) b e := by
  show Res.bind _ _ = _
  cases a e M with
  | ok d M1 => cases d <;> first | rfl | (rename_i b; cases b <;> rfl)
  | _ => rfl
theorem z_eor_t {b : EM} : qEOr (.ok (.bl true) M1) b e = .ok (.bl true) M1 := rfl
theorem z_eor_f {b : EM} : qEOr (.ok (.bl false) M1) b e = b e M1 := rfl
def qENot (r : Res D) : Res D := match r with
  | .ok (.bl k) M1 => .ok (.bl (!k)) M1
  | .ok _ _ => .bad
  | .exc c ns ds M1 => .exc c ns ds M1
  | .bad => .bad
theorem z_enot {a : EM} : eNot a e M = qENot (a e M) := by
  show Res.bind _ _ = _
  cases a e M with
  | ok d M1 => cases d <;> rfl
  | _ => rfl
theorem z_enot_ok : qENot (.ok (.bl k) M1) = .ok (.bl (!k)) M1 := rfl
def qEIf (r : Res Bool) (a b : EM) (e : Env2) : Res D := r.bind fun k M1 => if k = true then a e M1 else b e M1
theorem z_eif {c : BM} {a b : EM} : eIf c a b e M = qEIf (c e M) a b e := rfl
theorem z_eif_t {a b : EM} : qEIf (.ok true M1) a b e = a e M1 := rfl
theorem z_eif_f {a b : EM} : qEIf (.ok false M1) a b e = b e M1 := rfl

/-! loops: what is walked first -/
def qIt (r : Res IV) (tg : TgM) (body : SM) (e : Env2) : SR := match r with
  | .ok (.vals ds) M1 => forV tg body ds e M1
  | .ok (.live n) M1 => match M1[n]? with
    | some (.lst ds) => forL tg body n ds.length 0 e M1
    | _ => .bad
  | .exc c ns ds M1 => .ex c ns ds e M1
  | .bad => .bad
theorem z_for {it : Env2 → MH → Res IV} {tg : TgM} {body : SM} : sForI it tg body e M = qIt (it e M) tg body e := by
  unfold sForI qIt
  cases it e M with
  | ok iv M1 => cases iv <;> rfl
  | _ => rfl
theorem z_for_v {tg : TgM} {body : SM} : qIt (.ok (.vals ds) M1) tg body e = forV tg body ds e M1 := rfl
def qSeqI (r : Res D) : Res IV := r.bind ivOf
theorem z_iseq {m : EM} : iSeq m e M = qSeqI (m e M) := rfl
theorem z_iseq_t : qSeqI (.ok (.tup ds) M1) = .ok (.vals ds) M1 := rfl
theorem z_iseq_f : qSeqI (.ok (.fro ds) M1) = .ok (.vals ds) M1 := rfl
theorem z_iseq_r {n : Nat} : qSeqI (.ok (.ref n) M1) = .ok (.live n) M1 := rfl
def fRng (d : D) (M1 : MH) : Res IV := match d with
  | .int j => if -(2 ^ 62) ≤ j ∧ j < 2 ^ 62 then .ok (.vals (rangeD 0 j.toNat)) M1 else .bad
  | _ => .bad
def qRng (r : Res D) : Res IV := r.bind fRng
theorem z_rng {a : EM} : iRange1 a e M = qRng (a e M) := rfl
theorem z_rng_ok {i : Int} (h0 : 0 ≤ i) (h : i < 1000000) : qRng (.ok (.int i) M1) = .ok (.vals (rangeD 0 i.toNat)) M1 := by
  unfold qRng fRng
  rw [Res.bind_ok]
  dsimp only
  rw [if_pos ⟨by omega, by omega⟩]
theorem z_env0 {n : Nat} {ds : List D} : env0 n ds = ds.map some ++ List.replicate (n - ds.length) none := rfl
/-! try -/
def qTry (i : Nat) (ct : Nat → Option Bool) (suite : Nat → List Str → List D → SM) (r : SR) : SR := match r with
  | .ex c ns ds e1 M1 => match ct c with
    | some true => if i < e1.length then unbind i (suite c ns ds (e1.set i none) M1) else .bad
    | some false => .ex c ns ds e1 M1
    | none => .bad
  | r => r
theorem z_try {i : Nat} {ct : Nat → Option Bool} {body : SM} {suite : Nat → List Str → List D → SM} {e : Env2} {M : MH} : sTry i ct body suite e M = qTry i ct suite (body e M) := rfl
theorem z_try_nx {i : Nat} {ct : Nat → Option Bool} {suite : Nat → List Str → List D → SM} {e : Env2} {M : MH} : qTry i ct suite (.nx e M) = .nx e M := rfl
theorem z_try_rt {i : Nat} {ct : Nat → Option Bool} {suite : Nat → List Str → List D → SM} {d : D} {M : MH} : qTry i ct suite (.rt d M) = .rt d M := rfl
def qTry0 (ct : Nat → Option Bool) (suite : SM) (r : SR) : SR := match r with
  | .ex c ns ds e1 M1 => match ct c with
    | some true => match suite e1 M1 with
      | .ex _ _ _ _ _ => .bad
      | r => r
    | some false => .ex c ns ds e1 M1
    | none => .bad
  | r => r
theorem z_try0 {ct : Nat → Option Bool} {body suite : SM} {e : Env2} {M : MH} : sTry0 ct body suite e M = qTry0 ct suite (body e M) := rfl
theorem z_try0_nx {ct : Nat → Option Bool} {suite : SM} {e : Env2} {M : MH} : qTry0 ct suite (.nx e M) = .nx e M := rfl
theorem z_try0_rt {ct : Nat → Option Bool} {suite : SM} {d : D} {M : MH} : qTry0 ct suite (.rt d M) = .rt d M := rfl
/-! loops that keep an invariant -/
theorem loop_inv {body : SM} {tg : TgM} {I : Nat → Env2 → MH → Prop} : ∀ (ps : List D) (k : Nat) (e : Env2) (M : MH), I k e M → (∀ j (hj : j < ps.length) e M, I (k + j) e M → ∃ e1 e2 M2, tg ps[j] e = some e1 ∧ body e1 M = .nx e2 M2 ∧ I (k + j + 1) e2 M2) → ∃ e' M', forV tg body ps e M = .nx e' M' ∧ I (k + ps.length) e' M'
  | [], k, e, M, h, _ => ⟨e, M, rfl, h⟩
  | p :: ps, k, e, M, h, hs => by
    obtain ⟨e1, e2, M2, ht, hb, hi⟩ := hs 0 (by simp) e M h
    obtain ⟨e', M', he, hI⟩ := loop_inv (body := body) (tg := tg) (I := I) ps (k + 1) e2 M2 hi fun j hj e M hh => by
      have := hs (j + 1) (by simp; omega) e M (by rw [show k + (j + 1) = k + 1 + j by omega]; exact hh)
      rw [show k + (j + 1) + 1 = k + 1 + j + 1 by omega] at this
      exact this
    refine ⟨e', M', ?_, by rw [List.length_cons, show k + (ps.length + 1) = k + 1 + ps.length by omega]; exact hI⟩
    unfold forV
    simp only [List.getElem_cons_zero] at ht
    rw [ht]
    simp only [hb]
    exact he
theorem z_for_l {tg : TgM} {body : SM} {e : Env2} {M : MH} {n : Nat} {ds : List D} (h : M[n]? = some (.lst ds)) : qIt (.ok (.live n) M) tg body e = forL tg body n ds.length 0 e M := by
  unfold qIt; dsimp only; rw [h]
theorem draw_at {R : MH} {s : Bx} {n : Int} (hs : BxOk s) (h1 : 0 < n) (h2 : n < 1073741824) : ∃ r s', drawM [.ref 0, .int n] (s.obj :: R) = .ok (.int r) (s'.obj :: R) ∧ 0 ≤ r ∧ r < n ∧ BxOk s' :=
  draw_spec (M := s.obj :: R) (b := 0) ⟨rfl, hs⟩ h1 h2
/-! a loop's turns one by one -/
def qFv (tg : TgM) (body : SM) (xs : List D) (r : SR) : SR := match r with
  | .nx e2 M2 => forV tg body xs e2 M2
  | .ct e2 M2 => forV tg body xs e2 M2
  | .bk e2 M2 => .nx e2 M2
  | .rt d M2 => .rt d M2
  | .ex c ns ds e2 M2 => .ex c ns ds e2 M2
  | .bad => .bad
theorem z_fv {i : Nat} {body : SM} {x : D} {xs : List D} {e : Env2} {M : MH} : forV (tgName i) body (x :: xs) e M = qFv (tgName i) body xs (body (e.set i (some x)) M) := by
  unfold forV tgName qFv
  dsimp only
  first
    | done
    | (cases body (e.set i (some x)) M <;> rfl)
theorem z_fv0 {tg : TgM} {body : SM} {e : Env2} {M : MH} : forV tg body [] e M = .nx e M := rfl
theorem z_fv_nx {tg : TgM} {body : SM} {xs : List D} {e : Env2} {M : MH} : qFv tg body xs (.nx e M) = forV tg body xs e M := rfl
theorem z_fv_ct {tg : TgM} {body : SM} {xs : List D} {e : Env2} {M : MH} : qFv tg body xs (.ct e M) = forV tg body xs e M := rfl
theorem z_fv_rt {tg : TgM} {body : SM} {xs : List D} {d : D} {M : MH} : qFv tg body xs (.rt d M) = .rt d M := rfl
/-! comprehensions -/
def qLc (tg : TgM) (tt : BM) (m : EM) (vs : List Nat) (e : Env2) (r : Res IV) : Res D := match r with
  | .ok (.vals ds) M1 => lcV tg tt m (wipe2 e vs) M1.length ds (M1 ++ [.lst []])
  | .ok (.live s) M1 => match M1[s]? with
    | some (.lst ds) => lcL tg tt m (wipe2 e vs) M1.length s ds.length 0 (M1 ++ [.lst []])
    | _ => .bad
  | .exc c ns ds M1 => .exc c ns ds M1
  | .bad => .bad
theorem z_lc {it : Env2 → MH → Res IV} {tg : TgM} {tt : BM} {m : EM} {vs : List Nat} {e : Env2} {M : MH} : eLc it tg tt m vs e M = qLc tg tt m vs e (it e M) := by
  unfold eLc qLc
  cases it e M with
  | ok iv M1 => cases iv <;> rfl
  | _ => rfl
theorem z_lc_v {tg : TgM} {tt : BM} {m : EM} {vs : List Nat} {e : Env2} {M : MH} {ds : List D} : qLc tg tt m vs e (.ok (.vals ds) M) = lcV tg tt m (wipe2 e vs) M.length ds (M ++ [.lst []]) := rfl
def qStep (r : Res D) : Res (Option D) := (noX r).bind fun y M2 => .ok (some y) M2
theorem z_step {i : Nat} {m : EM} {e : Env2} {x : D} {M : MH} : lcStep (tgName i) bYes m e x M = qStep (m (e.set i (some x)) M) := rfl
theorem z_step_ok {y : D} {M : MH} : qStep (.ok y M) = .ok (some y) M := rfl
/-! the box -/
def boxM : List D → MH → Res D := fnB 1 (sRet (eLst (eCons (eArgs dListF (eCons (eVar 0) (eNil))) (eCons (eC (.int 0)) (eCons (eC (.int 0)) (eCons (eC (.int 0)) (eCons (eC (.int 0)) (eNil))))))))
theorem box_run {ns : List Int} (hl : ns.length ≤ 63) : boxM [.fro (ns.map D.int)] [] = .ok (.ref 0) [(⟨ns, 0, 0, 0, 0⟩ : Bx).obj] := by
  have : (ns.map D.int).length ≤ 1000 := by rw [List.length_map]; omega
  unfold boxM
  rw [z_fn]
  have e1 : ∀ M, dListF [.fro (ns.map D.int)] M = .ok (.fro (ns.map D.int)) M := fun M => by unfold dListF items; rfl
  simp only [z_ret, z_lst, z_cons, z_args, z_var, z_env0, List.map_cons, List.map_nil, List.length_cons, List.length_nil, Nat.reduceAdd, Nat.reduceSub, List.replicate, List.append_nil, List.getElem?_cons_zero, z_var_ok, z_cons1, z_anil, z_cons2, z_args_ok, e1, z_c, z_ret_ok, z_toR_rt]
  rfl
/-! a list that is walked while nothing changes -/
theorem items_ref {M : MH} {l : D} {ds : List D} (h : listItems M l = some ds) : l = .fro ds ∨ ∃ n, l = .ref n ∧ M[n]? = some (.lst ds) := by
  unfold listItems at h
  split at h
  · cases h; exact .inl rfl
  · rename_i n
    split at h
    · rename_i ds' hm; cases h; exact .inr ⟨n, rfl, hm⟩
    · cases h
  · cases h
def qStrI (r : Res D) : Res IV := r.bind fStrI
theorem z_istr {m : EM} {e : Env2} {M : MH} : iStrD m e M = qStrI (m e M) := rfl
theorem z_istr_ok {z : Str} {M : MH} : qStrI (.ok (.str z) M) = .ok (.vals (signsOf z)) M := rfl
end
end T2
namespace T2
open PySem L2

/-! ### the laws' own comparison -/
def alikeL (self : List D → MH → Res D) : SM :=
    sIf (bNot (bVal (eCall 2 self (eCons (eBin dIxA (eVar 0) (eVar 2)) (eCons (eBin dIxA (eVar 1) (eVar 2)) (eNil))))))
    (sRet (eC (.bl false)))
    (sNil)
def alikeT (self : List D → MH → Res D) : SM :=
    sSeq (sForI (iRange1 (eArgs dLen (eCons (eVar 1) (eNil)))) (tgName 2) (alikeL self))
    (sRet (eC (.bl true)))
def alikeB (isi : Tg → Tg → Option Bool) (self : List D → MH → Res D) : SM :=
    sSeq (sIf (bVal (eBin dIs (eVar 1) (eC .non)))
    (sRet (eBin dIs (eVar 0) (eC .non)))
    (sNil))
    (sSeq (sIf (bOr (bVal (eBin dIs (eVar 1) (eC (.bl true)))) (bVal (eBin dIs (eVar 1) (eC (.bl false)))))
    (sRet (eAnd (eArgs (dIsi isi) (eCons (eVar 0) (eCons (eC (.ty "bool")) (eNil)))) (eBin dEq (eVar 0) (eVar 1))))
    (sNil))
    (sSeq (sIf (bVal (eArgs (dIsi isi) (eCons (eVar 1) (eCons (eC (.ty "int")) (eNil)))))
    (sRet (eAnd (eArgs (dIsi isi) (eCons (eVar 0) (eCons (eC (.ty "int")) (eNil)))) (eAnd (eNot (eArgs (dIsi isi) (eCons (eVar 0) (eCons (eC (.ty "bool")) (eNil))))) (eBin dEq (eVar 0) (eVar 1)))))
    (sNil))
    (sSeq (sIf (bVal (eArgs (dIsi isi) (eCons (eVar 1) (eCons (eC (.ty "str")) (eNil)))))
    (sRet (eAnd (eArgs (dIsi isi) (eCons (eVar 0) (eCons (eC (.ty "str")) (eNil)))) (eBin dEq (eVar 0) (eVar 1))))
    (sNil))
    (sSeq (sIf (bVal (eArgs (dIsi isi) (eCons (eVar 1) (eCons (eC (.ty "tuple")) (eNil)))))
    (sIf (bOr (bNot (bVal (eArgs (dIsi isi) (eCons (eVar 0) (eCons (eC (.ty "tuple")) (eNil)))))) (bVal (eBin dNe (eArgs dLen (eCons (eVar 0) (eNil))) (eArgs dLen (eCons (eVar 1) (eNil))))))
    (sRet (eC (.bl false)))
    (sNil))
    (sIf (bOr (bNot (bVal (eArgs (dIsi isi) (eCons (eVar 0) (eCons (eC (.ty "list")) (eNil)))))) (bVal (eBin dNe (eArgs dLen (eCons (eVar 0) (eNil))) (eArgs dLen (eCons (eVar 1) (eNil))))))
    (sRet (eC (.bl false)))
    (sNil)))
    (alikeT self)))))
def alikeM (isi : Tg → Tg → Option Bool) : Nat → List D → MH → Res D
  | 0 => fun _ _ => .bad
  | n + 1 => fnB 3 (alikeB isi (alikeM isi n))
/-- what isinstance says of the written types -/
structure IsiB (isi : Tg → Tg → Option Bool) : Prop where
  bb : isi (.inl "bool") (.inl "bool") = some true
  ii : isi (.inl "int") (.inl "int") = some true
  ib : isi (.inl "int") (.inl "bool") = some false
  si : isi (.inl "str") (.inl "int") = some false
  ss : isi (.inl "str") (.inl "str") = some true
  ti : isi (.inl "tuple") (.inl "int") = some false
  ts : isi (.inl "tuple") (.inl "str") = some false
  tt : isi (.inl "tuple") (.inl "tuple") = some true
  li : isi (.inl "list") (.inl "int") = some false
  ls : isi (.inl "list") (.inl "str") = some false
  lt : isi (.inl "list") (.inl "tuple") = some false
  ll : isi (.inl "list") (.inl "list") = some true
theorem isi_of {isi : Tg → Tg → Option Bool} {M : MH} {x : D} {c : String} {t : Tg} {b : Bool} (h1 : tagOf M x = some t) (h2 : isi t (.inl c) = some b) : dIsi isi [x, .ty c] M = .ok (.bl b) M := by
  unfold dIsi
  dsimp only [clsTag]
  rw [h1]
  dsimp only
  rw [h2]
theorem ne_int {i j : Int} {M : MH} : dNe (.int i) (.int j) M = .ok (.bl (!(i == j))) M := by
  unfold dNe
  simp [toP, toPa, SeqAt.shaped, PyData.canLay0, PyData.depth, PyData.eqv]
theorem eq_bl {a b : Bool} {M : MH} : dEq (.bl a) (.bl b) M = .ok (.bl (a == b)) M := by
  cases a <;> cases b <;> kernel_rfl
/-- x is a tuple (t) or a list with the items xs -/
def SeqOf (M : MH) (t : String) (x : D) (xs : List D) : Prop := (t = "tuple" ∧ x = .tup xs) ∨ (t = "list" ∧ listItems M x = some xs)
theorem SeqOf.tag {M : MH} {t : String} {x : D} {xs : List D} (h : SeqOf M t x xs) : tagOf M x = some (.inl t) := by
  rcases h with ⟨rfl, rfl⟩ | ⟨rfl, h⟩
  · rfl
  · rcases items_ref h with rfl | ⟨n, rfl, hn⟩
    · rfl
    · unfold tagOf; dsimp only; rw [hn]
theorem SeqOf.is {M : MH} {t : String} {x : D} {xs : List D} (h : SeqOf M t x xs) : dIs x .non M = .ok (.bl false) M ∧ dIs x (.bl true) M = .ok (.bl false) M ∧ dIs x (.bl false) M = .ok (.bl false) M := by
  rcases h with ⟨rfl, rfl⟩ | ⟨rfl, h⟩
  · exact ⟨rfl, rfl, rfl⟩
  · rcases items_ref h with rfl | ⟨n, rfl, hn⟩ <;> exact ⟨rfl, rfl, rfl⟩
theorem SeqOf.len {M : MH} {t : String} {x : D} {xs : List D} (h : SeqOf M t x xs) : dLen [x] M = .ok (.int xs.length) M := by
  rcases h with ⟨rfl, rfl⟩ | ⟨rfl, h⟩
  · rfl
  · rcases items_ref h with rfl | ⟨n, rfl, hn⟩
    · rfl
    · unfold dLen items
      dsimp only
      rw [hn]
theorem ix_seq' {M : MH} {x : D} {xs : List D} {j : Nat} {a : D} (hi : items M x = some xs) (hd : ∀ n ks ds, x = .ref n → M[n]? ≠ some (.dk ks ds)) (ha : xs[j]? = some a) : dIxA x (.int j) M = .ok a M := by
  have hl : j < xs.length := (List.getElem?_eq_some_iff.mp ha).1
  have hat : atI xs (j : Int) = some a := by
    unfold atI ixN
    rw [if_pos (by omega), if_pos (by omega)]
    exact ha
  have key : dIx x (.int j) M = .ok a M := by
    unfold dIx
    dsimp only
    cases x with
    | str z => cases hi
    | _ => dsimp only; rw [hi]; dsimp only; rw [hat]
  unfold dIxA
  split
  · rename_i n
    split
    · rename_i ks ds hm
      exact absurd hm (hd n ks ds rfl)
    · exact key
  · exact key
theorem SeqOf.ix {M : MH} {t : String} {x : D} {xs : List D} {j : Nat} {a : D} (h : SeqOf M t x xs) (ha : xs[j]? = some a) : dIxA x (.int j) M = .ok a M := by
  rcases h with ⟨rfl, rfl⟩ | ⟨rfl, h⟩
  · exact ix_seq' rfl (fun n ks ds z => by cases z) ha
  · rcases items_ref h with rfl | ⟨n, rfl, hn⟩
    · exact ix_seq' rfl (fun n ks ds z => by cases z) ha
    · refine ix_seq' (by unfold items; dsimp only; rw [hn]) (fun n' ks ds z => ?_) ha
      cases z
      rw [hn]
      intro q
      cases q
/-- two values that stand for the same data -/
def Same (M : MH) : Nat → D → D → Prop
  | 0, _, _ => False
  | k + 1, x, y => (x = .non ∧ y = .non) ∨ (∃ b, x = .bl b ∧ y = .bl b) ∨ (∃ i, x = .int i ∧ y = .int i) ∨ (∃ s, x = .str s ∧ y = .str s ∧ PyData.strOk s = true) ∨
    ∃ t xs ys, SeqOf M t x xs ∧ SeqOf M t y ys ∧ xs.length = ys.length ∧ xs.length ≤ 1000 ∧ ∀ (i : Nat) (a b : D), xs[i]? = some a → ys[i]? = some b → Same M k a b
theorem alike_same {isi : Tg → Tg → Option Bool} (B : IsiB isi) {M : MH} : ∀ (k : Nat) (x y : D), Same M k x y → alikeM isi k [x, y] M = .ok (.bl true) M
  | 0, _, _, h => h.elim
  | k + 1, x, y, h => by
    rw [alikeM, z_fn, alikeB]
    rcases h with ⟨rfl, rfl⟩ | ⟨b, rfl, rfl⟩ | ⟨i, rfl, rfl⟩ | ⟨s, rfl, rfl, hs⟩ | ⟨t, xs, ys, hx, hy, hl, hz, hs⟩
    · have f1 : dIs .non .non M = .ok (.bl true) M := rfl
      simp only [z_seq, z_seq_nx, z_seq_rt, z_seq_ex, z_seq_bk, z_seq_ct, z_if, z_if_t, z_if_f, z_if_x, z_set, z_set_ok, z_set_x, z_ret, z_ret_ok, z_ret_x, z_retN, z_do, z_do_ok, z_do_x, z_nil, z_raise0, z_raise, z_raise_ok, z_toR_rt, z_toR_nx, z_toR_ex, z_c, z_var, z_var_ok, z_un, z_un_ok, z_un_x, z_bin, z_bin_ok, z_bin_x, z_anil, z_cons, z_cons1, z_cons1x, z_cons2, z_cons2x, z_args, z_args_ok, z_args_x, z_tup, z_tup_ok, z_fro, z_fro_ok, z_lst, z_lst_ok, z_call, z_stat, z_call_ok, z_callk, z_callk1, z_callk2, z_mkF, z_mkF_ok, z_own1, z_own1_ok, z_prop, z_own2, z_own2_ok, z_val, z_val_ok, z_val_x, z_and, z_and_t, z_and_f, z_or, z_or_t, z_or_f, z_not, z_not_ok, z_yes, z_eand, z_eand_t, z_eand_f, z_eor, z_eor_t, z_eor_f, z_enot, z_enot_ok, z_eif, z_eif_t, z_eif_f, z_for, z_for_v, z_iseq, z_iseq_t, z_iseq_f, z_iseq_r, z_rng, z_rng_ok, z_env0, z_try, z_try_nx, z_try_rt, z_try0, z_try0_nx, z_try0_rt, z_for_l, z_fv0, z_fv_nx, z_fv_ct, z_fv_rt, z_lc, z_lc_v, z_step, z_step_ok, z_istr, z_istr_ok, z_env0, List.map_cons, List.map_nil, List.replicate, List.append_nil, Nat.reduceSub, List.cons_append, List.nil_append, List.length_cons, List.length_nil, Nat.reduceAdd, Nat.reduceLeDiff, List.getElem?_cons_zero, List.getElem?_cons_succ, List.set_cons_zero, List.set_cons_succ, Bool.not_true, Bool.not_false, f1]
    · have f1 : dIs (.bl b) .non M = .ok (.bl false) M := by cases b <;> rfl
      have g1 : dIsi isi [.bl b, .ty "bool"] M = .ok (.bl true) M := isi_of rfl B.bb
      cases b
      · have f2 : dIs (.bl false) (.bl true) M = .ok (.bl false) M := rfl
        have f3 : dIs (.bl false) (.bl false) M = .ok (.bl true) M := rfl
        simp only [z_seq, z_seq_nx, z_seq_rt, z_seq_ex, z_seq_bk, z_seq_ct, z_if, z_if_t, z_if_f, z_if_x, z_set, z_set_ok, z_set_x, z_ret, z_ret_ok, z_ret_x, z_retN, z_do, z_do_ok, z_do_x, z_nil, z_raise0, z_raise, z_raise_ok, z_toR_rt, z_toR_nx, z_toR_ex, z_c, z_var, z_var_ok, z_un, z_un_ok, z_un_x, z_bin, z_bin_ok, z_bin_x, z_anil, z_cons, z_cons1, z_cons1x, z_cons2, z_cons2x, z_args, z_args_ok, z_args_x, z_tup, z_tup_ok, z_fro, z_fro_ok, z_lst, z_lst_ok, z_call, z_stat, z_call_ok, z_callk, z_callk1, z_callk2, z_mkF, z_mkF_ok, z_own1, z_own1_ok, z_prop, z_own2, z_own2_ok, z_val, z_val_ok, z_val_x, z_and, z_and_t, z_and_f, z_or, z_or_t, z_or_f, z_not, z_not_ok, z_yes, z_eand, z_eand_t, z_eand_f, z_eor, z_eor_t, z_eor_f, z_enot, z_enot_ok, z_eif, z_eif_t, z_eif_f, z_for, z_for_v, z_iseq, z_iseq_t, z_iseq_f, z_iseq_r, z_rng, z_rng_ok, z_env0, z_try, z_try_nx, z_try_rt, z_try0, z_try0_nx, z_try0_rt, z_for_l, z_fv0, z_fv_nx, z_fv_ct, z_fv_rt, z_lc, z_lc_v, z_step, z_step_ok, z_istr, z_istr_ok, z_env0, List.map_cons, List.map_nil, List.replicate, List.append_nil, Nat.reduceSub, List.cons_append, List.nil_append, List.length_cons, List.length_nil, Nat.reduceAdd, Nat.reduceLeDiff, List.getElem?_cons_zero, List.getElem?_cons_succ, List.set_cons_zero, List.set_cons_succ, Bool.not_true, Bool.not_false, f1, f2, f3, g1, eq_bl, beq_self_eq_true]
      · have f2 : dIs (.bl true) (.bl true) M = .ok (.bl true) M := rfl
        simp only [z_seq, z_seq_nx, z_seq_rt, z_seq_ex, z_seq_bk, z_seq_ct, z_if, z_if_t, z_if_f, z_if_x, z_set, z_set_ok, z_set_x, z_ret, z_ret_ok, z_ret_x, z_retN, z_do, z_do_ok, z_do_x, z_nil, z_raise0, z_raise, z_raise_ok, z_toR_rt, z_toR_nx, z_toR_ex, z_c, z_var, z_var_ok, z_un, z_un_ok, z_un_x, z_bin, z_bin_ok, z_bin_x, z_anil, z_cons, z_cons1, z_cons1x, z_cons2, z_cons2x, z_args, z_args_ok, z_args_x, z_tup, z_tup_ok, z_fro, z_fro_ok, z_lst, z_lst_ok, z_call, z_stat, z_call_ok, z_callk, z_callk1, z_callk2, z_mkF, z_mkF_ok, z_own1, z_own1_ok, z_prop, z_own2, z_own2_ok, z_val, z_val_ok, z_val_x, z_and, z_and_t, z_and_f, z_or, z_or_t, z_or_f, z_not, z_not_ok, z_yes, z_eand, z_eand_t, z_eand_f, z_eor, z_eor_t, z_eor_f, z_enot, z_enot_ok, z_eif, z_eif_t, z_eif_f, z_for, z_for_v, z_iseq, z_iseq_t, z_iseq_f, z_iseq_r, z_rng, z_rng_ok, z_env0, z_try, z_try_nx, z_try_rt, z_try0, z_try0_nx, z_try0_rt, z_for_l, z_fv0, z_fv_nx, z_fv_ct, z_fv_rt, z_lc, z_lc_v, z_step, z_step_ok, z_istr, z_istr_ok, z_env0, List.map_cons, List.map_nil, List.replicate, List.append_nil, Nat.reduceSub, List.cons_append, List.nil_append, List.length_cons, List.length_nil, Nat.reduceAdd, Nat.reduceLeDiff, List.getElem?_cons_zero, List.getElem?_cons_succ, List.set_cons_zero, List.set_cons_succ, Bool.not_true, Bool.not_false, f1, f2, g1, eq_bl, beq_self_eq_true]
    · have f1 : dIs (.int i) .non M = .ok (.bl false) M := rfl
      have f2 : dIs (.int i) (.bl true) M = .ok (.bl false) M := rfl
      have f3 : dIs (.int i) (.bl false) M = .ok (.bl false) M := rfl
      have g1 : dIsi isi [.int i, .ty "int"] M = .ok (.bl true) M := isi_of rfl B.ii
      have g2 : dIsi isi [.int i, .ty "bool"] M = .ok (.bl false) M := isi_of rfl B.ib
      simp only [z_seq, z_seq_nx, z_seq_rt, z_seq_ex, z_seq_bk, z_seq_ct, z_if, z_if_t, z_if_f, z_if_x, z_set, z_set_ok, z_set_x, z_ret, z_ret_ok, z_ret_x, z_retN, z_do, z_do_ok, z_do_x, z_nil, z_raise0, z_raise, z_raise_ok, z_toR_rt, z_toR_nx, z_toR_ex, z_c, z_var, z_var_ok, z_un, z_un_ok, z_un_x, z_bin, z_bin_ok, z_bin_x, z_anil, z_cons, z_cons1, z_cons1x, z_cons2, z_cons2x, z_args, z_args_ok, z_args_x, z_tup, z_tup_ok, z_fro, z_fro_ok, z_lst, z_lst_ok, z_call, z_stat, z_call_ok, z_callk, z_callk1, z_callk2, z_mkF, z_mkF_ok, z_own1, z_own1_ok, z_prop, z_own2, z_own2_ok, z_val, z_val_ok, z_val_x, z_and, z_and_t, z_and_f, z_or, z_or_t, z_or_f, z_not, z_not_ok, z_yes, z_eand, z_eand_t, z_eand_f, z_eor, z_eor_t, z_eor_f, z_enot, z_enot_ok, z_eif, z_eif_t, z_eif_f, z_for, z_for_v, z_iseq, z_iseq_t, z_iseq_f, z_iseq_r, z_rng, z_rng_ok, z_env0, z_try, z_try_nx, z_try_rt, z_try0, z_try0_nx, z_try0_rt, z_for_l, z_fv0, z_fv_nx, z_fv_ct, z_fv_rt, z_lc, z_lc_v, z_step, z_step_ok, z_istr, z_istr_ok, z_env0, List.map_cons, List.map_nil, List.replicate, List.append_nil, Nat.reduceSub, List.cons_append, List.nil_append, List.length_cons, List.length_nil, Nat.reduceAdd, Nat.reduceLeDiff, List.getElem?_cons_zero, List.getElem?_cons_succ, List.set_cons_zero, List.set_cons_succ, Bool.not_true, Bool.not_false, f1, f2, f3, g1, g2, eq_int, beq_self_eq_true]
    · have f1 : dIs (.str s) .non M = .ok (.bl false) M := rfl
      have f2 : dIs (.str s) (.bl true) M = .ok (.bl false) M := rfl
      have f3 : dIs (.str s) (.bl false) M = .ok (.bl false) M := rfl
      have g1 : dIsi isi [.str s, .ty "int"] M = .ok (.bl false) M := isi_of rfl B.si
      have g2 : dIsi isi [.str s, .ty "str"] M = .ok (.bl true) M := isi_of rfl B.ss
      simp only [z_seq, z_seq_nx, z_seq_rt, z_seq_ex, z_seq_bk, z_seq_ct, z_if, z_if_t, z_if_f, z_if_x, z_set, z_set_ok, z_set_x, z_ret, z_ret_ok, z_ret_x, z_retN, z_do, z_do_ok, z_do_x, z_nil, z_raise0, z_raise, z_raise_ok, z_toR_rt, z_toR_nx, z_toR_ex, z_c, z_var, z_var_ok, z_un, z_un_ok, z_un_x, z_bin, z_bin_ok, z_bin_x, z_anil, z_cons, z_cons1, z_cons1x, z_cons2, z_cons2x, z_args, z_args_ok, z_args_x, z_tup, z_tup_ok, z_fro, z_fro_ok, z_lst, z_lst_ok, z_call, z_stat, z_call_ok, z_callk, z_callk1, z_callk2, z_mkF, z_mkF_ok, z_own1, z_own1_ok, z_prop, z_own2, z_own2_ok, z_val, z_val_ok, z_val_x, z_and, z_and_t, z_and_f, z_or, z_or_t, z_or_f, z_not, z_not_ok, z_yes, z_eand, z_eand_t, z_eand_f, z_eor, z_eor_t, z_eor_f, z_enot, z_enot_ok, z_eif, z_eif_t, z_eif_f, z_for, z_for_v, z_iseq, z_iseq_t, z_iseq_f, z_iseq_r, z_rng, z_rng_ok, z_env0, z_try, z_try_nx, z_try_rt, z_try0, z_try0_nx, z_try0_rt, z_for_l, z_fv0, z_fv_nx, z_fv_ct, z_fv_rt, z_lc, z_lc_v, z_step, z_step_ok, z_istr, z_istr_ok, z_env0, List.map_cons, List.map_nil, List.replicate, List.append_nil, Nat.reduceSub, List.cons_append, List.nil_append, List.length_cons, List.length_nil, Nat.reduceAdd, Nat.reduceLeDiff, List.getElem?_cons_zero, List.getElem?_cons_succ, List.set_cons_zero, List.set_cons_succ, Bool.not_true, Bool.not_false, f1, f2, f3, g1, g2, eq_str hs hs, beq_self_eq_true]
    · obtain ⟨f1, f2, f3⟩ := hy.is
      have hlx := hx.len
      have hly := hy.len
      have hn : (((xs.length : Int) == (ys.length : Int))) = true := by rw [hl]; simp
      have tail : alikeT (alikeM isi k) [some x, some y, none] M = .rt (.bl true) M := by
        rw [alikeT]
        obtain ⟨e', M', e1, a2, rfl, rfl⟩ := loop_inv (body := alikeL (alikeM isi k)) (tg := tgName 2) (I := fun _ e M' => ∃ a2, e = [some x, some y, a2] ∧ M = M') (rangeD 0 ys.length) 0 [some x, some y, none] M ⟨none, rfl, rfl⟩ (by
          rintro j hj e M' ⟨a2, rfl, rfl⟩
          rw [rangeD_len] at hj
          have hp : (rangeD 0 ys.length)[j]'(by rw [rangeD_len]; exact hj) = .int (j : Nat) := by
            unfold rangeD; simp
          have hj' : j < xs.length := by omega
          have ax := hx.ix (List.getElem?_eq_getElem hj')
          have ay := hy.ix (List.getElem?_eq_getElem hj)
          have hsame := alike_same B k _ _ (hs j _ _ (List.getElem?_eq_getElem hj') (List.getElem?_eq_getElem hj))
          refine ⟨[some x, some y, some (.int (j : Nat))], [some x, some y, some (.int (j : Nat))], M, ?_, ?_, some (.int (j : Nat)), rfl, rfl⟩
          · rw [hp]; rfl
          · rw [alikeL]
            simp only [z_seq, z_seq_nx, z_seq_rt, z_seq_ex, z_seq_bk, z_seq_ct, z_if, z_if_t, z_if_f, z_if_x, z_set, z_set_ok, z_set_x, z_ret, z_ret_ok, z_ret_x, z_retN, z_do, z_do_ok, z_do_x, z_nil, z_raise0, z_raise, z_raise_ok, z_toR_rt, z_toR_nx, z_toR_ex, z_c, z_var, z_var_ok, z_un, z_un_ok, z_un_x, z_bin, z_bin_ok, z_bin_x, z_anil, z_cons, z_cons1, z_cons1x, z_cons2, z_cons2x, z_args, z_args_ok, z_args_x, z_tup, z_tup_ok, z_fro, z_fro_ok, z_lst, z_lst_ok, z_call, z_stat, z_call_ok, z_callk, z_callk1, z_callk2, z_mkF, z_mkF_ok, z_own1, z_own1_ok, z_prop, z_own2, z_own2_ok, z_val, z_val_ok, z_val_x, z_and, z_and_t, z_and_f, z_or, z_or_t, z_or_f, z_not, z_not_ok, z_yes, z_eand, z_eand_t, z_eand_f, z_eor, z_eor_t, z_eor_f, z_enot, z_enot_ok, z_eif, z_eif_t, z_eif_f, z_for, z_for_v, z_iseq, z_iseq_t, z_iseq_f, z_iseq_r, z_rng, z_rng_ok, z_env0, z_try, z_try_nx, z_try_rt, z_try0, z_try0_nx, z_try0_rt, z_for_l, z_fv0, z_fv_nx, z_fv_ct, z_fv_rt, z_lc, z_lc_v, z_step, z_step_ok, z_istr, z_istr_ok, z_env0, List.map_cons, List.map_nil, List.replicate, List.append_nil, Nat.reduceSub, List.cons_append, List.nil_append, List.length_cons, List.length_nil, Nat.reduceAdd, Nat.reduceLeDiff, List.getElem?_cons_zero, List.getElem?_cons_succ, List.set_cons_zero, List.set_cons_succ, Bool.not_true, Bool.not_false, ax, ay, hsame])
        have hr : qRng (.ok (.int ys.length) M) = .ok (.vals (rangeD 0 ys.length)) M := z_rng_ok (by omega) (by omega)
        simp only [z_seq, z_seq_nx, z_seq_rt, z_seq_ex, z_seq_bk, z_seq_ct, z_if, z_if_t, z_if_f, z_if_x, z_set, z_set_ok, z_set_x, z_ret, z_ret_ok, z_ret_x, z_retN, z_do, z_do_ok, z_do_x, z_nil, z_raise0, z_raise, z_raise_ok, z_toR_rt, z_toR_nx, z_toR_ex, z_c, z_var, z_var_ok, z_un, z_un_ok, z_un_x, z_bin, z_bin_ok, z_bin_x, z_anil, z_cons, z_cons1, z_cons1x, z_cons2, z_cons2x, z_args, z_args_ok, z_args_x, z_tup, z_tup_ok, z_fro, z_fro_ok, z_lst, z_lst_ok, z_call, z_stat, z_call_ok, z_callk, z_callk1, z_callk2, z_mkF, z_mkF_ok, z_own1, z_own1_ok, z_prop, z_own2, z_own2_ok, z_val, z_val_ok, z_val_x, z_and, z_and_t, z_and_f, z_or, z_or_t, z_or_f, z_not, z_not_ok, z_yes, z_eand, z_eand_t, z_eand_f, z_eor, z_eor_t, z_eor_f, z_enot, z_enot_ok, z_eif, z_eif_t, z_eif_f, z_for, z_for_v, z_iseq, z_iseq_t, z_iseq_f, z_iseq_r, z_rng, z_rng_ok, z_env0, z_try, z_try_nx, z_try_rt, z_try0, z_try0_nx, z_try0_rt, z_for_l, z_fv0, z_fv_nx, z_fv_ct, z_fv_rt, z_lc, z_lc_v, z_step, z_step_ok, z_istr, z_istr_ok, z_env0, List.map_cons, List.map_nil, List.replicate, List.append_nil, Nat.reduceSub, List.cons_append, List.nil_append, List.length_cons, List.length_nil, Nat.reduceAdd, Nat.reduceLeDiff, List.getElem?_cons_zero, List.getElem?_cons_succ, List.set_cons_zero, List.set_cons_succ, Bool.not_true, Bool.not_false, hly, hr, e1]
      have tx := hx.tag
      have ty := hy.tag
      have ht : t = "tuple" ∨ t = "list" := by rcases hx with ⟨h, _⟩ | ⟨h, _⟩ <;> simp [h]
      rcases ht with rfl | rfl
      · have g1 : dIsi isi [y, .ty "int"] M = .ok (.bl false) M := isi_of ty B.ti
        have g2 : dIsi isi [y, .ty "str"] M = .ok (.bl false) M := isi_of ty B.ts
        have g3 : dIsi isi [y, .ty "tuple"] M = .ok (.bl true) M := isi_of ty B.tt
        have g4 : dIsi isi [x, .ty "tuple"] M = .ok (.bl true) M := isi_of tx B.tt
        simp only [z_seq, z_seq_nx, z_seq_rt, z_seq_ex, z_seq_bk, z_seq_ct, z_if, z_if_t, z_if_f, z_if_x, z_set, z_set_ok, z_set_x, z_ret, z_ret_ok, z_ret_x, z_retN, z_do, z_do_ok, z_do_x, z_nil, z_raise0, z_raise, z_raise_ok, z_toR_rt, z_toR_nx, z_toR_ex, z_c, z_var, z_var_ok, z_un, z_un_ok, z_un_x, z_bin, z_bin_ok, z_bin_x, z_anil, z_cons, z_cons1, z_cons1x, z_cons2, z_cons2x, z_args, z_args_ok, z_args_x, z_tup, z_tup_ok, z_fro, z_fro_ok, z_lst, z_lst_ok, z_call, z_stat, z_call_ok, z_callk, z_callk1, z_callk2, z_mkF, z_mkF_ok, z_own1, z_own1_ok, z_prop, z_own2, z_own2_ok, z_val, z_val_ok, z_val_x, z_and, z_and_t, z_and_f, z_or, z_or_t, z_or_f, z_not, z_not_ok, z_yes, z_eand, z_eand_t, z_eand_f, z_eor, z_eor_t, z_eor_f, z_enot, z_enot_ok, z_eif, z_eif_t, z_eif_f, z_for, z_for_v, z_iseq, z_iseq_t, z_iseq_f, z_iseq_r, z_rng, z_rng_ok, z_env0, z_try, z_try_nx, z_try_rt, z_try0, z_try0_nx, z_try0_rt, z_for_l, z_fv0, z_fv_nx, z_fv_ct, z_fv_rt, z_lc, z_lc_v, z_step, z_step_ok, z_istr, z_istr_ok, z_env0, List.map_cons, List.map_nil, List.replicate, List.append_nil, Nat.reduceSub, List.cons_append, List.nil_append, List.length_cons, List.length_nil, Nat.reduceAdd, Nat.reduceLeDiff, List.getElem?_cons_zero, List.getElem?_cons_succ, List.set_cons_zero, List.set_cons_succ, Bool.not_true, Bool.not_false, f1, f2, f3, g1, g2, g3, g4, hlx, hly, ne_int, hn, tail]
      · have g1 : dIsi isi [y, .ty "int"] M = .ok (.bl false) M := isi_of ty B.li
        have g2 : dIsi isi [y, .ty "str"] M = .ok (.bl false) M := isi_of ty B.ls
        have g3 : dIsi isi [y, .ty "tuple"] M = .ok (.bl false) M := isi_of ty B.lt
        have g4 : dIsi isi [x, .ty "list"] M = .ok (.bl true) M := isi_of tx B.ll
        simp only [z_seq, z_seq_nx, z_seq_rt, z_seq_ex, z_seq_bk, z_seq_ct, z_if, z_if_t, z_if_f, z_if_x, z_set, z_set_ok, z_set_x, z_ret, z_ret_ok, z_ret_x, z_retN, z_do, z_do_ok, z_do_x, z_nil, z_raise0, z_raise, z_raise_ok, z_toR_rt, z_toR_nx, z_toR_ex, z_c, z_var, z_var_ok, z_un, z_un_ok, z_un_x, z_bin, z_bin_ok, z_bin_x, z_anil, z_cons, z_cons1, z_cons1x, z_cons2, z_cons2x, z_args, z_args_ok, z_args_x, z_tup, z_tup_ok, z_fro, z_fro_ok, z_lst, z_lst_ok, z_call, z_stat, z_call_ok, z_callk, z_callk1, z_callk2, z_mkF, z_mkF_ok, z_own1, z_own1_ok, z_prop, z_own2, z_own2_ok, z_val, z_val_ok, z_val_x, z_and, z_and_t, z_and_f, z_or, z_or_t, z_or_f, z_not, z_not_ok, z_yes, z_eand, z_eand_t, z_eand_f, z_eor, z_eor_t, z_eor_f, z_enot, z_enot_ok, z_eif, z_eif_t, z_eif_f, z_for, z_for_v, z_iseq, z_iseq_t, z_iseq_f, z_iseq_r, z_rng, z_rng_ok, z_env0, z_try, z_try_nx, z_try_rt, z_try0, z_try0_nx, z_try0_rt, z_for_l, z_fv0, z_fv_nx, z_fv_ct, z_fv_rt, z_lc, z_lc_v, z_step, z_step_ok, z_istr, z_istr_ok, z_env0, List.map_cons, List.map_nil, List.replicate, List.append_nil, Nat.reduceSub, List.cons_append, List.nil_append, List.length_cons, List.length_nil, Nat.reduceAdd, Nat.reduceLeDiff, List.getElem?_cons_zero, List.getElem?_cons_succ, List.set_cons_zero, List.set_cons_succ, Bool.not_true, Bool.not_false, f1, f2, f3, g1, g2, g3, g4, hlx, hly, ne_int, hn, tail]
end T2
namespace T2
open PySem L2

/-! ### one of a menu -/
theorem ref_seq {R : MH} {n : Nat} {ds : List D} (h : R[n]? = some (.lst ds)) (s : Bx) : SeqOf (s.obj :: R) "list" (.ref (n + 1)) ds := .inr ⟨rfl, by unfold listItems; dsimp only; rw [List.getElem?_cons_succ, h]⟩

/-! ### names -/
def Low (x : Str) : Prop := ∀ c ∈ x.cps.toList, 97 ≤ c ∧ c ≤ 122
theorem Low.ok {x : Str} (h : Low x) : PyData.strOk x = true := by
  unfold PyData.strOk
  rw [Array.all_eq_true]
  intro i hi
  have := h x.cps[i] (by simp)
  simp; omega
theorem str_app (a b : Str) : (a ++ b).cps = a.cps ++ b.cps := rfl
theorem app_len (a b : Str) : (a ++ b).length = a.length + b.length := by
  show (a.cps ++ b.cps).size = _
  rw [Array.size_append]; rfl
theorem Low.app {a b : Str} (ha : Low a) (hb : Low b) : Low (a ++ b) := by
  intro c hc
  rw [str_app, Array.toList_append, List.mem_append] at hc
  rcases hc with hc | hc
  · exact ha c hc
  · exact hb c hc
theorem low_one {c : Nat} (h : 97 ≤ c ∧ c ≤ 122) : Low ⟨#[c]⟩ := by
  intro d hd
  have : d = c := by simpa using hd
  rw [this]; exact h
theorem low_nil : Low "" := by
  intro c hc
  have : ("" : Str).cps.toList = [] := by decide +kernel
  rw [this] at hc; simp at hc
theorem add_str {a b : Str} {M : MH} (h : a.length + b.length ≤ 1000) : dAdd (.str a) (.str b) M = .ok (.str (a ++ b)) M := by
  unfold dAdd
  dsimp only
  rw [if_pos (by unfold big; omega)]
theorem abc_list : ("abcdefghijklmnopqrstuvwxyz" : Str).cps.toList = (List.range 26).map (· + 97) := by decide +kernel
theorem ix_abc {r : Int} {M : MH} (h0 : 0 ≤ r) (h1 : r < 26) : ∃ c, dIxA (.str ("abcdefghijklmnopqrstuvwxyz" : Str)) (.int r) M = .ok (.str ⟨#[c]⟩) M ∧ 97 ≤ c ∧ c ≤ 122 := by
  have hn : ("abcdefghijklmnopqrstuvwxyz" : Str).cps.toList.length = 26 := by decide +kernel
  obtain ⟨c, hc, hm⟩ := atI_of (l := ("abcdefghijklmnopqrstuvwxyz" : Str).cps.toList) h0 (by omega)
  rw [abc_list] at hm
  obtain ⟨k, hk, rfl⟩ := List.mem_map.mp hm
  have hk := List.mem_range.mp hk
  refine ⟨k + 97, ?_, by omega, by omega⟩
  unfold dIxA dIx
  dsimp only
  rw [if_pos (by decide +kernel), hc]
def namesL1 : SM := sSet 5 (eBin dAdd (eVar 5) (eBin dIxA (eVar 2) (eCall 2 drawM (eCons (eVar 0) (eCons (eC (.int 26)) (eNil))))))
def namesT : BM := bVal (eBin dNotInA (eBin dAdd (eVar 5) (eVar 8)) (eBin (dCat mkF) (eVar 3) (eFro (eCons (eC (.str "on")) (eCons (eC (.str "set")) (eCons (eC (.str "new")) (eNil)))))))
def namesL3 : SM := sDo (eApp (eVar 3) (eBin dAdd (eVar 5) (eBin dIxA (eVar 7) (eCall 2 drawM (eCons (eVar 0) (eCons (eArgs dLen (eCons (eVar 7) (eNil))) (eNil)))))))
def namesL2 : SM :=
    sSeq (sSet 5 (eC (.str "")))
    (sSeq (sForI (iRange1 (eCall 2 drawM (eCons (eVar 0) (eCons (eC (.int 8)) (eNil))))) (tgName 6) namesL1)
    (sSeq (sSet 7 (eLc (iStrD (eVar 2)) (tgName 8) namesT (eVar 8) [8]))
    namesL3))
def namesM : List D → MH → Res D := fnB 9 (
    sSeq (sSet 2 (eC (.str "abcdefghijklmnopqrstuvwxyz")))
    (sSeq (sSet 3 (eLst (eNil)))
    (sSeq (sForI (iRange1 (eVar 1)) (tgName 4) namesL2)
    (sRet (eVar 3)))))
/-- one sign less than the list -/
theorem filter_ne {α : Type} [DecidableEq α] {l : List α} (h : l.Nodup) (a : α) : l.length ≤ (l.filter fun x => decide (x ≠ a)).length + 1 := by
  induction l with
  | nil => simp
  | cons x l ih =>
    rw [List.nodup_cons] at h
    rw [List.filter_cons]
    by_cases hx : x = a
    · subst hx
      have : l.filter (fun y => decide (y ≠ x)) = l := List.filter_eq_self.mpr fun y hy => by
        simp only [decide_eq_true_eq]
        rintro rfl
        exact h.1 hy
      rw [if_neg (by simp), this]
      simp
    · simp only [ne_eq, hx, not_false_eq_true, decide_true, if_true, List.length_cons]
      have := ih h.2
      simp only [ne_eq] at this
      omega
theorem filter_out {α β : Type} [DecidableEq α] [DecidableEq β] {f : α → β} (hf : ∀ a b, f a = f b → a = b) {l : List α} (h : l.Nodup) : ∀ E : List β, l.length ≤ (l.filter fun x => decide (f x ∉ E)).length + E.length
  | [] => by
    rw [List.filter_eq_self.mpr (by simp)]
    simp
  | e :: E => by
    have ih := filter_out hf h E
    have nd : (l.filter fun x => decide (f x ∉ E)).Nodup := h.filter _
    by_cases hx : ∃ a ∈ l, f a = e
    · obtain ⟨a, _, rfl⟩ := hx
      have e1 := filter_ne nd a
      have e2 : (l.filter fun x => decide (f x ∉ E)).filter (fun x => decide (x ≠ a)) = l.filter fun x => decide (f x ∉ f a :: E) := by
        rw [List.filter_filter]
        refine List.filter_congr fun x _ => ?_
        rw [Bool.eq_iff_iff]
        simp only [Bool.and_eq_true, decide_eq_true_eq, List.mem_cons, not_or]
        constructor
        · rintro ⟨h1, h2⟩; exact ⟨fun z => h1 (hf _ _ z), h2⟩
        · rintro ⟨h1, h2⟩; exact ⟨fun z => h1 (by rw [z]), h2⟩
      rw [e2] at e1
      simp only [List.length_cons]
      omega
    · have e2 : (l.filter fun x => decide (f x ∉ e :: E)) = l.filter fun x => decide (f x ∉ E) := List.filter_congr fun x hxl => by
        rw [Bool.eq_iff_iff]
        simp only [decide_eq_true_eq, List.mem_cons, not_or]
        exact ⟨fun z => z.2, fun z => ⟨fun q => hx ⟨x, hxl, q⟩, z⟩⟩
      rw [e2]
      simp only [List.length_cons]
      omega

/-- the stem of a name -/
theorem stem_run {R : MH} {a1 a3 a4 a7 a8 : Option D} : ∀ (xs : List D) (s : Bx) (z : Str) (a6 : Option D), BxOk s → Low z → z.length + xs.length ≤ 20 →
    ∃ s' z' a6', forV (tgName 6) namesL1 xs [some (.ref 0), a1, some (.str ("abcdefghijklmnopqrstuvwxyz" : Str)), a3, a4, some (.str z), a6, a7, a8] (s.obj :: R) = .nx [some (.ref 0), a1, some (.str ("abcdefghijklmnopqrstuvwxyz" : Str)), a3, a4, some (.str z'), a6', a7, a8] (s'.obj :: R) ∧ BxOk s' ∧ Low z' ∧ z'.length = z.length + xs.length
  | [], s, z, a6, hs, hz, _ => ⟨s, z, a6, rfl, hs, hz, rfl⟩
  | x :: xs, s, z, a6, hs, hz, hl => by
    obtain ⟨r, s1, e1, r0, r1, h1⟩ := draw_at (R := R) (n := 26) hs (by decide) (by decide)
    obtain ⟨c, ec, hc⟩ := ix_abc (M := s1.obj :: R) r0 r1
    have one : (⟨#[c]⟩ : Str).length = 1 := rfl
    have ea := add_str (a := z) (b := ⟨#[c]⟩) (M := s1.obj :: R) (by simp at hl; omega)
    obtain ⟨s2, z2, a62, e2, h2, hz2, hl2⟩ := stem_run (R := R) (a1 := a1) (a3 := a3) (a4 := a4) (a7 := a7) (a8 := a8) xs s1 (z ++ ⟨#[c]⟩) (some x) h1 (hz.app (low_one hc)) (by rw [app_len]; simp at hl ⊢; omega)
    refine ⟨s2, z2, a62, ?_, h2, hz2, by rw [hl2, app_len]; simp; omega⟩
    rw [z_fv, namesL1]
    rw [namesL1] at e2
    simp only [z_seq, z_seq_nx, z_seq_rt, z_seq_ex, z_seq_bk, z_seq_ct, z_if, z_if_t, z_if_f, z_if_x, z_set, z_set_ok, z_set_x, z_ret, z_ret_ok, z_ret_x, z_retN, z_do, z_do_ok, z_do_x, z_nil, z_raise0, z_raise, z_raise_ok, z_toR_rt, z_toR_nx, z_toR_ex, z_c, z_var, z_var_ok, z_un, z_un_ok, z_un_x, z_bin, z_bin_ok, z_bin_x, z_anil, z_cons, z_cons1, z_cons1x, z_cons2, z_cons2x, z_args, z_args_ok, z_args_x, z_tup, z_tup_ok, z_fro, z_fro_ok, z_lst, z_lst_ok, z_call, z_stat, z_call_ok, z_callk, z_callk1, z_callk2, z_mkF, z_mkF_ok, z_own1, z_own1_ok, z_prop, z_own2, z_own2_ok, z_val, z_val_ok, z_val_x, z_and, z_and_t, z_and_f, z_or, z_or_t, z_or_f, z_not, z_not_ok, z_yes, z_eand, z_eand_t, z_eand_f, z_eor, z_eor_t, z_eor_f, z_enot, z_enot_ok, z_eif, z_eif_t, z_eif_f, z_for, z_for_v, z_iseq, z_iseq_t, z_iseq_f, z_iseq_r, z_rng, z_rng_ok, z_env0, z_try, z_try_nx, z_try_rt, z_try0, z_try0_nx, z_try0_rt, z_for_l, z_fv0, z_fv_nx, z_fv_ct, z_fv_rt, z_lc, z_lc_v, z_step, z_step_ok, z_istr, z_istr_ok, z_env0, List.map_cons, List.map_nil, List.replicate, List.append_nil, Nat.reduceSub, List.cons_append, List.nil_append, List.length_cons, List.length_nil, Nat.reduceAdd, Nat.reduceLeDiff, List.getElem?_cons_zero, List.getElem?_cons_succ, List.set_cons_zero, List.set_cons_succ, Bool.not_true, Bool.not_false, e1, ec, ea, e2]

/-! ### a comprehension that chooses -/
theorem lc_filter {tg : TgM} {tt : BM} {m : EM} {e : Env2} {M0 : MH} {p : D → Bool} {g : D → D} : ∀ (xs : List D) (step : ∀ x ∈ xs, ∀ acc, lcStep tg tt m e x (M0 ++ [.lst acc]) = .ok (if p x = true then some (g x) else none) (M0 ++ [.lst acc])) (acc : List D), acc.length + xs.length ≤ 1000 →
    lcV tg tt m e M0.length xs (M0 ++ [.lst acc]) = .ok (.ref M0.length) (M0 ++ [.lst (acc ++ (xs.filter p).map g)])
  | [], _, acc, _ => by simp [lcV]
  | x :: xs, step, acc, hz => by
    have h1 := step x (by simp) acc
    have hg : (M0 ++ [MO.lst acc])[M0.length]? = some (.lst acc) := by simp
    unfold lcV
    rw [h1, Res.bind_ok]
    by_cases hp : p x = true
    · rw [if_pos hp]
      have hpush : pushAt M0.length (some (g x)) (M0 ++ [.lst acc]) = some (M0 ++ [.lst (acc ++ [g x])]) := by
        unfold pushAt
        dsimp only
        rw [hg]
        dsimp only
        rw [if_pos (by simp at hz; unfold big; omega)]
        congr 1
        simp
      rw [hpush]
      dsimp only
      rw [lc_filter xs (fun y hy => step y (by simp [hy])) (acc ++ [g x]) (by simp at hz ⊢; omega), List.filter_cons, if_pos hp, List.map_cons, List.append_assoc]
      rfl
    · rw [if_neg hp]
      dsimp only [pushAt]
      rw [lc_filter xs (fun y hy => step y (by simp [hy])) acc (by simp at hz ⊢; omega), List.filter_cons, if_neg hp]
theorem in_strs (z : Str) (zs : List Str) : memD (.str z) (zs.map D.str) = decide (z ∈ zs) := by
  unfold memD inV
  rw [List.map_map, List.any_map, Bool.eq_iff_iff]
  simp only [List.any_eq_true, decide_eq_true_eq, Function.comp_apply, vOf, eqV, beq_iff_eq]
  exact ⟨fun ⟨a, h, e⟩ => e ▸ h, fun h => ⟨z, h, rfl⟩⟩
theorem flat_strs (zs : List Str) : (zs.map D.str).all flatD = true := by
  rw [List.all_eq_true]
  intro d hd
  obtain ⟨z, _, rfl⟩ := List.mem_map.mp hd
  rfl
theorem notin_strs {z : Str} {zs : List Str} {M : MH} : dNotInA (.str z) (.fro (zs.map D.str)) M = .ok (.bl (!decide (z ∈ zs))) M := by
  unfold dNotInA inResA inRes items
  dsimp only
  rw [if_pos ⟨rfl, flat_strs zs⟩, in_strs]
/-- the signs that are free behind a stem -/
def freeOf (z : Str) (zs : List Str) : List D := (signsOf ("abcdefghijklmnopqrstuvwxyz" : Str)).filter fun x => match x with
  | .str c => !decide (z ++ c ∈ zs ++ [("on" : Str), "set", "new"])
  | _ => false
theorem free_some {z : Str} {zs : List Str} (h : zs.length ≤ 20) : 0 < (freeOf z zs).length := by
  have e : freeOf z zs = (("abcdefghijklmnopqrstuvwxyz" : Str).cps.toList.filter fun c => decide (z ++ (⟨#[c]⟩ : Str) ∉ zs ++ [("on" : Str), "set", "new"])).map fun c => D.str ⟨#[c]⟩ := by
    unfold freeOf signsOf
    rw [List.filter_map]
    congr 1
    refine List.filter_congr fun c _ => ?_
    simp
  rw [e, List.length_map]
  have hf : ∀ a b : Nat, z ++ (⟨#[a]⟩ : Str) = z ++ (⟨#[b]⟩ : Str) → a = b := by
    intro a b hab
    have h1 : z.cps ++ #[a] = z.cps ++ #[b] := congrArg Str.cps hab
    have h2 := congrArg Array.toList h1
    rw [Array.toList_append, Array.toList_append] at h2
    have h3 := List.append_cancel_left h2
    simpa using h3
  have nd : ("abcdefghijklmnopqrstuvwxyz" : Str).cps.toList.Nodup := by rw [abc_list]; decide
  have := filter_out hf nd (zs ++ [("on" : Str), "set", "new"])
  have hl : ("abcdefghijklmnopqrstuvwxyz" : Str).cps.toList.length = 26 := by decide +kernel
  simp only [List.length_append, List.length_cons, List.length_nil] at this
  omega
theorem free_mem {z : Str} {zs : List Str} {d : D} (h : d ∈ freeOf z zs) : ∃ c, d = .str ⟨#[c]⟩ ∧ 97 ≤ c ∧ c ≤ 122 := by
  have := (List.mem_filter.mp h).1
  unfold signsOf at this
  obtain ⟨c, hc, rfl⟩ := List.mem_map.mp this
  rw [abc_list] at hc
  obtain ⟨k, hk, rfl⟩ := List.mem_map.mp hc
  have := List.mem_range.mp hk
  exact ⟨_, rfl, by omega, by omega⟩
theorem free_run {M : MH} {n : Nat} {z : Str} {zs : List Str} {a1 a4 a6 a7 : Option D} (hn : M[n]? = some (.lst (zs.map D.str))) (hz : z.length ≤ 20) (hs : zs.length ≤ 20) :
    eLc (iStrD (eVar 2)) (tgName 8) namesT (eVar 8) [8] [some (.ref 0), a1, some (.str ("abcdefghijklmnopqrstuvwxyz" : Str)), some (.ref n), a4, some (.str z), a6, a7, none] M = .ok (.ref M.length) (M ++ [.lst (freeOf z zs)]) := by
  have hlt : n < M.length := (List.getElem?_eq_some_iff.mp hn).1
  have main := lc_filter (tg := tgName 8) (tt := namesT) (m := eVar 8) (e := [some (.ref 0), a1, some (.str ("abcdefghijklmnopqrstuvwxyz" : Str)), some (.ref n), a4, some (.str z), a6, a7, none]) (M0 := M) (p := fun x => match x with
      | .str c => !decide (z ++ c ∈ zs ++ [("on" : Str), "set", "new"])
      | _ => false) (g := fun x => x) (signsOf ("abcdefghijklmnopqrstuvwxyz" : Str)) (by
    intro x hx acc
    unfold signsOf at hx
    obtain ⟨c, _, rfl⟩ := List.mem_map.mp hx
    have one : (⟨#[c]⟩ : Str).length = 1 := rfl
    have hli : listItems (M ++ [.lst acc]) (.ref n) = some (zs.map D.str) := by
      unfold listItems
      dsimp only
      rw [List.getElem?_append_left hlt, hn]
    have ea := add_str (a := z) (b := ⟨#[c]⟩) (M := M ++ [.lst acc]) (by omega)
    have ec : dCat mkF (.ref n) (.fro [.str "on", .str "set", .str "new"]) (M ++ [.lst acc]) = .ok (.fro ((zs ++ [("on" : Str), "set", "new"]).map D.str)) (M ++ [.lst acc]) := by
      unfold dCat
      rw [hli]
      dsimp only [listItems]
      rw [if_pos (by simp; unfold big; omega)]
      simp [mkF]
    have et : namesT [some (.ref 0), a1, some (.str ("abcdefghijklmnopqrstuvwxyz" : Str)), some (.ref n), a4, some (.str z), a6, a7, some (.str ⟨#[c]⟩)] (M ++ [.lst acc]) = .ok (!decide (z ++ (⟨#[c]⟩ : Str) ∈ zs ++ [("on" : Str), "set", "new"])) (M ++ [.lst acc]) := by
      rw [namesT]
      simp only [z_seq, z_seq_nx, z_seq_rt, z_seq_ex, z_seq_bk, z_seq_ct, z_if, z_if_t, z_if_f, z_if_x, z_set, z_set_ok, z_set_x, z_ret, z_ret_ok, z_ret_x, z_retN, z_do, z_do_ok, z_do_x, z_nil, z_raise0, z_raise, z_raise_ok, z_toR_rt, z_toR_nx, z_toR_ex, z_c, z_var, z_var_ok, z_un, z_un_ok, z_un_x, z_bin, z_bin_ok, z_bin_x, z_anil, z_cons, z_cons1, z_cons1x, z_cons2, z_cons2x, z_args, z_args_ok, z_args_x, z_tup, z_tup_ok, z_fro, z_fro_ok, z_lst, z_lst_ok, z_call, z_stat, z_call_ok, z_callk, z_callk1, z_callk2, z_mkF, z_mkF_ok, z_own1, z_own1_ok, z_prop, z_own2, z_own2_ok, z_val, z_val_ok, z_val_x, z_and, z_and_t, z_and_f, z_or, z_or_t, z_or_f, z_not, z_not_ok, z_yes, z_eand, z_eand_t, z_eand_f, z_eor, z_eor_t, z_eor_f, z_enot, z_enot_ok, z_eif, z_eif_t, z_eif_f, z_for, z_for_v, z_iseq, z_iseq_t, z_iseq_f, z_iseq_r, z_rng, z_rng_ok, z_env0, z_try, z_try_nx, z_try_rt, z_try0, z_try0_nx, z_try0_rt, z_for_l, z_fv0, z_fv_nx, z_fv_ct, z_fv_rt, z_lc, z_lc_v, z_step, z_step_ok, z_istr, z_istr_ok, z_env0, List.map_cons, List.map_nil, List.replicate, List.append_nil, Nat.reduceSub, List.cons_append, List.nil_append, List.length_cons, List.length_nil, Nat.reduceAdd, Nat.reduceLeDiff, List.getElem?_cons_zero, List.getElem?_cons_succ, List.set_cons_zero, List.set_cons_succ, Bool.not_true, Bool.not_false, ea, ec, notin_strs]
    unfold lcStep tgName
    dsimp only
    rw [show (List.set [some (D.ref 0), a1, some (.str ("abcdefghijklmnopqrstuvwxyz" : Str)), some (.ref n), a4, some (.str z), a6, a7, none] 8 (some (D.str ⟨#[c]⟩))) = [some (.ref 0), a1, some (.str ("abcdefghijklmnopqrstuvwxyz" : Str)), some (.ref n), a4, some (.str z), a6, a7, some (.str ⟨#[c]⟩)] from rfl, et]
    dsimp only [noX, Res.bind]
    by_cases hb : z ++ (⟨#[c]⟩ : Str) ∈ zs ++ [("on" : Str), "set", "new"]
    · simp only [hb, decide_true, Bool.not_true, Bool.false_eq_true, if_false]
    · simp only [hb, decide_false, Bool.not_false, if_true]
      rfl) [] (by rw [signs_len]; have : ("abcdefghijklmnopqrstuvwxyz" : Str).cps.size = 26 := by decide +kernel
                  simp [this])
  simp only [z_seq, z_seq_nx, z_seq_rt, z_seq_ex, z_seq_bk, z_seq_ct, z_if, z_if_t, z_if_f, z_if_x, z_set, z_set_ok, z_set_x, z_ret, z_ret_ok, z_ret_x, z_retN, z_do, z_do_ok, z_do_x, z_nil, z_raise0, z_raise, z_raise_ok, z_toR_rt, z_toR_nx, z_toR_ex, z_c, z_var, z_var_ok, z_un, z_un_ok, z_un_x, z_bin, z_bin_ok, z_bin_x, z_anil, z_cons, z_cons1, z_cons1x, z_cons2, z_cons2x, z_args, z_args_ok, z_args_x, z_tup, z_tup_ok, z_fro, z_fro_ok, z_lst, z_lst_ok, z_call, z_stat, z_call_ok, z_callk, z_callk1, z_callk2, z_mkF, z_mkF_ok, z_own1, z_own1_ok, z_prop, z_own2, z_own2_ok, z_val, z_val_ok, z_val_x, z_and, z_and_t, z_and_f, z_or, z_or_t, z_or_f, z_not, z_not_ok, z_yes, z_eand, z_eand_t, z_eand_f, z_eor, z_eor_t, z_eor_f, z_enot, z_enot_ok, z_eif, z_eif_t, z_eif_f, z_for, z_for_v, z_iseq, z_iseq_t, z_iseq_f, z_iseq_r, z_rng, z_rng_ok, z_env0, z_try, z_try_nx, z_try_rt, z_try0, z_try0_nx, z_try0_rt, z_for_l, z_fv0, z_fv_nx, z_fv_ct, z_fv_rt, z_lc, z_lc_v, z_step, z_step_ok, z_istr, z_istr_ok, z_env0, List.map_cons, List.map_nil, List.replicate, List.append_nil, Nat.reduceSub, List.cons_append, List.nil_append, List.length_cons, List.length_nil, Nat.reduceAdd, Nat.reduceLeDiff, List.getElem?_cons_zero, List.getElem?_cons_succ, List.set_cons_zero, List.set_cons_succ, Bool.not_true, Bool.not_false, wipe2]
  rw [main]
  simp [freeOf]

end T2
namespace T2
open PySem L2
/-- what stood stands -/
def Ext (R T : MH) : Prop := ∀ (i : Nat) (o : MO), R[i]? = some o → T[i]? = some o
theorem Ext.refl {R : MH} : Ext R R := fun _ _ h => h
theorem Ext.trans {R S T : MH} (a : Ext R S) (b : Ext S T) : Ext R T := fun i o h => b i o (a i o h)
theorem Ext.app {R G : MH} : Ext R (R ++ G) := fun i o h => by
  rw [List.getElem?_append_left (List.getElem?_eq_some_iff.mp h).1]; exact h
theorem Ext.set {R T : MH} (h : Ext R T) {p : Nat} (hp : R.length ≤ p) {o : MO} : Ext R (T.set p o) := fun i u hi => by
  have := (List.getElem?_eq_some_iff.mp hi).1
  rw [List.getElem?_set_ne (by omega)]; exact h i u hi
theorem Ext.len {R T : MH} (h : Ext R T) : R.length ≤ T.length := by
  rcases Nat.lt_or_ge T.length R.length with hl | hl
  · have := h T.length _ (List.getElem?_eq_getElem hl)
    have := (List.getElem?_eq_some_iff.mp this).1
    omega
  · exact hl
theorem app_run {e : Env2} {M M2 : MH} {n : Nat} {ds : List D} {y : D} {mo ma : EM} (h1 : mo e M = .ok (.ref n) M) (h2 : ∃ ds0, M[n]? = some (.lst ds0)) (h3 : ma e M = .ok y M2) (h4 : M2[n]? = some (.lst ds)) (h5 : ds.length < 1000) : eApp mo ma e M = .ok .non (M2.set n (MO.lst (ds ++ [y]))) := by
  obtain ⟨ds0, h2⟩ := h2
  unfold eApp
  rw [h1, Res.bind_ok]
  dsimp only
  rw [h2]
  dsimp only
  rw [h3, Res.bind_ok, h4]
  dsimp only
  rw [if_pos (by unfold big; omega)]
theorem nil_len : ("" : Str).length = 0 := by decide +kernel
theorem free_le {z : Str} {zs : List Str} : (freeOf z zs).length ≤ 26 := by
  unfold freeOf
  refine Nat.le_trans (List.length_filter_le _ _) ?_
  rw [signs_len]
  decide +kernel
theorem cons_len {b : MO} {T : MH} : (b :: T).length = T.length + 1 := rfl
theorem seq_run {a b : SM} {e e1 : Env2} {M M1 : MH} {r : SR} (h : a e M = .nx e1 M1) (h2 : b e1 M1 = r) : sSeq a b e M = r := by
  rw [z_seq, h, z_seq_nx, h2]
theorem set_nx {m : EM} {e : Env2} {M M1 : MH} {d : D} {i : Nat} (h : m e M = .ok d M1) : sSet i m e M = .nx (e.set i (some d)) M1 := by
  rw [z_set, h, z_set_ok]
theorem for_nx {it : Env2 → MH → Res IV} {tg : TgM} {b : SM} {e e1 : Env2} {M M0 M1 : MH} {ds : List D} (h : it e M = .ok (.vals ds) M0) (h2 : forV tg b ds e M0 = .nx e1 M1) : sForI it tg b e M = .nx e1 M1 := by
  rw [z_for, h, z_for_v, h2]
theorem ret_rt {m : EM} {e : Env2} {M M1 : MH} {d : D} (h : m e M = .ok d M1) : sRet m e M = .rt d M1 := by
  rw [z_ret, h, z_ret_ok]
theorem var_ok {e : Env2} {M : MH} {d : D} {i : Nat} (h : e[i]? = some (some d)) : eVar i e M = .ok d M := by
  rw [z_var, h, z_var_ok]
end T2
namespace T2
open PySem L2
/-- v is a list of these items, behind the box -/
def Lv (T : MH) (v : D) (ds : List D) : Prop := v = .fro ds ∨ ∃ p, v = .ref (p + 1) ∧ T[p]? = some (.lst ds)
theorem Lv.ext {T T' : MH} {v : D} {ds : List D} (h : Lv T v ds) (x : Ext T T') : Lv T' v ds := by
  rcases h with h | ⟨p, e, h⟩
  · exact .inl h
  · exact .inr ⟨p, e, x _ _ h⟩
theorem Lv.items {T : MH} {v : D} {ds : List D} (h : Lv T v ds) (b : MO) : listItems (b :: T) v = some ds := by
  rcases h with rfl | ⟨p, rfl, h⟩
  · rfl
  · unfold listItems
    dsimp only
    rw [List.getElem?_cons_succ, h]
theorem Lv.seq {T : MH} {v : D} {ds : List D} (h : Lv T v ds) (b : MO) : SeqOf (b :: T) "list" v ds := .inr ⟨rfl, h.items b⟩
theorem Lv.all {T : MH} {v : D} {ds : List D} (h : Lv T v ds) (b : MO) : T2.items (b :: T) v = some ds := by
  rcases h with rfl | ⟨p, rfl, h⟩
  · rfl
  · unfold T2.items
    dsimp only
    rw [List.getElem?_cons_succ, h]
theorem cat_F {M : MH} {x y : D} {xs ys : List D} (hx : listItems M x = some xs) (hy : listItems M y = some ys) (h : xs.length + ys.length ≤ 1000) : dCat mkF x y M = .ok (.fro (xs ++ ys)) M := by
  unfold dCat
  rw [hx, hy]
  dsimp only
  rw [if_pos (by unfold big; omega)]
  rfl
theorem push_ok {M : MH} {n : Nat} {acc : List D} {y : D} (hM : M[n]? = some (.lst acc)) (hz : acc.length < 1000) : pushAt n (some y) M = some (M.set n (.lst (acc ++ [y]))) := by
  unfold pushAt
  dsimp only
  rw [hM]
  dsimp only
  rw [if_pos (by unfold big; omega)]
/-- plain data: tuples, texts, numbers -/
def Pd : Nat → D → Prop
  | 0, _ => False
  | k + 1, x => x = .non ∨ (∃ b, x = .bl b) ∨ (∃ i, x = .int i) ∨ (∃ s, x = .str s ∧ PyData.strOk s = true) ∨ ∃ xs, x = .tup xs ∧ xs.length ≤ 1000 ∧ ∀ a ∈ xs, Pd k a
theorem Pd.up : ∀ {k : Nat} {x : D}, Pd k x → Pd (k + 1) x
  | 0, _, h => h.elim
  | k + 1, x, h => by
    rcases h with h | h | h | h | ⟨xs, h, hl, ha⟩
    · exact .inl h
    · exact .inr (.inl h)
    · exact .inr (.inr (.inl h))
    · exact .inr (.inr (.inr (.inl h)))
    · exact .inr (.inr (.inr (.inr ⟨xs, h, hl, fun a m => Pd.up (ha a m)⟩)))
theorem pd_str {k : Nat} {s : Str} (h : PyData.strOk s = true) : Pd (k + 1) (.str s) := .inr (.inr (.inr (.inl ⟨s, rfl, h⟩)))
theorem pd_int {k : Nat} {i : Int} : Pd (k + 1) (.int i) := .inr (.inr (.inl ⟨i, rfl⟩))
theorem pd_tup {k : Nat} {xs : List D} (hl : xs.length ≤ 1000) (h : ∀ a ∈ xs, Pd k a) : Pd (k + 1) (.tup xs) := .inr (.inr (.inr (.inr ⟨xs, rfl, hl, h⟩)))
theorem pd_2 {k : Nat} {x y : D} (hx : Pd k x) (hy : Pd k y) : Pd (k + 1) (.tup [x, y]) := pd_tup (by simp) (by simp [hx, hy])
theorem pd_1 {k : Nat} {x : D} (hx : Pd k x) : Pd (k + 1) (.tup [x]) := pd_tup (by simp) (by simp [hx])
theorem pd_3 {k : Nat} {x y z : D} (hx : Pd k x) (hy : Pd k y) (hz : Pd k z) : Pd (k + 1) (.tup [x, y, z]) := pd_tup (by simp) (by simp [hx, hy, hz])
theorem same_pd {M : MH} : ∀ {k : Nat} {x : D}, Pd k x → Same M k x x
  | 0, _, h => h.elim
  | k + 1, x, h => by
    rcases h with h | ⟨b, h⟩ | ⟨i, h⟩ | ⟨s, h, ho⟩ | ⟨xs, h, hl, ha⟩
    · exact .inl ⟨h, h⟩
    · exact .inr (.inl ⟨b, h, h⟩)
    · exact .inr (.inr (.inl ⟨i, h, h⟩))
    · exact .inr (.inr (.inr (.inl ⟨s, h, h, ho⟩)))
    · refine .inr (.inr (.inr (.inr ⟨"tuple", xs, xs, .inl ⟨rfl, h⟩, .inl ⟨rfl, h⟩, rfl, hl, fun i a c h1 h2 => ?_⟩)))
      rw [h1] at h2
      cases h2
      exact same_pd (ha a (List.mem_of_getElem? h1))
theorem same_list {M : MH} {k : Nat} {x y : D} {xs : List D} (hx : listItems M x = some xs) (hy : listItems M y = some xs) (hl : xs.length ≤ 1000) (h : ∀ a ∈ xs, Pd k a) : Same M (k + 1) x y := by
  refine .inr (.inr (.inr (.inr ⟨"list", xs, xs, .inr ⟨rfl, hx⟩, .inr ⟨rfl, hy⟩, rfl, hl, fun i a c h1 h2 => ?_⟩)))
  rw [h1] at h2
  cases h2
  exact same_pd (h a (List.mem_of_getElem? h1))
end T2
namespace T2
open PySem L2
/-! ### a law's body, statement by statement: it ends with True -/
/-! ### fields of an instance that is being made -/
/-! ### plain data compared: a bool, whatever the memory -/
/-! ### a list that is walked, under an invariant of the names -/
end T2
namespace T2
open PySem L2 PyProof.Rows

/-! ### o.f += e (ints) -/
section
variable {X : Cx} {g : Wd} {W : WY} {a b o : Expr} {pos p apos : Pos} {m1 m2 m3 : EM} {ma : AM} {es : List Expr}
/-! ### a, b, .. = a list -/
end

/-! ### dict comprehensions (one clause, over values) -/
def dcStep (tg : TgM) (tt : BM) (mk mv : EM) (e : Env2) (x : D) (M : MH) : Res (Option (Key × D)) := match tg x e with
  | none => .bad
  | some e1 => (noX (tt e1 M)).bind fun b M1 => if b = true then (noX (mk e1 M1)).bind fun y M2 => (noX (mv e1 M2)).bind fun z M3 => match keyOf y with
      | some k => .ok (some (k, z)) M3
      | none => .bad
    else .ok none M1
def putAt (n : Nat) (o : Option (Key × D)) (M : MH) : Option MH := match o with
  | none => some M
  | some (k, y) => match M[n]? with
    | some (.dk ks ds) => if ds.length ≤ 1000 then some (M.set n (.dk (kPutD k y ks ds).1 (kPutD k y ks ds).2)) else none
    | _ => none
def dcV (tg : TgM) (tt : BM) (mk mv : EM) (e : Env2) (n : Nat) : List D → MH → Res D
  | [], M => .ok (.ref n) M
  | x :: xs, M => (dcStep tg tt mk mv e x M).bind fun o M1 => match putAt n o M1 with
    | some M2 => dcV tg tt mk mv e n xs M2
    | none => .bad
def eDc (it : Env2 → MH → Res IV) (tg : TgM) (tt : BM) (mk mv : EM) (vs : List Nat) : EM := fun e M => match it e M with
  | .ok (.vals ds) M1 => dcV tg tt mk mv (wipe2 e vs) M1.length ds (M1 ++ [.dk [] []])
  | .exc c ns ds M1 => .exc c ns ds M1
  | _ => .bad
section
variable {X : Cx} {g : Wd} {W : WY} {pos : Pos} {mk mv : EM} {tt : BM}
theorem dcStep_run {F : List Addr} {e : Env2} {M : MH} {σ : L2.St} {H : Hp} {x : D} {v : V} {tg : TgM} {gt : TG} {vs : List Nat} {n : Nat} {ad : Addr} {k : MH → Res D} {Q : VK} {Nx : Hp → Prop} {τ : L2.St}
    (RS : RelS g ⟨[], []⟩ F (wipe2 e vs) M (wipe σ vs) H) (ts : TgSim g tg gt) (ow : TgOwn tg gt vs) (r : Rep g F H x v) (hn : F[n]? = some ad)
    (q : post g rD W.w F τ H ((dcStep tg tt mk mv (wipe2 e vs) x M).bind fun o M1 => match putAt n o M1 with | some M2 => k M2 | none => .bad) Q)
    (f : ∀ M1 F1 H1, Grow F H F1 H1 → RelM g F1 M1 H1 → post g rD W.w F1 τ H1 (k M1) Q → Nx H1) :
    gt v (wipe σ vs) H fun σ2 H2 => wipe σ2 vs = wipe σ vs ∧ tB2 g W0 tt σ2 H2 fun b H3 => if b = true then tD g W0 mk σ2 H3 fun y H4 => tD g W0 mv σ2 H4 fun z H5 => ∃ kvs k, y = kV k ∧ H5 ad = some (.dK kvs) ∧ kvs.length < sizeLine ∧ Nx (upd H5 ad (.dK (putK kvs k z))) else Nx H3 := by
  unfold dcStep at q
  cases ht : tg x (wipe2 e vs) with
  | none => rw [ht] at q; exact q.elim
  | some e1 =>
    rw [ht] at q
    dsimp only at q
    refine ow v σ H _ (ts F M _ e1 _ H x v _ RS.m RS.e r ht fun σ2 E2 => ?_)
    refine ⟨F, e1, M, ⟨RS.m, E2, pin_nil, xrs_nil⟩, ?_⟩
    cases hb : tt e1 M with
    | bad => rw [hb] at q; exact q.elim
    | exc c ns ds M1 => rw [hb] at q; exact q.elim
    | ok b M1 =>
      rw [hb] at q
      intro F1 H1 b' g1 R1 eb
      cases eb
      dsimp only [Res.bind, noX] at q
      have RS1 : RelS g ⟨[], []⟩ F1 e1 M1 σ2 H1 := RelS.up ⟨RS.m, E2, pin_nil, xrs_nil⟩ g1 R1
      cases b with
      | false => exact f M1 F1 H1 g1 R1 (q.up g1)
      | true =>
        refine ⟨F1, e1, M1, RS1, ?_⟩
        rw [if_pos rfl] at q
        cases hm : mk e1 M1 with
        | bad => rw [hm] at q; exact q.elim
        | exc c ns ds M2 => rw [hm] at q; exact q.elim
        | ok y M2 =>
          rw [hm] at q
          intro F2 H2 u g2 R2 ru
          dsimp only [Res.bind, noX] at q
          refine ⟨F2, e1, M2, RS1.up g2 R2, ?_⟩
          cases hm3 : mv e1 M2 with
          | bad => rw [hm3] at q; exact q.elim
          | exc c ns ds M2 => rw [hm3] at q; exact q.elim
          | ok z M3 =>
            rw [hm3] at q
            intro F3 H3 w g3 R3 rw'
            have hn3 : F3[n]? = some ad := pre_get g3.pre (pre_get g2.pre (pre_get g1.pre hn))
            have g123 := (g1.trans g2).trans g3
            dsimp only [Res.bind, noX] at q
            cases hk : keyOf y with
            | none => rw [hk] at q; exact q.elim
            | some ky =>
              rw [hk] at q
              dsimp only [Res.bind, putAt] at q
              cases hM : M3[n]? with
              | none => rw [hM] at q; exact q.elim
              | some o =>
                rw [hM] at q
                cases o with
                | dk ks ds =>
                  dsimp only at q
                  by_cases hl : ds.length ≤ 1000
                  · rw [if_pos hl] at q
                    have ev := key_rep ru hk
                    subst ev
                    obtain ⟨us, hu, hlk, ra⟩ := dk_at R3 hn3 hM
                    refine ⟨_, ky, rfl, hu, by rw [List.length_zip]; have := ra.length; exact Nat.lt_of_lt_of_le (by omega : _ < 1002) (by decide), ?_⟩
                    have e2 := kPutD_len (x := ky) (d := z) (v := w) (ks := ks) ra.length
                    rw [putK_zip hlk]
                    obtain ⟨g4, R4⟩ := R3.put (o := .dK ((kPutD ky w ks us).1.zip (kPutD ky w ks us).2)) (m := .dk (kPutD ky z ks ds).1 (kPutD ky z ks ds).2) hn3 trivial fun H' gr => by
                      rw [e2.1]
                      exact .dk (kPutD_one hlk) (kPutD_rep (rw'.mono gr R3.good) (ra.mono gr R3.good))
                    exact f _ F3 _ (g123.trans g4) R4 (q.up (g123.trans g4))
                  · rw [if_neg hl] at q; exact q.elim
                | _ => exact q.elim
theorem eDc_imp {it : Env2 → MH → Res IV} {wi : TI} {tg : TgM} {gt : TG} {vs : List Nat} (hsim : ItSim g W it wi) (ts : TgSim g tg gt) (ow : TgOwn tg gt vs) {σ : L2.St} {H : Hp} {Q : VK} (q : tD g W (eDc it tg tt mk mv vs) σ H Q) : tDc wi gt (tB2 g W0 tt) (tD g W0 mk) (tD g W0 mv) vs σ H Q := by
  obtain ⟨F, e, M, RS, q⟩ := q
  refine hsim σ H F e M _ RS ?_
  unfold eDc at q
  cases hi : it e M with
  | bad => rw [hi] at q; exact q
  | exc c ns ds M1 => rw [hi] at q; exact q
  | ok iv M1 =>
    rw [hi] at q
    cases iv with
    | vals ds =>
      intro F1 H1 J g1 R1 itv ad had
      obtain ⟨g2, R2⟩ := R1.laid (m := .dk [] []) (o := .dK []) had fun F' H' gr => .dk rfl .nil
      have RS2 : RelS g W.p (F1 ++ [ad]) e (M1 ++ [.dk [] []]) σ (upd H1 ad (.dK [])) := (RS.up g1 R1).up g2 R2
      have hn0 : (F1 ++ [ad])[M1.length]? = some ad := by rw [← R1.len]; simp
      refine ⟨fun i k H' => i + k = ds.length ∧ ∃ F' M', Grow (F1 ++ [ad]) (upd H1 ad (.dK [])) F' H' ∧ RelM g F' M' H' ∧ post g rD W.w F' σ H' (dcV tg tt mk mv (wipe2 e vs) M1.length (ds.drop i) M') Q, ⟨ds.length, by simp, F1 ++ [ad], M1 ++ [.dk [] []], .same, R2, by simpa using q.up (g1.trans g2)⟩, ?_⟩
      rintro i k H3 ⟨hk, F3, M3, g3, R3, q3⟩
      have hn3 : F3[M1.length]? = some ad := pre_get g3.pre hn0
      by_cases hlt : i < ds.length
      · refine .inr ⟨itv.go F3 H3 i (g2.trans g3) hlt, fun H' => ∃ F' M', Grow (F1 ++ [ad]) (upd H1 ad (.dK [])) F' H' ∧ RelM g F' M' H' ∧ post g rD W.w F' σ H' (dcV tg tt mk mv (wipe2 e vs) M1.length (ds.drop (i + 1)) M') Q, fun H' z => ⟨k - 1, by omega, by omega, z⟩, fun x H4 hy => ?_⟩
        obtain ⟨hk4, d, hd, rd⟩ := itv.yld F3 H3 i x H4 (g2.trans g3) hlt hy
        obtain ⟨gk, Rk⟩ := R3.keep hk4
        replace q3 := q3.up gk
        replace g3 := g3.trans gk
        replace R3 := Rk
        rw [drop_cons' hd] at q3
        unfold dcV at q3
        have RS3 : RelS g ⟨[], []⟩ F3 (wipe2 e vs) M3 (wipe σ vs) H4 := ⟨R3, wipe_rep (RS2.up g3 R3).e vs, pin_nil, xrs_nil⟩
        exact dcStep_run RS3 ts ow rd hn3 q3 fun M5 F5 H5 g5 R5 q5 => ⟨F5, M5, g3.trans g5, R5, q5⟩
      · have hge : ds.length ≤ i := Nat.le_of_not_lt hlt
        rw [List.drop_eq_nil_of_le hge] at q3
        exact .inl ⟨itv.stop F3 H3 i (g2.trans g3) hge, q3.here R3 (.ref hn3)⟩
    | live sr => exact q.elim
variable {kx vx tgE iter : Expr} {ifs : List Expr} {scope : Scope} {own : List (Str × Nat)}
theorem de_dc {it : Env2 → MH → Res IV} {wi : TI} {tg : TgM} {gt : TG} (hN : X.N.Nodup) (hi : PI X tgE iter wi) (hsim : ItSim g W it wi) (ok : BlkOk X.N X.env.scope scope own) (ts : TgSim g tg gt) (ow : TgOwn tg gt (own.map (·.2)))
    (hg : ∀ (s : Shared) (H : Hp) (C : Addr) (cl : List (Str × Addr)) (fp : List Addr), PG (X.blk s H scope (compEnvC scope cl C X.env) fp) tgE gt) (ht : ∀ (s : Shared) (H : Hp) (C : Addr) (cl : List (Str × Addr)) (fp : List Addr), PTs (X.blk s H scope (compEnvC scope cl C X.env) fp) ifs (tB2 g W0 tt))
    (hk : ∀ (s : Shared) (H : Hp) (C : Addr) (cl : List (Str × Addr)) (fp : List Addr), PE (X.blk s H scope (compEnvC scope cl C X.env) fp) kx (tD g W0 mk))
    (he : ∀ (s : Shared) (H : Hp) (C : Addr) (cl : List (Str × Addr)) (fp : List Addr), PE (X.blk s H scope (compEnvC scope cl C X.env) fp) vx (tD g W0 mv)) (hc : X.calm = true := by rfl) (hs : ∀ x, foldedSetIterable iter X.env x = pure x := by intro _; rfl) :
    PE X (.DictComp kx vx [⟨tgE, iter, ifs, 0⟩] scope pos) (tD g W (eDc it tg tt mk mv (own.map (·.2)))) := pe_imp (pe_dc hc hN hi ok hg ht hk he hs) fun σ H Q q => eDc_imp hsim ts ow q
end
end T2
namespace T2
open PySem L2
/-! ### functions changed at one place; three in a row -/
def up1 {α : Type} (f : Nat → α) (i : Nat) (v : α) : Nat → α := fun j => if j = i then v else f j
theorem up1_same {α : Type} {f : Nat → α} {i : Nat} {v : α} : up1 f i v i = v := if_pos rfl
theorem up1_ne {α : Type} {f : Nat → α} {i j : Nat} {v : α} (h : j ≠ i) : up1 f i v j = f j := if_neg h
def r3 {α : Type} (f : Nat → α) : List α := [f 0, f 1, f 2]
def k3 : List Key := [.inl 0, .inl 1, .inl 2]
/-! ### slots: slot i stands at the place π i behind the box and holds c i -/
structure Sl (N : Nat) (T : MH) (π : Nat → Nat) (c : Nat → MO) : Prop where
  at_ : ∀ i, i < N → T[π i]? = some (c i)
  inj : ∀ i j, i < N → j < N → π i = π j → i = j
section
variable {N : Nat} {T T' : MH} {π : Nat → Nat} {c : Nat → MO} {i : Nat} {o : MO}
theorem Sl.lt (h : Sl N T π c) (hi : i < N) : π i < T.length := (List.getElem?_eq_some_iff.mp (h.at_ i hi)).1
theorem Sl.set (h : Sl N T π c) (hi : i < N) : Sl N (T.set (π i) o) π (up1 c i o) := by
  refine ⟨fun j hj => ?_, h.inj⟩
  by_cases e : j = i
  · subst e; rw [List.getElem?_set_self (h.lt hi), up1_same]
  · rw [List.getElem?_set_ne (fun z => e (h.inj j i hj hi z.symm)), up1_ne e]; exact h.at_ j hj
theorem Sl.ext (h : Sl N T π c) (x : Ext T T') : Sl N T' π c := ⟨fun j hj => x _ _ (h.at_ j hj), h.inj⟩
theorem Sl.fresh (h : Sl N T π c) (hi : i < N) : Sl N (T ++ [o]) (up1 π i T.length) (up1 c i o) := by
  refine ⟨fun j hj => ?_, fun a b ha hb e => ?_⟩
  · by_cases e : j = i
    · subst e; rw [up1_same, up1_same]; simp
    · rw [up1_ne e, up1_ne e, List.getElem?_append_left (h.lt hj)]; exact h.at_ j hj
  · by_cases ea : a = i
    · by_cases eb : b = i
      · rw [ea, eb]
      · rw [ea, up1_same, up1_ne eb] at e
        have := h.lt hb; omega
    · by_cases eb : b = i
      · rw [eb, up1_same, up1_ne ea] at e
        have := h.lt ha; omega
      · rw [up1_ne ea, up1_ne eb] at e; exact h.inj a b ha hb e
/-- one slot more -/
theorem Sl.more (h : Sl N T π c) (hN : π N = T.length) (hc : c N = o) : Sl (N + 1) (T ++ [o]) π c := by
  refine ⟨fun j hj => ?_, fun a b ha hb e => ?_⟩
  · by_cases e : j = N
    · subst e; rw [hN, hc]; simp
    · rw [List.getElem?_append_left (h.lt (by omega))]; exact h.at_ j (by omega)
  · by_cases ea : a = N
    · by_cases eb : b = N
      · rw [ea, eb]
      · have := h.lt (i := b) (by omega); rw [ea, hN] at e; omega
    · by_cases eb : b = N
      · have := h.lt (i := a) (by omega); rw [eb, hN] at e; omega
      · exact h.inj a b (by omega) (by omega) e
end
abbrev rf (π : Nat → Nat) (i : Nat) : D := .ref (π i + 1)
section
variable {T : MH} {p : Nat} {b : MO} {u : Nat} {v d : D} {ds : List D} {M M1 M2 : MH} {e e1 : Env2}
/-! ### loops over lists that stay, while other things change -/
/-! ### comprehensions with a test, nothing new but the list -/
theorem step_if {i : Nat} {tt : BM} {m : EM} {x y : D} {k : Bool} (h1 : tt (e.set i (some x)) M = .ok k M) (h2 : k = true → m (e.set i (some x)) M = .ok y M) : lcStep (tgName i) tt m e x M = .ok (if k = true then some y else none) M := by
  unfold lcStep tgName
  dsimp only
  rw [h1]
  dsimp only [noX, Res.bind]
  cases k with
  | false => rfl
  | true => rw [if_pos rfl, h2 rfl]; rfl
theorem lc_if {it : Env2 → MH → Res IV} {i : Nat} {tt : BM} {m : EM} {vs : List Nat} {p : D → Bool} {g : D → D} (hi : it e M = .ok (.vals ds) M) (h1 : ∀ x ∈ ds, ∀ acc, tt ((wipe2 e vs).set i (some x)) (M ++ [.lst acc]) = .ok (p x) (M ++ [.lst acc])) (h2 : ∀ x ∈ ds, p x = true → ∀ acc, m ((wipe2 e vs).set i (some x)) (M ++ [.lst acc]) = .ok (g x) (M ++ [.lst acc])) (hz : ds.length ≤ 1000) :
    eLc it (tgName i) tt m vs e M = .ok (.ref M.length) (M ++ [.lst ((ds.filter p).map g)]) := by
  rw [z_lc, hi, z_lc_v, lc_filter ds (p := p) (g := g) (fun x hx acc => step_if (h1 x hx acc) fun hp => h2 x hx hp acc) [] (by simpa using hz)]
  simp
end
end T2
namespace T2
open PySem L2

/-! ### what a call hands back is frozen, what it has made beside it is forgotten -/
mutual
def fzA (rf : Nat → Option D) : D → Option D
  | .ref n => rf n
  | .tup ds => (fzAs rf ds).map .tup
  | .fro ds => (fzAs rf ds).map .fro
  | .ins c ns ds => (fzAs rf ds).map (.ins c ns)
  | .non => some .non
  | .bl b => some (.bl b)
  | .int i => some (.int i)
  | .str x => some (.str x)
  | .ty n => some (.ty n)
  | .cls c => some (.cls c)
  | .obj a => some (.obj a)
  | .tk ks => some (.tk ks)
def fzAs (rf : Nat → Option D) : List D → Option (List D)
  | [] => some []
  | d :: ds => match fzA rf d, fzAs rf ds with
    | some x, some xs => some (x :: xs)
    | _, _ => none
end
def rfz (M : MH) (k : Nat) : Nat → Nat → Option D
  | 0, n => if n < k then some (.ref n) else none
  | f + 1, n => if n < k then some (.ref n) else match M[n]? with
    | some (.lst ds) => (fzAs (rfz M k f) ds).map .fro
    | _ => none
section
variable {g : Wd} {F : List Addr} {H : Hp} {M : MH} {k : Nat}
mutual
theorem fzA_rep {rf : Nat → Option D} (hrf : ∀ n d' a, F[n]? = some a → rf n = some d' → Rep g (F.take k) H d' (.ref a)) : ∀ {d : D} {v : V} {d' : D}, Rep g F H d v → fzA rf d = some d' → Rep g (F.take k) H d' v
  | _, _, _, .non, h => by cases h; exact .non
  | _, _, _, .bl b, h => by cases h; exact .bl b
  | _, _, _, .int i, h => by cases h; exact .int i
  | _, _, _, .str x, h => by cases h; exact .str x
  | _, _, _, .ty n, h => by cases h; exact .ty n
  | _, _, _, .cls c, h => by cases h; exact .cls c
  | _, _, _, .obj a, h => by cases h; exact .obj a
  | _, _, _, .tk h0, h => by cases h; exact .tk h0
  | _, _, _, .ref hn, h => hrf _ _ _ hn h
  | _, _, _, .tup h0 r, h => by
    obtain ⟨xs, h1, rfl⟩ := Option.map_eq_some_iff.mp h
    exact .tup h0 (fzAs_rep hrf r h1)
  | _, _, _, .fro h0 r, h => by
    obtain ⟨xs, h1, rfl⟩ := Option.map_eq_some_iff.mp h
    exact .fro h0.cut (fzAs_rep hrf r h1)
  | _, _, _, .ins h0 hn hl r, h => by
    obtain ⟨xs, h1, rfl⟩ := Option.map_eq_some_iff.mp h
    exact .ins h0 (fun z => hn (List.mem_of_mem_take z)) hl (fzAs_rep hrf r h1)
theorem fzAs_rep {rf : Nat → Option D} (hrf : ∀ n d' a, F[n]? = some a → rf n = some d' → Rep g (F.take k) H d' (.ref a)) : ∀ {ds : List D} {vs : List V} {ds' : List D}, Reps g F H ds vs → fzAs rf ds = some ds' → Reps g (F.take k) H ds' vs
  | _, _, _, .nil, h => by cases h; exact .nil
  | _, _, _, .cons (d := d) (ds := ds) r t, h => by
    unfold fzAs at h
    cases h1 : fzA rf d with
    | none => rw [h1] at h; cases h
    | some x =>
      cases h2 : fzAs rf ds with
      | none => rw [h1, h2] at h; cases h
      | some xs =>
        rw [h1, h2] at h
        cases h
        exact .cons (fzA_rep hrf r h1) (fzAs_rep hrf t h2)
end
theorem notin_take {n : Nat} {a : Addr} (nd : F.Nodup) (hn : F[n]? = some a) (hk : k ≤ n) : a ∉ F.take k := fun z => by
  obtain ⟨i, hi⟩ := List.getElem?_of_mem z
  have hik : i < k := by
    have := (List.getElem?_eq_some_iff.mp hi).1
    rw [List.length_take] at this
    omega
  rw [List.getElem?_take_of_lt hik] at hi
  have := (List.getElem?_inj (List.getElem?_eq_some_iff.mp hi).1 nd).mp (hi.trans hn.symm)
  omega
theorem rfz_rep (R : RelM g F M H) : ∀ (f n : Nat) (d' : D) (a : Addr), F[n]? = some a → rfz M k f n = some d' → Rep g (F.take k) H d' (.ref a)
  | 0, n, d', a, hn, h => by
    unfold rfz at h
    split at h
    · rename_i hk
      cases h
      exact .ref (by rw [List.getElem?_take_of_lt hk]; exact hn)
    · cases h
  | f + 1, n, d', a, hn, h => by
    unfold rfz at h
    split at h
    · rename_i hk
      cases h
      exact .ref (by rw [List.getElem?_take_of_lt hk]; exact hn)
    · rename_i hk
      split at h
      · rename_i ds hM
        obtain ⟨xs, h1, rfl⟩ := Option.map_eq_some_iff.mp h
        obtain ⟨o, ho, r⟩ := R.obj n a _ hn hM
        cases r with | lst r =>
        exact .fro (.inl ⟨ho, notin_take R.nd hn (by omega)⟩) (fzAs_rep (rfz_rep R f) r h1)
      · cases h
end
mutual
theorem D.low_up {k m : Nat} (h : k ≤ m) : ∀ {d : D}, D.low k d → D.low m d
  | .ref n, l => by unfold D.low at l ⊢; omega
  | .tup ds, l => by unfold D.low at l ⊢; exact D.lows_up h l
  | .fro ds, l => by unfold D.low at l ⊢; exact D.lows_up h l
  | .ins _ _ ds, l => by unfold D.low at l ⊢; exact D.lows_up h l
  | .non, _ => trivial
  | .bl _, _ => trivial
  | .int _, _ => trivial
  | .str _, _ => trivial
  | .ty _, _ => trivial
  | .cls _, _ => trivial
  | .obj _, _ => trivial
  | .tk _, _ => trivial
theorem D.lows_up {k m : Nat} (h : k ≤ m) : ∀ {ds : List D}, D.lows k ds → D.lows m ds
  | [], _ => trivial
  | d :: ds, l => ⟨D.low_up h l.1, D.lows_up h l.2⟩
end
theorem MO.low_up {k m : Nat} (h : k ≤ m) : ∀ {o : MO}, MO.low k o → MO.low m o
  | .lst _, l => D.lows_up h l
  | .dk _ _, l => D.lows_up h l
  | .dt _ _, l => D.lows_up h l
  | .ob _ _ _, l => D.lows_up h l
  | .lk _ _, l => D.lows_up h l
  | .lt _ _, l => D.lows_up h l
  | .dp _ _, l => D.lows_up h l
  | .lp _ _, l => D.lows_up h l
open Classical in
/-- the first thing alone may have changed, and refers to nothing -/
noncomputable def frzB (f : List D → MH → Res D) : List D → MH → Res D := fun ds M => match M, f ds M with
  | _ :: T, .ok d (b' :: T') => if T'.take T.length = T ∧ MO.low 0 b' then (match fzA (rfz (b' :: T') (T.length + 1) 4) d with
    | some d' => .ok d' (b' :: T)
    | none => .bad) else .bad
  | _, _ => .bad
theorem frz_ok {f : List D → MH → Res D} {ds : List D} {b b' : MO} {T G : MH} {d d' : D} (h : f ds (b :: T) = .ok d (b' :: (T ++ G))) (hb : MO.low 0 b') (hd : fzA (rfz (b' :: (T ++ G)) (T.length + 1) 4) d = some d') : frzB f ds (b :: T) = .ok d' (b' :: T) := by
  unfold frzB
  rw [h]
  dsimp only
  rw [if_pos ⟨by simp, hb⟩, hd]
theorem fn_frz {P : Program} {w : World} {K : PySem.W.Frag} {mg : Str → Option Value} {base : Heap} {CX : CXT} {g : Wd} {f : Addr} {fd : FuncData} {ps : List Str} {k n : Nat} {m : List D → MH → Res D} (F : FnOk P w K mg base CX k f fd ps (spD g n m)) : FnOk P w K mg base CX k f fd ps (spD g n (frzB m)) :=
  F.imp fun vs H Q E ⟨hl, F, M, ds, R, r, q⟩ => ⟨hl, F, M, ds, R, r, by
    unfold frzB at q
    split at q
    · rename_i b T d b' T' hm
      split at q
      · rename_i hc
        split at q
        · rename_i d' hd
          rw [hm]
          intro F1 H1 v g1 R1 rv
          have e : b' :: T' = (b' :: T) ++ T'.drop T.length := by
            rw [List.cons_append]
            congr 1
            conv => lhs; rw [← List.take_append_drop T.length T', hc.1]
          have lm : MLow (b' :: T) := fun o ho => by
            rcases List.mem_cons.mp ho with rfl | ho
            · exact MO.low_up (Nat.zero_le _) hc.2
            · have := R.low o (List.mem_cons_of_mem _ ho)
              exact this
          have R1' : RelM g F1 ((b' :: T) ++ T'.drop T.length) H1 := by rw [← e]; exact R1
          exact q _ H1 v (g1.cut (by rw [R.len]; simp)) (R1'.cut lm) (fzA_rep (rfz_rep R1 4) rv hd)
        · exact q.elim
      · exact q.elim
    · exact q.elim⟩
/-- data without places stay as they are -/
theorem fz_pd {rf : Nat → Option D} : ∀ {k : Nat} {x : D}, Pd k x → fzA rf x = some x
  | 0, _, h => h.elim
  | k + 1, x, h => by
    rcases h with rfl | ⟨b, rfl⟩ | ⟨i, rfl⟩ | ⟨s, rfl, ho⟩ | ⟨xs, rfl, hl, ha⟩
    · rfl
    · rfl
    · rfl
    · rfl
    · have key : ∀ ys : List D, (∀ a ∈ ys, Pd k a) → fzAs rf ys = some ys := by
        intro ys
        induction ys with
        | nil => exact fun _ => rfl
        | cons y ys ih =>
          intro h
          unfold fzAs
          rw [fz_pd (h y (by simp)), ih fun a m => h a (by simp [m])]
      unfold fzA
      rw [key xs ha]
      rfl
theorem fzs_pd {rf : Nat → Option D} {k : Nat} : ∀ {ys : List D}, (∀ a ∈ ys, Pd k a) → fzAs rf ys = some ys
  | [], _ => rfl
  | y :: ys, h => by
    unfold fzAs
    rw [fz_pd (h y (by simp)), fzs_pd fun a m => h a (by simp [m])]
theorem low_ints {k : Nat} : ∀ ns : List Int, D.lows k (ns.map D.int)
  | [] => trivial
  | _ :: ns => ⟨trivial, low_ints ns⟩
theorem box_low {s : Bx} : MO.low 0 s.obj := by
  unfold Bx.obj MO.low
  refine ⟨?_, trivial, trivial, trivial, trivial, trivial⟩
  unfold D.low
  exact low_ints _
/-- a new list of plain data, frozen -/
theorem fz_new {s : Bx} {T G : MH} {p k : Nat} {xs : List D} (hp : T.length < p) (hG : (s.obj :: (T ++ G))[p]? = some (.lst xs)) (hx : ∀ a ∈ xs, Pd k a) : fzA (rfz (s.obj :: (T ++ G)) (T.length + 1) 4) (.ref p) = some (.fro xs) := by
  show rfz (s.obj :: (T ++ G)) (T.length + 1) 4 p = _
  unfold rfz
  rw [if_neg (by omega), hG]
  dsimp only
  rw [fzs_pd hx]
  rfl

/-! ### min of a list of numbers -/
section
variable {X : Cx} {g : Wd} {W : WY} {a : Expr} {pos p : Pos} {ma : AM} {es : List Expr}
end
end T2
namespace T2
open PySem L2

/-! ### dicts whose keys are tuples -/
section
variable {X : Cx} {g : Wd} {W : WY} {a b o : Expr} {pos p apos : Pos} {m1 m2 m3 : EM} {ma : AM} {es : List Expr}
end
/-! ### for k in d: the dict is locked as long as the loop goes -/
section
variable {g : Wd} {F F' : List Addr} {H H' : Hp}
mutual
theorem Rep.mono0 (kp : ∀ b o, H b = some o → b ∉ F → H' b = some o) (G : Good F H) : ∀ {d : D} {v : V}, Rep g F H d v → Rep g F H' d v
  | _, _, .non => .non
  | _, _, .bl b => .bl b
  | _, _, .int i => .int i
  | _, _, .str x => .str x
  | _, _, .ty n => .ty n
  | _, _, .cls c => .cls c
  | _, _, .obj a => .obj a
  | _, _, .tk h => .tk (kp _ _ h (G.notin h (by intro z; exact z)))
  | _, _, .ref h => .ref h
  | _, _, .tup h r => .tup (by
      rcases h with (h | ⟨o, h⟩) | h
      · exact .inl (.inl (kp _ _ h (G.notin h (by intro z; exact z))))
      · exact .inl (.inr ⟨o, kp _ _ h (G.notin h (by intro z; exact z))⟩)
      · exact .inr h) (Reps.mono0 kp G r)
  | _, _, .fro h r => .fro (by
      rcases h with ⟨h, n⟩ | ⟨o, h⟩ | h
      · exact .inl ⟨kp _ _ h n, n⟩
      · exact .inr (.inl ⟨o, kp _ _ h (G.notin h (by intro z; exact z))⟩)
      · exact .inr (.inr h)) (Reps.mono0 kp G r)
  | _, _, .ins h hn hl r => .ins (kp _ _ h hn) hn hl (Reps.mono0 kp G r)
theorem Reps.mono0 (kp : ∀ b o, H b = some o → b ∉ F → H' b = some o) (G : Good F H) : ∀ {ds : List D} {vs : List V}, Reps g F H ds vs → Reps g F H' ds vs
  | _, _, .nil => .nil
  | _, _, .cons h t => .cons (Rep.mono0 kp G h) (Reps.mono0 kp G t)
end
theorem sqT_mono0 (kp : ∀ b o, H b = some o → b ∉ F → H' b = some o) (G : Good F H) {a : Addr} {vs : List V} (h : SqT g.K H a vs) : SqT g.K H' a vs := by
  rcases h with (h | ⟨o, h⟩) | h
  · exact .inl (.inl (kp _ _ h (G.notin h (by intro z; exact z))))
  · exact .inl (.inr ⟨o, kp _ _ h (G.notin h (by intro z; exact z))⟩)
  · exact .inr h
theorem ObjR.mono0 (kp : ∀ b o, H b = some o → b ∉ F → H' b = some o) (G : Good F H) {o : MO} {h : HO} (r : ObjR g F H o h) : ObjR g F H' o h := by
  cases r with
  | lst r => exact .lst (r.mono0 kp G)
  | dk hl r => exact .dk hl (r.mono0 kp G)
  | dt hl r => exact .dt hl (r.mono0 kp G)
  | ob hl r => exact .ob hl (r.mono0 kp G)
  | lk hl r => exact .lk hl (r.mono0 kp G)
  | lt hl r => exact .lt hl (r.mono0 kp G)
  | dp hk kt vl r => exact .dp hk (fun x hx => (kt x hx).mono fun _ _ h => sqT_mono0 kp G h) vl (r.mono0 kp G)
  | lp hk kt vl r => exact .lp hk (fun x hx => (kt x hx).mono fun _ _ h => sqT_mono0 kp G h) vl (r.mono0 kp G)
theorem EnvR.mono0 (kp : ∀ b o, H b = some o → b ∉ F → H' b = some o) (G : Good F H) : ∀ {e : Env2} {s : L2.St}, EnvR g F H e s → EnvR g F H' e s
  | _, _, .nil => .nil
  | _, _, .cons .none t => .cons .none (EnvR.mono0 kp G t)
  | _, _, .cons (.some r) t => .cons (.some (r.mono0 kp G)) (EnvR.mono0 kp G t)
theorem kp_upd {d : Addr} {u : HO} (hd : d ∈ F) : ∀ b o, H b = some o → b ∉ F → upd H d u b = some o := fun b o e n => by rw [upd_ne (fun z => n (by rw [z]; exact hd))]; exact e
theorem RelM.unlock {M : MH} {n : Nat} {d : Addr} {o : HO} {m : MO} (R : RelM g F M H) (hn : F[n]? = some d) (ho : ObjR g F H m o) : RelM g F (M.set n m) (upd H d o) := by
  have ha : d ∈ F := List.mem_of_getElem? hn
  have kp := kp_upd (H := H) (u := o) ha
  refine ⟨by simp [R.len], R.nd, fun k b u e m2 => ?_⟩
  by_cases hk : n = k
  · subst hk
    rw [hn] at e; cases e
    have hl : n < M.length := by have := (List.getElem?_eq_some_iff.mp hn).1; rw [R.len] at this; exact this
    rw [List.getElem?_set_self hl] at m2
    cases m2
    exact ⟨o, upd_same, ho.mono0 kp R.good⟩
  · rw [List.getElem?_set_ne hk] at m2
    obtain ⟨h, e2, r⟩ := R.obj k b u e m2
    refine ⟨h, ?_, r.mono0 kp R.good⟩
    rw [upd_ne]
    · exact e2
    · intro z
      subst z
      exact hk ((List.getElem?_inj (List.getElem?_eq_some_iff.mp hn).1 R.nd).mp (hn.trans e.symm))
theorem Grow.unlock {d : Addr} {od : Obj} {u : HO} (gr : Grow F (upd H d (.frz od u)) F' H') (hd : d ∈ F) (hH : H d = some u) (hu : NoLk (some u)) : Grow F H F' (upd H' d u) := by
  refine ⟨gr.pre, fun b o e n => ?_, fun b hb => ?_, fun b o e n => ?_⟩
  · have hbd : b ≠ d := fun z => n (by rw [z]; exact hd)
    rw [upd_ne hbd]
    exact gr.keep b o (by rw [upd_ne hbd]; exact e) n
  · rcases gr.new b hb with q | q
    · exact .inl q
    · by_cases hbd : b = d
      · exact .inl (by rw [hbd]; exact hd)
      · rw [upd_ne hbd] at q; exact .inr q
  · have hbd : b ≠ d := fun z => by rw [z, hH] at e; cases e; exact n hu
    rw [upd_ne hbd]
    exact gr.lock b o (by rw [upd_ne hbd]; exact e) n
end
section
variable {X : Cx} {g : Wd} {W : WY} {sts : List Stmt} {s1 : SM} {pos p : Pos}
end
section
variable {X : Cx} {g : Wd} {W : WY} {pos p : Pos} {x : Str} {c : Nat}
end
end T2
namespace T2
open PySem L2
/-! ### break -/
section
variable {X : Cx} {g : Wd} {W : WY} {pos : Pos}
end
end T2
namespace GP
open PySem
open Sem (wp)

/-! ### a sleeping generator that nobody wakes stays as it is -/
/-- the same to look at, but it cannot be woken -/
def poi : GenState → GenState
  | .suspended _ l c p fs cl => .suspended (fun _ => .unsupported "") l c p fs cl
  | x => x
def susp : GenState → Bool
  | .suspended .. => true
  | _ => false
theorem poi_seen (x : GenState) : (poi x).seen = x.seen := by cases x <;> rfl
theorem poi_bare (x : GenState) : (poi x).bare = x.bare := by cases x <;> rfl
theorem poi_id {x : GenState} (h : susp x = false) : poi x = x := by cases x <;> first | rfl | cases h
/-- no generator's frame among them -/
def NG (fs : List Frame) : Prop := splitAtGen fs = none
def NGst : GenState → Prop
  | .suspended _ _ _ _ fs _ => NG fs
  | _ => True
/-- a: what runs; b: what is so; f: the sleeping ones -/
structure Poi (f : Nat → Option GenState) (a b : Array GenState) : Prop where
  size : a.size = b.size
  fix : ∀ i st, f i = some st → susp st = true ∧ b[i]? = some st ∧ a[i]? = some (poi st)
  same : ∀ i, f i = none → a[i]? = b[i]? ∧ ∀ st, a[i]? = some st → NGst st
theorem no_unsup {M : Model} {Γ : Ctx} {p : Pos} {w : String} : ∀ {fs : List Frame} {s s' : Shared} {e : End}, ¬ Runs M Γ p (.unsupported w) fs s e s' := by
  intro fs
  induction fs generalizing Γ p with
  | nil => intro s s' e h; cases h
  | cons F fs ih =>
    intro s s' e h
    have h0 : ∀ {Γ : Ctx} {p : Pos} {s s' : Shared} {e : End}, ¬ Runs M Γ p (.unsupported w) [] s e s' := fun h => by cases h
    cases h with
    | segRet h1 _ => exact h0 h1
    | segGen h1 _ => exact h0 h1
    | segSuspOut _ h1 => exact h0 h1
    | segSuspGen _ h1 _ _ => exact h0 h1
theorem Poi.get {f : Nat → Option GenState} {a b : Array GenState} {i : Nat} {st : GenState} (P : Poi f a b) (h : a[i]? = some st) : ∃ st', b[i]? = some st' ∧ st'.seen = st.seen := by
  cases e : f i with
  | none => exact ⟨st, by rw [← (P.same i e).1]; exact h, rfl⟩
  | some x =>
    obtain ⟨h1, h2, h3⟩ := P.fix i x e
    rw [h] at h3; cases h3
    exact ⟨x, h2, (poi_seen x).symm⟩
/-- what is no sleeping one -/
theorem Poi.awake {f : Nat → Option GenState} {a b : Array GenState} {i : Nat} {st : GenState} (P : Poi f a b) (h : a[i]? = some st) (n : susp st = false) : f i = none := by
  cases e : f i with
  | none => rfl
  | some x =>
    obtain ⟨h1, h2, h3⟩ := P.fix i x e
    rw [h] at h3; cases h3
    cases x <;> first | (have n' : true = false := n; exact absurd n' (by decide)) | (have n' : false = true := h1; exact absurd n' (by decide))
theorem Poi.set {f : Nat → Option GenState} {a b : Array GenState} {i : Nat} {st : GenState} (P : Poi f a b) (n : f i = none) (hst : NGst st) : Poi f (a.setIfInBounds i st) (b.setIfInBounds i st) := by
  refine ⟨by simp [P.size], fun j x hj => ?_, fun j hj => ?_⟩
  · have hne : i ≠ j := fun z => by rw [z] at n; rw [n] at hj; cases hj
    obtain ⟨h1, h2, h3⟩ := P.fix j x hj
    exact ⟨h1, by rw [Array.getElem?_setIfInBounds_ne hne]; exact h2, by rw [Array.getElem?_setIfInBounds_ne hne]; exact h3⟩
  · by_cases hij : i = j
    · subst hij
      refine ⟨by simp [Array.getElem?_setIfInBounds, P.size], fun x hx => ?_⟩
      rw [Array.getElem?_setIfInBounds] at hx
      split at hx
      · split at hx
        · cases hx; exact hst
        · cases hx
      · rename_i hh; exact absurd rfl hh
    · obtain ⟨h1, h2⟩ := P.same j hj
      refine ⟨by rw [Array.getElem?_setIfInBounds_ne hij, Array.getElem?_setIfInBounds_ne hij]; exact h1, fun x hx => ?_⟩
      rw [Array.getElem?_setIfInBounds_ne hij] at hx
      exact h2 x hx
theorem Poi.push {f : Nat → Option GenState} {a b : Array GenState} {c : Code} (P : Poi f a b) : Poi f (a.push (.fresh c)) (b.push (.fresh c)) := by
  refine ⟨by simp [P.size], fun j x hj => ?_, fun j hj => ?_⟩
  · obtain ⟨h1, h2, h3⟩ := P.fix j x hj
    have l1 : j < b.size := (Array.getElem?_eq_some_iff.mp h2).1
    have l2 : j < a.size := (Array.getElem?_eq_some_iff.mp h3).1
    exact ⟨h1, by rw [Array.getElem?_push, if_neg (Nat.ne_of_lt l1)]; exact h2, by rw [Array.getElem?_push, if_neg (Nat.ne_of_lt l2)]; exact h3⟩
  · obtain ⟨h1, h2⟩ := P.same j hj
    refine ⟨by rw [Array.getElem?_push, Array.getElem?_push, P.size, h1], fun x hx => ?_⟩
    rw [Array.getElem?_push] at hx
    split at hx
    · cases hx; trivial
    · exact h2 x hx
theorem ng_append {fs gs : List Frame} (h1 : NG fs) (h2 : NG gs) : NG (fs ++ gs) := by
  unfold NG at *
  induction fs with
  | nil => exact h2
  | cons F fs ih =>
    cases F with
    | gen g k l c p => simp [splitAtGen] at h1
    | ret k h g l c p kp =>
      simp only [splitAtGen, Option.map_eq_none_iff] at h1
      show splitAtGen (Frame.ret k h g l c p kp :: (fs ++ gs)) = none
      simp only [splitAtGen, Option.map_eq_none_iff]
      exact ih h1
theorem ng_tail {F : Frame} {fs : List Frame} (h : NG (F :: fs)) : NG fs := by
  unfold NG at *
  cases F with
  | gen g k l c p => simp [splitAtGen] at h
  | ret k h2 g l c p kp => simpa only [splitAtGen, Option.map_eq_none_iff] using h
def NGe : End → Prop
  | .susp _ _ _ _ _ _ fs => NG fs
  | .ret _ => True
theorem nge_st {e : End} (h : NGe e) : NGst e.genState := by cases e <;> exact h
def wg (s : Shared) (b : Array GenState) : Shared := { s with gens := b }
theorem runs_poi {M : Model} {f : Nat → Option GenState} {Γ : Ctx} {p : Pos} {t : Sem PySem.Fin} {fs : List Frame} {s s' : Shared} {e : End} (h : Runs M Γ p t fs s e s') :
    ∀ b, NG fs → Poi f s.gens b → ∃ b', Runs M Γ p t fs (wg s b) e (wg s' b') ∧ Poi f s'.gens b' ∧ NGe e := by
  induction h with
  | done => intro b _ P; exact ⟨b, .done, P, trivial⟩
  | raise => intro b _ P; exact ⟨b, .raise, P, trivial⟩
  | again q _ ih => intro b n P; obtain ⟨b', h, P', z⟩ := ih b n P; exact ⟨b', .again q h, P', z⟩
  | rule _ ih => intro b n P; obtain ⟨b', h, P', z⟩ := ih b n P; exact ⟨b', .rule h, P', z⟩
  | «at» _ ih => intro b n P; obtain ⟨b', h, P', z⟩ := ih b n P; exact ⟨b', .at h, P', z⟩
  | load q _ ih => intro b n P; obtain ⟨b', h, P', z⟩ := ih b n P; exact ⟨b', .load q h, P', z⟩
  | update q _ ih => intro b n P; obtain ⟨b', h, P', z⟩ := ih b n P; exact ⟨b', .update q h, P', z⟩
  | loadIfAlive _ ih => intro b n P; obtain ⟨b', h, P', z⟩ := ih b n P; exact ⟨b', .loadIfAlive h, P', z⟩
  | point _ ih => intro b n P; obtain ⟨b', h, P', z⟩ := ih b n P; exact ⟨b', .point h, P', z⟩
  | alloc _ ih => intro b n P; obtain ⟨b', h, P', z⟩ := ih b n P; exact ⟨b', .alloc h, P', z⟩
  | fresh _ ih => intro b n P; obtain ⟨b', h, P', z⟩ := ih b n P; exact ⟨b', .fresh h, P', z⟩
  | ask _ ih => intro b n P; obtain ⟨b', h, P', z⟩ := ih b n P; exact ⟨b', .ask h, P', z⟩
  | choose q _ ih => intro b n P; obtain ⟨b', h, P', z⟩ := ih b n P; exact ⟨b', .choose q h, P', z⟩
  | os _ ih => intro b n P; obtain ⟨b', h, P', z⟩ := ih b n P; exact ⟨b', .os h, P', z⟩
  | handled _ ih => intro b n P; obtain ⟨b', h, P', z⟩ := ih b n P; exact ⟨b', .handled h, P', z⟩
  | genState q _ ih =>
    intro b n P
    obtain ⟨b', h, P', z⟩ := ih b n P
    obtain ⟨st', e1, e2⟩ := P.get q
    exact ⟨b', .genState (s := wg _ b) e1 (by rw [e2]; exact h), P', z⟩
  | stack _ ih => intro b n P; obtain ⟨b', h, P', z⟩ := ih b n P; exact ⟨b', .stack h, P', z⟩
  | thread _ ih => intro b n P; obtain ⟨b', h, P', z⟩ := ih b n P; exact ⟨b', .thread h, P', z⟩
  | newGen _ ih =>
    intro b n P
    obtain ⟨b', h, P', z⟩ := ih _ n P.push
    refine ⟨b', .newGen ?_, P', z⟩
    rename_i s1 _ _ _ _
    have e : (wg s1 b).gens.size = s1.gens.size := P.size.symm
    rw [e]
    exact h
  | call _ _ ih1 ih2 =>
    intro b n P
    obtain ⟨b1, h1, P1, z1⟩ := ih1 b rfl P
    obtain ⟨b2, h2, P2, z2⟩ := ih2 b1 n P1
    exact ⟨b2, .call h1 h2, P2, z2⟩
  | callSusp _ ih =>
    intro b n P
    obtain ⟨b1, h1, P1, z1⟩ := ih b rfl P
    exact ⟨b1, .callSusp h1, P1, ng_append z1 rfl⟩
  | yield => intro b _ P; exact ⟨b, .yield, P, rfl⟩
  | resumeFresh q _ hq _ ih1 ih2 =>
    intro b n P
    have fx := P.awake q rfl
    have q' : b[_]? = some _ := (P.same _ fx).1.symm.trans q
    obtain ⟨b1, h1, P1, z1⟩ := ih1 (b.setIfInBounds _ .running) rfl (P.set fx trivial)
    obtain ⟨b2, h2, P2, z2⟩ := ih2 (b1.setIfInBounds _ _) n (P1.set fx (nge_st z1))
    exact ⟨b2, .resumeFresh (s := wg _ b) q' h1 hq h2, P2, z2⟩
  | resumeSuspended q r1 hq _ ih1 ih2 =>
    intro b n P
    rename_i g r l k s k₀ l₀ c₀ p₀ fs cl e₁ s₁ e s' r2
    cases fe : f g with
    | some st =>
      obtain ⟨h1, h2, h3⟩ := P.fix g st fe
      rw [q] at h3
      cases st with
      | suspended k1 l1 c1 p1 fs1 cl1 => cases h3; exact absurd r1 no_unsup
      | _ => cases h1
    | none =>
      have q' : b[g]? = some _ := (P.same _ fe).1.symm.trans q
      have hn : NG fs := (P.same _ fe).2 _ q
      obtain ⟨b1, h1, P1, z1⟩ := ih1 (b.setIfInBounds g .running) hn (P.set fe trivial)
      obtain ⟨b2, h2, P2, z2⟩ := ih2 (b1.setIfInBounds g _) n (P1.set fe (nge_st z1))
      exact ⟨b2, .resumeSuspended (s := wg _ b) q' h1 hq h2, P2, z2⟩
  | resumeJustStarted q hv _ ih =>
    intro b n P
    have fx := P.awake q rfl
    have q' : b[_]? = some _ := (P.same _ fx).1.symm.trans q
    obtain ⟨b', h, P', z⟩ := ih b n P
    exact ⟨b', .resumeJustStarted (s := wg _ b) q' hv h, P', z⟩
  | resumeThrowFresh q _ ih =>
    intro b n P
    have fx := P.awake q rfl
    have q' : b[_]? = some _ := (P.same _ fx).1.symm.trans q
    obtain ⟨b', h, P', z⟩ := ih (b.setIfInBounds _ .finished) n (P.set fx trivial)
    exact ⟨b', .resumeThrowFresh (s := wg _ b) q' h, P', z⟩
  | resumeRunning q _ ih =>
    intro b n P
    have fx := P.awake q rfl
    have q' : b[_]? = some _ := (P.same _ fx).1.symm.trans q
    obtain ⟨b', h, P', z⟩ := ih b n P
    exact ⟨b', .resumeRunning (s := wg _ b) q' h, P', z⟩
  | resumeFinished q _ ih =>
    intro b n P
    have fx := P.awake q rfl
    have q' : b[_]? = some _ := (P.same _ fx).1.symm.trans q
    obtain ⟨b', h, P', z⟩ := ih b n P
    exact ⟨b', .resumeFinished (s := wg _ b) q' h, P', z⟩
  | segRet _ _ ih1 ih2 =>
    intro b n P
    obtain ⟨b1, h1, P1, z1⟩ := ih1 b rfl P
    obtain ⟨b2, h2, P2, z2⟩ := ih2 b1 (ng_tail n) P1
    exact ⟨b2, .segRet h1 h2, P2, z2⟩
  | segGen _ _ _ _ => intro b n P; simp [NG, splitAtGen] at n
  | segSuspOut q _ ih =>
    intro b n P
    obtain ⟨b1, h1, P1, z1⟩ := ih b rfl P
    exact ⟨b1, .segSuspOut q h1, P1, ng_append z1 n⟩
  | segSuspGen q _ _ _ _ _ => intro b n P; unfold NG at n; rw [n] at q; cases q
theorem wp_poi {α : Type} {M : Model} {f : Nat → Option GenState} {Γ : Ctx} (t : Sem α) : ∀ (Q : α → Pos → Shared → Prop) (E : Value → Pos → Shared → Prop) (p : Pos) (s : Shared) (b : Array GenState), Poi f s.gens b → wp M Γ t Q E p s →
    wp M Γ t (fun a p' s' => ∃ g, Poi f g s'.gens ∧ Q a p' (wg s' g)) (fun e p' s' => ∃ g, Poi f g s'.gens ∧ E e p' (wg s' g)) p (wg s b) := by
  induction t with
  | pure a => intro Q E p s b P h; exact ⟨s.gens, P, h⟩
  | raise e => intro Q E p s b P h; exact ⟨s.gens, P, h⟩
  | unsupported _ => intro Q E p s b P h; exact h
  | finish _ => intro Q E p s b P h; exact h
  | rule _ k ih => intro Q E p s b P h; exact ih () Q E p s b P h
  | «at» p' k ih => intro Q E p s b P h; exact ih () Q E p' s b P h
  | load a _ k ih => intro Q E p s b P h; obtain ⟨o, ho, h⟩ := h; exact ⟨o, ho, ih o Q E p s b P h⟩
  | update a _ u k ih => intro Q E p s b P h; exact ⟨h.1, ih () Q E p { s with heap := s.heap.update a u } b P h.2⟩
  | loadIfAlive a k ih => intro Q E p s b P h; exact ih _ Q E p s b P h
  | point _ k ih => intro Q E p s b P h; exact ih () Q E p s b P h
  | register _ _ => intro Q E p s b P h; exact h
  | alloc o k ih => intro Q E p s b P h; exact ih s.heap.objs.size Q E p { s with heap := s.heap.push o } b P h
  | fresh k ih => intro Q E p s b P h; exact ih s.toks Q E p { s with toks := s.toks + 1 } b P h
  | ask k ih => intro Q E p s b P h; exact ih _ Q E p s b P h
  | choose src m k ih => intro Q E p s b P h; exact ⟨h.1, ih (M.w.draws src (s.drawn.get src) % m) Q E p { s with drawn := s.drawn.bump src } b P h.2⟩
  | os q _ k ih => intro Q E p s b P h; exact ih (Os.step s.os q).2 Q E p { s with os := (Os.step s.os q).1 } b P h
  | call c hd _ _ k ih =>
    intro Q E p s b P h
    obtain ⟨r, s', hr, h⟩ := h
    obtain ⟨b', h1, P', _⟩ := runs_poi hr b rfl P
    exact ⟨r, wg s' b', h1, ih r Q E p s' b' P' h⟩
  | handled own k ih => intro Q E p s b P h; exact ih _ Q E p s b P h
  | genState g k ih =>
    intro Q E p s b P h
    obtain ⟨st, hs, h⟩ := h
    obtain ⟨st', e1, e2⟩ := P.get hs
    exact ⟨st', e1, by rw [e2]; exact ih _ Q E p s b P h⟩
  | newGen c k ih =>
    intro Q E p s b P h
    have e : (wg s b).gens.size = s.gens.size := P.size.symm
    show wp M Γ (k (wg s b).gens.size) _ _ p _
    rw [e]
    exact ih s.gens.size Q E p { s with gens := s.gens.push (.fresh c) } (b.push (.fresh c)) P.push h
  | resume g r _ k ih =>
    intro Q E p s b P h
    obtain ⟨res, s', hw, h⟩ := h
    have key : ∃ b', Wakes M Γ p g r (wg s b) res (wg s' b') ∧ Poi f s'.gens b' := by
      unfold Wakes at hw ⊢
      split at hw
      · exact hw.elim
      · rename_i c q
        have fx := P.awake q rfl
        have q' : (wg s b).gens[g]? = some (.fresh c) := (P.same _ fx).1.symm.trans q
        rw [q']
        cases r with
        | send v =>
          cases v with
          | none =>
            obtain ⟨e₁, s₁, hr, hq, h1, h2⟩ := hw
            subst h2
            obtain ⟨b1, r1, P1, z1⟩ := runs_poi hr (b.setIfInBounds g .running) rfl (P.set fx trivial)
            exact ⟨b1.setIfInBounds g e₁.genState, ⟨e₁, wg s₁ b1, r1, hq, h1, rfl⟩, P1.set fx (nge_st z1)⟩
          | _ => obtain ⟨h1, h2⟩ := hw; subst h2; exact ⟨b, ⟨h1, rfl⟩, P⟩
        | throw x => obtain ⟨h1, h2⟩ := hw; subst h2; exact ⟨b.setIfInBounds g .finished, ⟨h1, rfl⟩, P.set fx trivial⟩
      · rename_i k₀ l₀ c₀ p₀ fs cl q
        cases fe : f g with
        | some st =>
          obtain ⟨h1, h2, h3⟩ := P.fix g st fe
          rw [q] at h3
          obtain ⟨e₁, s₁, hr, _⟩ := hw
          cases st with
          | suspended k1 l1 c1 p1 fs1 cl1 => cases h3; exact absurd hr no_unsup
          | _ => cases h1
        | none =>
          have q' : (wg s b).gens[g]? = some _ := (P.same _ fe).1.symm.trans q
          rw [q']
          have hn : NG fs := (P.same _ fe).2 _ q
          obtain ⟨e₁, s₁, hr, hq, h1, h2⟩ := hw
          subst h2
          obtain ⟨b1, r1, P1, z1⟩ := runs_poi hr (b.setIfInBounds g .running) hn (P.set fe trivial)
          exact ⟨b1.setIfInBounds g e₁.genState, ⟨e₁, wg s₁ b1, r1, hq, h1, rfl⟩, P1.set fe (nge_st z1)⟩
      · rename_i q
        have fx := P.awake q rfl
        have q' : (wg s b).gens[g]? = some .running := (P.same _ fx).1.symm.trans q
        rw [q']
        obtain ⟨h1, h2⟩ := hw; subst h2; exact ⟨b, ⟨h1, rfl⟩, P⟩
      · rename_i q
        have fx := P.awake q rfl
        have q' : (wg s b).gens[g]? = some .finished := (P.same _ fx).1.symm.trans q
        rw [q']
        obtain ⟨h1, h2⟩ := hw; subst h2; exact ⟨b, ⟨h1, rfl⟩, P⟩
    obtain ⟨b', hw', P'⟩ := key
    exact ⟨res, wg s' b', hw', ih res Q E p s' b' P' h⟩
  | yield _ _ _ _ => intro Q E p s b P h; exact h
  | stack k ih => intro Q E p s b P h; exact ih _ Q E p s b P h
  | fork _ _ => intro Q E p s b P h; exact h
  | thread k ih => intro Q E p s b P h; exact ih _ Q E p s b P h
  | await _ _ _ _ _ => intro Q E p s b P h; exact h

/-- the sleeping ones -/
def fixOf (b : Array GenState) (i : Nat) : Option GenState := (b[i]?).filter susp
theorem poi_of (b : Array GenState) : Poi (fixOf b) (b.map poi) b := by
  refine ⟨by simp, fun i st h => ?_, fun i h => ?_⟩
  · unfold fixOf at h
    obtain ⟨h1, h2⟩ := Option.filter_eq_some_iff.mp h
    exact ⟨h2, h1, by rw [Array.getElem?_map, h1]; rfl⟩
  · unfold fixOf at h
    cases e : b[i]? with
    | none => exact ⟨by rw [Array.getElem?_map, e]; rfl, fun st z => by rw [Array.getElem?_map, e] at z; cases z⟩
    | some st =>
      rw [e] at h
      have hs : susp st = false := by
        cases hb : susp st with
        | false => rfl
        | true => rw [Option.filter_some, if_pos hb] at h; cases h
      rw [Array.getElem?_map, e]
      refine ⟨by rw [Option.map_some, poi_id hs], fun x z => ?_⟩
      rw [Option.map_some, poi_id hs] at z
      cases z
      cases st <;> first | trivial | cases hs
/-- nothing that sleeps has changed -/
def Sleeps (a b : Array GenState) : Prop := ∀ (i : Nat) (st : GenState), a[i]? = some st → susp st = true → b[i]? = some st
theorem Sleeps.refl (a : Array GenState) : Sleeps a a := fun _ _ h _ => h
theorem Sleeps.trans {a b c : Array GenState} (x : Sleeps a b) (y : Sleeps b c) : Sleeps a c := fun i st h n => y i st (x i st h n) n
theorem Poi.sleeps {b0 a b : Array GenState} (P : Poi (fixOf b0) a b) : Sleeps b0 b := fun i st h n => (P.fix i st (by unfold fixOf; rw [h, Option.filter_some, if_pos n])).2.1
open PyProof.Rows in
theorem Poi.allBare {f : Nat → Option GenState} {a b : Array GenState} (P : Poi f a b) (h : AllBare a) : AllBare b := by
  intro y hy
  obtain ⟨i, hi, rfl⟩ := Array.mem_iff_getElem.mp hy
  have e : b[i]? = some b[i] := Array.getElem?_eq_getElem hi
  cases fe : f i with
  | none =>
    rw [← (P.same i fe).1] at e
    exact h _ (Array.mem_of_getElem? e)
  | some st =>
    obtain ⟨h1, h2, h3⟩ := P.fix i st fe
    rw [e] at h2; cases h2
    have := h _ (Array.mem_of_getElem? h3)
    rw [poi_bare] at this
    exact this
open PyProof.Rows in
theorem allBare_poi {b : Array GenState} (h : AllBare b) : AllBare (b.map poi) := by
  intro y hy
  obtain ⟨x, hx, rfl⟩ := Array.mem_map.mp hy
  rw [poi_bare]; exact h x hx
/-- what runs with the sleeping ones made deaf, runs so too, and leaves them -/
theorem wpAny_deaf {α : Type} {M : Model} {A : Around} {t : Sem α} {Q : α → Shared → Prop} {E : Value → Shared → Prop} {s : Shared} (h : wpAny M A t Q E (wg s (s.gens.map poi))) :
    wpAny M A t (fun a s' => ∃ g, Poi (fixOf s.gens) g s'.gens ∧ Q a (wg s' g)) (fun e s' => ∃ g, Poi (fixOf s.gens) g s'.gens ∧ E e (wg s' g)) s := fun Γ p hΓ =>
  wp_poi t _ _ p (wg s (s.gens.map poi)) s.gens (poi_of s.gens) (h Γ p hΓ)
/-- an end that does not look at what sleeps -/
def Deaf {α : Type} (Q : α → Shared → Prop) : Prop := ∀ a s f g, Poi f g s.gens → Q a (wg s g) → Q a s
theorem wpAny_sleeps {α : Type} {M : Model} {A : Around} {t : Sem α} {Q : α → Shared → Prop} {E : Value → Shared → Prop} {s : Shared} (h : wpAny M A t Q E (wg s (s.gens.map poi))) (hQ : Deaf Q) (hE : Deaf E) :
    wpAny M A t (fun a s' => Sleeps s.gens s'.gens ∧ Q a s') E s :=
  wpAny_mono (wpAny_deaf h) (fun a s' ⟨g, P, q⟩ => ⟨P.sleeps, hQ a s' _ g P q⟩) fun e s' ⟨g, P, q⟩ => hE e s' _ g P q
end GP
namespace GP
open PySem PySem.Spec PyProof.Rows GenW
open Sem (wp)

/-! ### the heap never shrinks -/
theorem runs_hsz {M : Model} {Γ : PySem.Ctx} {p : Pos} {t : Sem PySem.Fin} {fs : List Frame} {s s' : Shared} {e : End} (h : Runs M Γ p t fs s e s') : s.heap.objs.size ≤ s'.heap.objs.size := by
  induction h <;> (try simp only [Shared.setGen, Heap.size_push, Heap.size_after_update] at *) <;> omega
theorem wakes_hsz {M : Model} {Γ : PySem.Ctx} {p : Pos} {g : Nat} {r : Resume} {s s' : Shared} {res : GenResult} (h : Wakes M Γ p g r s res s') : s.heap.objs.size ≤ s'.heap.objs.size := by
  unfold Wakes at h
  split at h
  · exact h.elim
  · split at h
    · obtain ⟨e₁, s₁, hr, _, _, rfl⟩ := h; exact (runs_hsz hr : (s.setGen g .running).heap.objs.size ≤ s₁.heap.objs.size)
    · rw [h.2]; exact Nat.le_refl _
    · rw [h.2]; exact Nat.le_refl _
  · obtain ⟨e₁, s₁, hr, _, _, rfl⟩ := h; exact (runs_hsz hr : (s.setGen g .running).heap.objs.size ≤ s₁.heap.objs.size)
  · rw [h.2]; exact Nat.le_refl _
  · rw [h.2]; exact Nat.le_refl _
theorem wp_hsz {α : Type} (M : Model) (Γ : PySem.Ctx) (n : Nat) (t : Sem α) : ∀ (Q : α → Pos → Shared → Prop) (E : Value → Pos → Shared → Prop) (p : Pos) (s : Shared), n ≤ s.heap.objs.size → wp M Γ t Q E p s →
    wp M Γ t (fun a p' s' => n ≤ s'.heap.objs.size ∧ Q a p' s') (fun e p' s' => n ≤ s'.heap.objs.size ∧ E e p' s') p s := by
  induction t with
  | unsupported | finish | register | yield | fork | await => exact fun _ _ _ _ _ h => h
  | pure | raise => exact fun _ _ _ _ hn h => ⟨hn, h⟩
  | rule _ _ ih | «at» _ _ ih | point _ _ ih => exact fun Q E _ _ hn h => ih () Q E _ _ hn h
  | loadIfAlive _ _ ih | ask _ ih | handled _ _ ih | stack _ ih | thread _ ih | os _ _ _ ih | newGen _ _ ih | fresh _ ih => exact fun Q E _ _ hn h => ih _ Q E _ _ hn h
  | load _ _ _ ih | genState _ _ ih => exact fun Q E _ _ hn ⟨x, e, h⟩ => ⟨x, e, ih _ Q E _ _ hn h⟩
  | choose _ _ _ ih => exact fun Q E _ _ hn ⟨x, h⟩ => ⟨x, ih _ Q E _ _ hn h⟩
  | call _ _ _ _ _ ih => exact fun Q E _ _ hn ⟨r, s', z, h⟩ => ⟨r, s', z, ih r Q E _ _ (Nat.le_trans hn (runs_hsz z)) h⟩
  | resume _ _ _ _ ih => exact fun Q E _ _ hn ⟨r, s', z, h⟩ => ⟨r, s', z, ih r Q E _ _ (Nat.le_trans hn (wakes_hsz z)) h⟩
  | update a _ f _ ih => exact fun Q E _ s hn ⟨x, h⟩ => ⟨x, ih () Q E _ _ (Eq.mp (congrArg (n ≤ ·) (Heap.size_after_update s.heap a f).symm) hn) h⟩
  | alloc o _ ih => exact fun Q E _ s hn h => ih _ Q E _ { s with heap := s.heap.push o } (Nat.le_trans hn (Nat.le_of_lt (by rw [Heap.size_push]; exact Nat.lt_succ_self _))) h
theorem wpAny_hsz {α : Type} {M : Model} {A : Around} {s : Shared} {t : Sem α} {Q : α → Shared → Prop} {E : Value → Shared → Prop}
    (h : wpAny M A t (fun a s' => s.heap.objs.size ≤ s'.heap.objs.size → Q a s') E s) : wpAny M A t Q E s :=
  wpAny_mono (fun Γ p hΓ => wp_hsz M Γ _ t _ _ p s (Nat.le_refl _) (h Γ p hΓ) : wpAny M A t (fun a s' => s.heap.objs.size ≤ s'.heap.objs.size ∧ (s.heap.objs.size ≤ s'.heap.objs.size → Q a s')) (fun e s' => s.heap.objs.size ≤ s'.heap.objs.size ∧ E e s') s)
    (fun _ _ x => x.2 x.1) fun _ _ x => x.2

/-! ### a generator's code from one waking to the next halt -/
def Sg (M : Model) (A : Around) (Φ : End → Shared → Prop) (c : Code) (t : Sem PySem.Fin) (fs : List Frame) (s : Shared) : Prop :=
  ∀ Γ p, Γ.code = c → Γ.Woken A → ∃ e s', Runs M Γ p t fs s e s' ∧ Φ e s'
section
variable {M : Model} {A : Around} {Φ : End → Shared → Prop} {c : Code} {fs : List Frame} {s : Shared}
theorem sg_wrap {α : Type} {m : Sem α} {K : α → Sem PySem.Fin} {H : Value → Sem PySem.Fin} {gd : Bool → Bool} {lv : List Value → List Value}
    (h : wpAny M (A.over c fs) m (fun a s' => Sg M A Φ c (K a) fs s') (fun x s' => Sg M A Φ c (H x) fs s') s) :
    Sg M A Φ c (m.wrap K H gd lv) fs s := by
  rintro Γ p rfl hΓ
  exact runs_wrap_of_wp K H gd lv m (h (Γ.over fs) p (hΓ.over fs)) (fun a p' s' h' => h' Γ p' rfl hΓ) (fun x p' s' h' => h' Γ p' rfl hΓ)
theorem sg_at {p' : Pos} {k : Unit → Sem PySem.Fin} (h : Sg M A Φ c (k ()) fs s) : Sg M A Φ c (.at p' k) fs s :=
  sg_wrap (m := standAt p') (K := k) (H := .raise) (gd := id) (lv := id) (wpAny_standAt h)
theorem sg_point {l : List Value} {k : Unit → Sem PySem.Fin} (h : Sg M A Φ c (k ()) fs s) : Sg M A Φ c (.point l k) fs s :=
  sg_wrap (m := point) (K := k) (H := .raise) (gd := id) (lv := fun _ => l) (wpAny_point h)
theorem sg_call {c' : Code} {h : Option Value} {g : Bool} {l : List Value} {k : Result → Sem PySem.Fin} (hc : ∀ p, Sg M A Φ c' (M.den c') (.ret k h g l c p [] :: fs) s) :
    Sg M A Φ c (.call c' h g l k) fs s := by
  rintro Γ p rfl hΓ
  obtain ⟨e, s', hr, he⟩ := hc p (Γ.goto c') p rfl (hΓ.goto c')
  exact ⟨e, s', runs_call_seg hr, he⟩
theorem sg_leaf {k h g l c₁ p₁ kp} (r : Result) (hk : Sg M A Φ c₁ (k r) fs s) : Sg M A Φ c (leafOf r) (.ret k h g l c₁ p₁ kp :: fs) s := by
  rintro Γ p rfl hΓ
  obtain ⟨e, s', hr, he⟩ := hk (Γ.goto c₁) p₁ rfl (hΓ.goto c₁)
  exact ⟨e, s', Runs.pop r hr, he⟩
theorem sg_again {c' : Code} (hq : c'.quiet = true) (hc : Sg M A Φ c' (M.den c') fs s) : Sg M A Φ c (.pure (.again c')) fs s := by
  rintro Γ p rfl hΓ
  obtain ⟨e, s', hr, he⟩ := hc (Γ.goto c') p rfl (hΓ.goto c')
  exact ⟨e, s', Runs.head (c₁ := c') (fun _ _ x => .again hq x) hr, he⟩
theorem sg_end (r : Result) (h : Φ (.ret r) s) : Sg M A Φ c (leafOf r) [] s := by
  rintro Γ p rfl _
  exact ⟨.ret r, s, Runs.leaf r, h⟩
theorem sg_yield {v : Value} {l : List Value} {k : Resume → Sem PySem.Fin} (hfs : splitAtGen fs = none) (h : ∀ p, Φ (.susp v false l k c p fs) s) : Sg M A Φ c (.yield v false l k) fs s := by
  rintro Γ p rfl _
  exact ⟨_, s, Runs.yield' fs hfs, h p⟩
theorem sg_execs_one {env : Env} {st : Stmt} {K : Flow → Sem PySem.Fin} {H : Value → Sem PySem.Fin} {gd : Bool → Bool} {lv : List Value → List Value} (h : Sg M A Φ c ((exec st env).wrap K H gd lv) fs s) : Sg M A Φ c ((execs [st] env).wrap K H gd lv) fs s := by
  rw [execs_cons_wrap, Sem.wrap_congr _ gd lv (K' := K) (H' := H) (fun f => by cases f <;> rfl) (fun _ => rfl)]
  exact h
end

/-! ### the state of a generator that walks nested tuples -/
/-- since it was woken: the state then, its own things then -/
structure Ph where
  s : Shared
  own : List Addr
structure Mv (ph : Ph) (s : Shared) : Prop where
  os : s.os = ph.s.os
  gens : s.gens = ph.s.gens
  keep : ∀ b o, ph.s.heap.get? b = some o → b ∉ ph.own → s.heap.get? b = some o
  sz : ph.s.heap.objs.size ≤ s.heap.objs.size
/-- the base's heap, the tuple -/
structure Gb where
  bh : Heap
  t : Addr
  its : Array Value
structure GSt (G : Gb) (L : Addr) (ph : Ph) (m : Str → Option Value) (il : List (Addr × Nat)) (s : Shared) : Prop where
  mv : Mv ph s
  bs : ∀ b o, G.bh.get? b = some o → s.heap.get? b = some o
  ns : s.heap.Ns L m
  it : ∀ p ∈ il, s.heap.IsTupleIter p.1 G.t p.2
  own : ∀ b ∈ L :: il.map (·.1), (b ∈ ph.own ∨ ph.s.heap.objs.size ≤ b) ∧ G.bh.get? b = none
  nd : (L :: il.map (·.1)).Nodup
section
variable {G : Gb} {L : Addr} {ph : Ph} {m : Str → Option Value} {il : List (Addr × Nat)} {s : Shared}
theorem GSt.lt (x : GSt G L ph m il s) {b : Addr} (hb : b ∈ L :: il.map (·.1)) : b < s.heap.objs.size := by
  rcases List.mem_cons.mp hb with e | e
  · rw [e]; exact x.ns.lt
  · obtain ⟨p, hp, rfl⟩ := List.mem_map.mp e
    obtain ⟨o, e, _⟩ := x.it p hp
    exact Heap.lt_size e
/-- nothing changed but tokens and new things -/
theorem GSt.kept (x : GSt G L ph m il s) {h' : Heap} {tk : Nat} (k : ∀ b o, s.heap.get? b = some o → h'.get? b = some o) (z : s.heap.objs.size ≤ h'.objs.size) : GSt G L ph m il { s with heap := h', toks := tk } where
  mv := ⟨x.mv.os, x.mv.gens, fun b o e n => k b o (x.mv.keep b o e n), Nat.le_trans x.mv.sz z⟩
  bs := fun b o e => k b o (x.bs b o e)
  ns := x.ns.keeps k
  it := fun p hp => (x.it p hp).at fun o e => k _ o e
  own := x.own
  nd := x.nd
/-- the names' dict changes -/
theorem GSt.store (x : GSt G L ph m il s) {h' : Heap} {m' : Str → Option Value} {tk : Nat} (n : h'.Ns L m') (k : Heap.ExtBut L s.heap h') (z : s.heap.objs.size ≤ h'.objs.size) : GSt G L ph m' il { s with heap := h', toks := tk } := by
  have hL := x.own L List.mem_cons_self
  have ne : ∀ p ∈ il, p.1 ≠ L := fun p hp e => (List.nodup_cons.mp x.nd).1 (List.mem_map.mpr ⟨p, hp, e⟩)
  refine ⟨⟨x.mv.os, x.mv.gens, fun b o e n2 => k b o ?_ (x.mv.keep b o e n2), Nat.le_trans x.mv.sz z⟩, fun b o e => k b o (fun z => by rw [z, hL.2] at e; cases e) (x.bs b o e), n, fun p hp => (x.it p hp).at fun o e => k _ o (ne p hp) e, x.own, x.nd⟩
  rintro rfl
  rcases hL.1 with z | z
  · exact n2 z
  · exact absurd (Nat.lt_of_lt_of_le (Heap.lt_size e) z) (Nat.lt_irrefl _)
/-- an iterator turns -/
theorem GSt.turn {a : Addr} {i j : Nat} (x : GSt G L ph m ((a, i) :: il) s) {h' : Heap} {tk : Nat} (n : h'.IsTupleIter a G.t j) (k : Heap.ExtBut a s.heap h') (z : s.heap.objs.size ≤ h'.objs.size) : GSt G L ph m ((a, j) :: il) { s with heap := h', toks := tk } := by
  have ha := x.own a (List.mem_cons_of_mem _ List.mem_cons_self)
  have nd := x.nd
  simp only [List.map_cons, List.nodup_cons, List.mem_cons, not_or] at nd
  refine ⟨⟨x.mv.os, x.mv.gens, fun b o e n2 => k b o ?_ (x.mv.keep b o e n2), Nat.le_trans x.mv.sz z⟩, fun b o e => k b o (fun z => by rw [z, ha.2] at e; cases e) (x.bs b o e), x.ns.extBut k nd.1.1, fun p hp => ?_, x.own, x.nd⟩
  · rintro rfl
    rcases ha.1 with z | z
    · exact n2 z
    · exact absurd (Nat.lt_of_lt_of_le (Heap.lt_size e) z) (Nat.lt_irrefl _)
  · rcases List.mem_cons.mp hp with e | e
    · subst e; exact n
    · refine (x.it p (List.mem_cons_of_mem _ e)).at fun o e2 => k _ o (fun z => nd.2.1 (List.mem_map.mpr ⟨p, e, z⟩)) e2
/-- an iterator is through -/
theorem GSt.drop {a : Addr} {i : Nat} (x : GSt G L ph m ((a, i) :: il) s) {h' : Heap} {tk : Nat} (k : Heap.ExtBut a s.heap h') (z : s.heap.objs.size ≤ h'.objs.size) : GSt G L ph m il { s with heap := h', toks := tk } := by
  have ha := x.own a (List.mem_cons_of_mem _ List.mem_cons_self)
  have nd := x.nd
  simp only [List.map_cons, List.nodup_cons, List.mem_cons, not_or] at nd
  refine ⟨⟨x.mv.os, x.mv.gens, fun b o e n2 => k b o ?_ (x.mv.keep b o e n2), Nat.le_trans x.mv.sz z⟩, fun b o e => k b o (fun z => by rw [z, ha.2] at e; cases e) (x.bs b o e), x.ns.extBut k nd.1.1, fun p hp => ?_, fun b hb => x.own b ?_, ?_⟩
  · rintro rfl
    rcases ha.1 with z | z
    · exact n2 z
    · exact absurd (Nat.lt_of_lt_of_le (Heap.lt_size e) z) (Nat.lt_irrefl _)
  · refine (x.it p (List.mem_cons_of_mem _ hp)).at fun o e2 => k _ o (fun z => nd.2.1 (List.mem_map.mpr ⟨p, hp, z⟩)) e2
  · rcases List.mem_cons.mp hb with e | e
    · rw [e]; exact List.mem_cons_self
    · exact List.mem_cons_of_mem _ (List.mem_cons_of_mem _ e)
  · exact List.nodup_cons.mpr ⟨nd.1.2, nd.2.2⟩
/-- a new iterator -/
theorem GSt.made (x : GSt G L ph m il s) : GSt G L ph m ((s.heap.objs.size, 0) :: il) { s with heap := s.heap.push { cls := .type "tuple_iterator", data := .fields #[.ref G.t, .int 0 0] } } := by
  have y := x.kept (h' := s.heap.push { cls := .type "tuple_iterator", data := .fields #[.ref G.t, .int 0 0] }) (tk := s.toks) (fun b o e => Heap.get?_push_of_some _ e) (by rw [Heap.size_push]; omega)
  have hb : ∀ b o, G.bh.get? b = some o → b < s.heap.objs.size := fun b o e => Heap.lt_size (x.bs b o e)
  have fresh : ∀ {h : Heap}, (∀ b o, h.get? b = some o → b < s.heap.objs.size) → h.get? s.heap.objs.size = none := fun {h} k => by
    cases e : h.get? s.heap.objs.size with
    | none => rfl
    | some o => exact absurd (k _ o e) (Nat.lt_irrefl _)
  refine ⟨y.mv, y.bs, y.ns, fun p h => ?_, fun b h => ?_, ?_⟩
  · rcases List.mem_cons.mp h with e | e
    · subst e; exact ⟨_, Heap.get?_push_size _ rfl, rfl, rfl⟩
    · exact y.it p e
  · rcases List.mem_cons.mp h with e | e
    · rw [e]; exact x.own L List.mem_cons_self
    · rcases List.mem_cons.mp e with e | e
      · rw [e]; exact ⟨.inr x.mv.sz, fresh hb⟩
      · exact x.own b (List.mem_cons_of_mem _ e)
  · have n := x.nd
    rw [List.nodup_cons] at n ⊢
    refine ⟨fun h => ?_, List.nodup_cons.mpr ⟨fun h => ?_, n.2⟩⟩
    · rcases List.mem_cons.mp h with e | e
      · exact absurd x.ns.lt (by rw [e]; exact Nat.lt_irrefl _)
      · exact n.1 e
    · exact absurd (x.lt (List.mem_cons_of_mem _ h)) (Nat.lt_irrefl _)
end
/-! ### for over a tuple, in a generator -/
section
variable {M : Model} {A : Around} {Φ : End → Shared → Prop} {c : Code} {fs : List Frame} {s : Shared} {env : Env}
theorem sg_bind_wrap {α β : Type} {m : Sem α} {K : α → Sem β} {K' : β → Sem PySem.Fin} {H' : Value → Sem PySem.Fin} {gd : Bool → Bool} {lv : List Value → List Value}
    (h : wpAny M (A.over c fs) m (fun a s' => Sg M A Φ c ((K a).wrap K' H' gd lv) fs s') (fun x s' => Sg M A Φ c (H' x) fs s') s) : Sg M A Φ c ((m >>= K).wrap K' H' gd lv) fs s := by
  rw [Sem.bind_eq_wrap', Sem.wrap_wrap]; exact sg_wrap h
/-- what a loop's call does with an exception that comes back -/
def retK (env : Env) (K : Flow → Sem PySem.Fin) (H : Value → Sem PySem.Fin) (gd : Bool → Bool) (lv : List Value → List Value) : Result → Sem PySem.Fin := fun r => ((match r with | .ok f => (.pure f : Sem Flow) | .error e => .raise e).onRaise fun (x : Value) => do
        if (← field x 1) == Value.none then unsupported "frame.own-activation:exception-without-traceback"
        setFlight x env.frame).wrap K H gd lv
theorem sg_For {tgt iter : Expr} {body : List Stmt} {pos : Pos} {K : Flow → Sem PySem.Fin} {H : Value → Sem PySem.Fin} {gd : Bool → Bool} {lv : List Value → List Value}
    (h : wpAny M (A.over c fs) (eval iter env) (fun x s1 => wpAny M (A.over c fs) (pyIter x) (fun it s2 => ∀ p, Sg M A Φ (.forLoop tgt it body [] env) (M.den (.forLoop tgt it body [] env)) (.ret (retK env K H gd lv) none (gd false) (lv []) c p [] :: fs) s2) (fun _ _ => False) s1) (fun _ _ => False) s)
    (hs : ∀ x, foldedSetIterable iter env x = pure x := by intro _; rfl) : Sg M A Φ c ((exec (.For tgt iter body [] pos) env).wrap K H gd lv) fs s := by
  rw [exec_For]
  refine sg_bind_wrap (wpAny_standAt ?_)
  refine sg_bind_wrap (wpAny_mono h (fun x s1 h1 => ?_) fun _ _ z => z.elim)
  refine sg_bind_wrap (wpAny_of_eq (hs x) ?_)
  refine sg_bind_wrap (wpAny_standAt ?_)
  refine sg_bind_wrap (wpAny_holding (wpAny_mono h1 (fun it s2 h2 => ?_) fun _ _ z => z.elim))
  exact sg_call h2
end
section
variable {prog : Program} {w : World} {A : Around} {Φ : End → Shared → Prop} {fs : List Frame} {s : Shared} {env : Env}
/-- what a turn's body leaves -/
def turnK (c : Code) : Flow → Sem PySem.Fin := fun f => match f with
  | .next | .cont => .pure (.again c)
  | .brk => .pure (.done .next)
  | .ret v => .pure (.done (.ret v))
def turnH (env : Env) : Value → Sem PySem.Fin := fun e => (do noteFrame e env; theTreesLotGoes e : Sem Unit).wrap (fun _ => .raise e) .raise id id
theorem sg_forLoop {x : Str} {px : Pos} {it : Value} {body : List Stmt}
    (h : wpAny (model prog w) (A.over (.forLoop (.Name x px) it body [] env) fs) (pyNext it) (fun r s1 => match r with
      | none => Sg (model prog w) A Φ (.block [] env) (.pure (.done .next)) fs s1
      | some v => wpAny (model prog w) (A.over (.forLoop (.Name x px) it body [] env) fs) (storeName env x v) (fun _ s2 =>
          Sg (model prog w) A Φ (.forLoop (.Name x px) it body [] env) ((execs body env).wrap (turnK (.forLoop (.Name x px) it body [] env)) (turnH env) id id) fs s2) (fun _ _ => False) s1) (fun _ _ => False) s) :
    Sg (model prog w) A Φ (.forLoop (.Name x px) it body [] env) ((model prog w).den (.forLoop (.Name x px) it body [] env)) fs s := by
  show Sg _ A Φ _ ((forTurn (.Name x px) it body [] env).onRaise (fun x => do noteFrame x env; theTreesLotGoes x)) fs s
  unfold forTurn
  rw [Sem.onRaise_eq_wrap]
  refine sg_bind_wrap (wpAny_standAt ?_)
  refine sg_bind_wrap (wpAny_onRaise (wpAny_mono h (fun r s1 h1 => ?_) fun _ _ z => z.elim))
  cases r with
  | none => exact sg_again rfl h1
  | some v =>
    refine sg_bind_wrap (wpAny_pure ?_)
    refine sg_bind_wrap (wpAny_assign_Name (wpAny_mono h1 (fun _ s2 h2 => ?_) fun _ _ z => z.elim))
    rw [Sem.bind_eq_wrap', Sem.wrap_wrap]
    rw [Sem.wrap_congr (execs body env) _ _ (K' := turnK (.forLoop (.Name x px) it body [] env)) (H' := turnH env) (fun f => by cases f <;> rfl)
      (fun e => by first | exact Sem.bind_eq_wrap _ _ | (show (do noteFrame e env; theTreesLotGoes e : Sem Unit).bind (fun _ => .raise e) = _; rw [Sem.bind_eq_wrap]; rfl))]
    exact h2
end
end GP
namespace GP
open PySem PySem.Spec PyProof.Rows GenW
open Sem (wp)

section
variable {M : Model} {A : Around} {Φ : End → Shared → Prop} {c : Code} {fs : List Frame} {s : Shared} {env : Env} {K : Flow → Sem PySem.Fin} {H : Value → Sem PySem.Fin} {gd : Bool → Bool} {lv : List Value → List Value}
theorem sg_Yield {e : Expr} {ypos pos : Pos} (hfs : splitAtGen fs = none) (hgd : gd false = false)
    (h : wpAny M (A.over c fs) (eval e env) (fun v s' => ∀ p l k, (∀ (Φ' : End → Shared → Prop) (s'' : Shared), Sg M A Φ' c (K .next) fs s'' → Sg M A Φ' c (k (.send .none)) fs s'') → Φ (.susp v false l k c p fs) s') (fun _ _ => False) s)
    (hco : env.scope.isCoroutine = false) (hi : interactive env = false) : Sg M A Φ c ((exec (.Expr (.Yield (some e) ypos) pos) env).wrap K H gd lv) fs s := by
  rw [exec_Expr env _ pos hi rfl]
  show Sg M A Φ c (.at pos fun _ => ((eval e env >>= fun v => (standAt ypos >>= fun _ => yieldOut env v)) >>= fun x =>
    dropValue (.Yield (some e) ypos) pos x).wrap K H gd lv) fs s
  have hy : ∀ v, yieldOut env v = yieldValue v := fun v => by simp only [yieldOut, hco, Bool.false_eq_true, if_false]
  simp only [hy]
  refine sg_at ?_
  rw [Sem.bind_eq_wrap', Sem.bind_eq_wrap', Sem.wrap_wrap, Sem.wrap_wrap]
  refine sg_wrap (wpAny_mono h (fun v s' h' => ?_) fun _ _ x => x.elim)
  refine sg_at ?_
  show Sg M A Φ c (.yield v (gd false) (lv _) _) fs s'
  rw [hgd]
  exact sg_yield hfs fun p => h' p _ _ fun Φ' s'' z => z
end

/-! ### all_rows -/
structure ArEnv (G : Gb) (env : Env) : Prop where
  kind : env.scope.kind = .function
  n1 : env.kindOf "first" = some .local
  n2 : env.kindOf "second" = some .local
  n3 : env.kindOf "third" = some .local
  nv : env.kindOf "VALUES" = some .globalImplicit
  glob : ∃ mg, G.bh.Ns env.globals mg ∧ mg "VALUES" = some (.ref G.t)
  tup : G.bh.IsTuple G.t G.its
  size : G.its.size = 4
  co : env.scope.isCoroutine = false
  ia : interactive env = false
/-- the row that is due when r are left -/
def Row (its : Array Value) (r : Nat) (h : Heap) (q : Addr) : Prop := ∃ i j k a b c, i < 4 ∧ j < 4 ∧ k < 4 ∧ r + 16 * i + 4 * j + k = 64 ∧ its[i]? = some a ∧ its[j]? = some b ∧ its[k]? = some c ∧ h.IsTuple q #[a, b, c]
def Phi (M : Model) (A : Around) (G : Gb) : Nat → Ph → End → Shared → Prop
  | 0, ph, e, s' => e = .ret (.ok (.ret .none)) ∧ Mv ph s'
  | r + 1, ph, e, s' => ∃ q l k c p fs, e = .susp (.ref q) false l k c p fs ∧ fs.any Frame.guarded = false ∧ Mv ph s' ∧ Row G.its (r + 1) s'.heap q ∧ ph.s.heap.objs.size ≤ q ∧
      ∃ pins : List (Addr × Obj), (∀ p ∈ pins, s'.heap.get? p.1 = some p.2 ∧ (p.1 ∈ ph.own ∨ ph.s.heap.objs.size ≤ p.1) ∧ (∀ v, p.2.data ≠ .cell v) ∧ p.1 ≠ q) ∧
        ∀ s'' : Shared, (∀ p ∈ pins, s''.heap.get? p.1 = some p.2) → (∀ b o, G.bh.get? b = some o → s''.heap.get? b = some o) → Sg M A (Phi M A G r ⟨s'', pins.map (·.1)⟩) c (k (.send .none)) fs s''
section
variable {prog : Program} {w : World} {A : Around} {G : Gb} {env : Env} {L : Addr}
/-- one loop over the tuple: J of the turn, of what is left and of the names -/
theorem sg_loop {x : Str} {px : Pos} {it : Addr} {body : List Stmt} {fs : List Frame} {il : List (Addr × Nat)} (hL : env.locals = L) (hk : env.scope.kind = .function) (hx : env.kindOf x = some .local) (ht : G.bh.IsTuple G.t G.its) (h4 : G.its.size = 4)
    (hh : (A.over (.forLoop (.Name x px) (.ref it) body [] env) fs).handled = none) (J : Nat → Nat → (Str → Option Value) → Prop)
    (step : ∀ i v r m ph s, i < 4 → G.its[i]? = some v → J i r m → GSt G L ph (fun y => if y = x then some v else m y) ((it, i + 1) :: il) s →
      (∀ r' m' ph' s', J (i + 1) r' m' → GSt G L ph' m' ((it, i + 1) :: il) s' → Sg (model prog w) A (Phi (model prog w) A G r' ph') (.forLoop (.Name x px) (.ref it) body [] env) (.pure (.again (.forLoop (.Name x px) (.ref it) body [] env))) fs s') →
      Sg (model prog w) A (Phi (model prog w) A G r ph) (.forLoop (.Name x px) (.ref it) body [] env) ((execs body env).wrap (turnK (.forLoop (.Name x px) (.ref it) body [] env)) (turnH env) id id) fs s)
    (done : ∀ r m ph s, J 4 r m → GSt G L ph m il s → Sg (model prog w) A (Phi (model prog w) A G r ph) (.block [] env) (.pure (.done .next)) fs s) :
    ∀ (q i r : Nat) (m : Str → Option Value) (ph : Ph) (s : Shared), i + q = 4 → J i r m → GSt G L ph m ((it, i) :: il) s →
      Sg (model prog w) A (Phi (model prog w) A G r ph) (.forLoop (.Name x px) (.ref it) body [] env) ((model prog w).den (.forLoop (.Name x px) (.ref it) body [] env)) fs s := by
  intro q
  induction q with
  | zero =>
    intro i r m ph s hi hJ hG
    have hi4 : i = 4 := by omega
    subst hi4
    have hit := hG.it _ List.mem_cons_self
    obtain ⟨o, ho, hoc⟩ := ht
    refine sg_forLoop (wpAny_hsz (wpAny_pyNext_tuple_end hh hit ⟨o, hG.bs _ _ ho, hoc⟩ (by rw [Array.getElem?_eq_none]; omega) fun h' hb => fun z => ?_))
    exact done r m ph _ hJ (hG.drop (tk := s.toks) hb z)
  | succ q ih =>
    intro i r m ph s hi hJ hG
    have hi4 : i < 4 := by omega
    have hit := hG.it _ List.mem_cons_self
    obtain ⟨o, ho, hoc⟩ := ht
    obtain ⟨v, hv⟩ : ∃ v, G.its[i]? = some v := ⟨G.its[i]'(by omega), Array.getElem?_eq_getElem _⟩
    refine sg_forLoop (wpAny_pyNext_tuple_item hit ⟨o, hG.bs _ _ ho, hoc⟩ hv fun h' hit' hb => ?_)
    have hG1 := hG.turn (tk := s.toks) hit' hb.extBut (Nat.le_of_eq hb.1.symm)
    refine wpAny_storeName_local hx (m := m) (by rw [hL]; exact hG1.ns) (fun h2 hn hb2 => ?_) (by rw [hk]; rfl)
    rw [hL] at hn hb2
    exact step i v r m ph _ hi4 hv hJ (hG1.store hn hb2.extBut (Nat.le_of_eq hb2.1.symm)) fun r' m' ph' s' hJ' hG' => sg_again rfl (ih (i + 1) r' m' ph' s' (by omega) hJ' hG')
theorem GSt.glob {ph : Ph} {m : Str → Option Value} {il : List (Addr × Nat)} {s : Shared} (x : GSt G L ph m il s) (E : ArEnv G env) {A : Around} {M : Model} {px : Pos} {Q : Value → Shared → Prop} {Ex : Value → Shared → Prop} (h : Q (.ref G.t) s) : wpAny M A (eval (.Name "VALUES" px) env) Q Ex s := by
  obtain ⟨mg, hg, hv⟩ := E.glob
  exact Calls.Name_function_global E.kind E.nv (Calls.loadGlobal_global (hg.keeps x.bs) hv h)
theorem GSt.local_ {ph : Ph} {m : Str → Option Value} {il : List (Addr × Nat)} {s : Shared} (x : GSt G L ph m il s) (E : ArEnv G env) (hL : env.locals = L) {A : Around} {M : Model} {y : Str} {v : Value} {px : Pos} {Q : Value → Shared → Prop} {Ex : Value → Shared → Prop} (hk : env.kindOf y = some .local) (hm : m y = some v) (h : Q v s) (hd : (y == ("__debug__" : Str)) = false := by decide) : wpAny M A (eval (.Name y px) env) Q Ex s :=
  wpAny_Name (wpAny_loadName_local E.kind hk (by rw [hL]; exact x.ns) hm h) hd
/-- a loop over VALUES is begun -/
theorem sg_begin {x : Str} {px pv pos : Pos} {body : List Stmt} {c : Code} {fs : List Frame} {K : Flow → Sem PySem.Fin} {H : Value → Sem PySem.Fin} {m : Str → Option Value} {il : List (Addr × Nat)} {s : Shared} {ph : Ph} {Φ : End → Shared → Prop} (E : ArEnv G env) (hG : GSt G L ph m il s)
    (h : ∀ it s', GSt G L ph m ((it, 0) :: il) s' → ∀ p, Sg (model prog w) A Φ (.forLoop (.Name x px) (.ref it) body [] env) ((model prog w).den (.forLoop (.Name x px) (.ref it) body [] env)) (.ret (retK env K H id id) none false [] c p [] :: fs) s') :
    Sg (model prog w) A Φ c ((execs [.For (.Name x px) (.Name "VALUES" pv) body [] pos] env).wrap K H id id) fs s := by
  refine sg_execs_one (sg_For (hG.glob E ?_))
  obtain ⟨o, ho, hoc⟩ := E.tup
  refine wpAny_pyIter_tuple ⟨o, hG.bs _ _ ho, hoc⟩ ?_
  exact h _ _ hG.made
theorem sg_row {c : Code} {fs : List Frame} {a1 a2 a3 py pe pt : Pos} {x1 : Nat} {K : Flow → Sem PySem.Fin} {H : Value → Sem PySem.Fin} {m : Str → Option Value} {il : List (Addr × Nat)} {s : Shared} {ph : Ph} (E : ArEnv G env) (hL : env.locals = L) (hG : GSt G L ph m il s) {i j k r : Nat} {u v z : Value}
    (hi : i < 4) (hj : j < 4) (hk : k < 4) (hr : r + 1 + 16 * i + 4 * j + k = 64) (e1 : G.its[i]? = some u) (e2 : G.its[j]? = some v) (e3 : G.its[k]? = some z) (m1 : m "first" = some u) (m2 : m "second" = some v) (m3 : m "third" = some z)
    (hsp : splitAtGen fs = none) (hgd : fs.any Frame.guarded = false)
    (h : ∀ ph' s', GSt G L ph' m il s' → Sg (model prog w) A (Phi (model prog w) A G r ph') c (K .next) fs s') :
    Sg (model prog w) A (Phi (model prog w) A G (r + 1) ph) c ((execs [.Expr (.Yield (some (.Tuple [.Name "first" a1, .Name "second" a2, .Name "third" a3] x1 pt)) py) pe] env).wrap K H id id) fs s := by
  refine sg_execs_one (sg_Yield hsp rfl (wpAny_Tuple_spliced ?_) E.co E.ia)
  refine Calls.spliced_cons (hG.local_ E hL E.n1 m1 ?_)
  refine Calls.spliced_cons (hG.local_ E hL E.n2 m2 ?_)
  refine Calls.spliced_cons (hG.local_ E hL E.n3 m3 ?_)
  refine Calls.spliced_nil ⟨(show 3 ≤ sizeLine by decide), fun p l kk hkk => ?_⟩
  have hG1 := hG.kept (h' := s.heap.push { cls := .type "tuple", data := .seq #[u, v, z] }) (tk := s.toks) (fun b o e => Heap.get?_push_of_some _ e) (by rw [Heap.size_push]; omega)
  refine ⟨s.heap.objs.size, l, kk, c, p, fs, rfl, hgd, hG1.mv, ⟨i, j, k, u, v, z, hi, hj, hk, hr, e1, e2, e3, ⟨_, Heap.get?_push_size _ rfl, rfl, _, rfl⟩⟩, hG.mv.sz, ?_⟩
  -- its own things, as they stand
  have objs : ∀ b ∈ L :: il.map (·.1), ∃ o, (s.heap.push { cls := .type "tuple", data := .seq #[u, v, z] }).get? b = some o ∧ ∀ v, o.data ≠ .cell v := fun b hb => by
    rcases List.mem_cons.mp hb with e | e
    · obtain ⟨o, es, ep, ho, hd, _⟩ := hG1.ns
      rw [e]; exact ⟨o, ho, fun v z => by rw [hd] at z; cases z⟩
    · obtain ⟨p, hp, rfl⟩ := List.mem_map.mp e
      obtain ⟨o, ho, _, hd⟩ := hG1.it p hp
      exact ⟨o, ho, fun v z => by rw [hd] at z; cases z⟩
  refine ⟨(L :: il.map (·.1)).filterMap fun b => ((s.heap.push { cls := .type "tuple", data := .seq #[u, v, z] }).get? b).map fun o => (b, o), fun p hp => ?_, fun s'' hpin hbase => ?_⟩
  · obtain ⟨b, hb, e⟩ := List.mem_filterMap.mp hp
    obtain ⟨o, ho, hd⟩ := objs b hb
    rw [ho] at e
    cases e
    exact ⟨ho, (hG1.own b hb).1, hd, Nat.ne_of_lt (hG.lt hb)⟩
  · have hown : ∀ b ∈ L :: il.map (·.1), b ∈ ((L :: il.map (·.1)).filterMap fun b => ((s.heap.push { cls := .type "tuple", data := .seq #[u, v, z] }).get? b).map fun o => (b, o)).map (·.1) := fun b hb => by
      obtain ⟨o, ho, _⟩ := objs b hb
      exact List.mem_map.mpr ⟨(b, o), List.mem_filterMap.mpr ⟨b, hb, by rw [ho]; rfl⟩, rfl⟩
    have hsame : ∀ b ∈ L :: il.map (·.1), ∀ o, (s.heap.push { cls := .type "tuple", data := .seq #[u, v, z] }).get? b = some o → s''.heap.get? b = some o := fun b hb o e => hpin (b, o) (List.mem_filterMap.mpr ⟨b, hb, by rw [e]; rfl⟩)
    refine hkk _ s'' (h _ s'' ⟨⟨rfl, rfl, fun _ _ e _ => e, Nat.le_refl _⟩, hbase, hG1.ns.at' fun o e => hsame L List.mem_cons_self o e, fun p hp => (hG1.it p hp).at fun o e => hsame p.1 (List.mem_cons_of_mem _ (List.mem_map.mpr ⟨p, hp, rfl⟩)) o e, fun b hb => ⟨.inl (hown b hb), (hG1.own b hb).2⟩, hG1.nd⟩)
/-- THE BODY -/
theorem ar_body {x1 : Nat} {p1 p2 p3 q1 q2 q3 o1 o2 o3 a1 a2 a3 py pe pt : Pos} (E : ArEnv G env) (hL : env.locals = L) (hh : A.handled = none) {m : Str → Option Value} {s : Shared} {ph : Ph} (hG : GSt G L ph m [] s) :
    Sg (model prog w) A (Phi (model prog w) A G 64 ph) (.func [.For (.Name "first" p1) (.Name "VALUES" q1) [.For (.Name "second" p2) (.Name "VALUES" q2) [.For (.Name "third" p3) (.Name "VALUES" q3)
      [.Expr (.Yield (some (.Tuple [.Name "first" a1, .Name "second" a2, .Name "third" a3] x1 pt)) py) pe] [] o3] [] o2] [] o1] env)
      ((model prog w).den (.func [.For (.Name "first" p1) (.Name "VALUES" q1) [.For (.Name "second" p2) (.Name "VALUES" q2) [.For (.Name "third" p3) (.Name "VALUES" q3)
      [.Expr (.Yield (some (.Tuple [.Name "first" a1, .Name "second" a2, .Name "third" a3] x1 pt)) py) pe] [] o3] [] o2] [] o1] env)) [] s := by
  show Sg _ A _ _ (.point [] fun _ => ((execs _ env).onRaise (leaving env)) >>= _) [] s
  refine sg_point ?_
  rw [Sem.onRaise_eq_wrap, Sem.bind_eq_wrap', Sem.wrap_wrap]
  rw [Sem.wrap_congr (execs _ env) _ _ (K' := fun f => .pure (.done (.ret (match f with | .ret v => v | _ => .none))))
    (H' := fun e => (leaving env e).wrap (fun _ => .raise e) .raise id id) (fun f => by cases f <;> rfl)
    (fun e => by rw [Sem.bind_eq_wrap, Sem.wrap_wrap]; rfl)]
  refine sg_begin E hG fun it1 s1 hG1 pp1 => ?_
  refine sg_loop (il := []) hL E.kind E.n1 E.tup E.size (by exact hh) (fun i r m => r + 16 * i = 64) (fun i v r m ph s hi hv hJ hG back => ?_) (fun r m ph s hJ hG => ?_) 4 0 64 m ph s1 rfl rfl hG1
  · refine sg_begin E hG fun it2 s2 hG2 pp2 => ?_
    refine sg_loop (il := [(it1, i + 1)]) hL E.kind E.n2 E.tup E.size (by exact hh) (fun j r m => r + 16 * i + 4 * j = 64 ∧ m "first" = some v) (fun j v2 r m ph s hj hv2 hJ hG back2 => ?_) (fun r m ph s hJ hG => ?_) 4 0 r _ ph s2 rfl ⟨hJ, by rw [if_pos rfl]⟩ hG2
    · obtain ⟨hJ, hm1⟩ := hJ
      refine sg_begin E hG fun it3 s3 hG3 pp3 => ?_
      refine sg_loop (il := [(it2, j + 1), (it1, i + 1)]) hL E.kind E.n3 E.tup E.size (by exact hh) (fun k r m => r + 16 * i + 4 * j + k = 64 ∧ m "first" = some v ∧ m "second" = some v2) (fun k v3 r m ph s hk hv3 hJ hG back3 => ?_) (fun r m ph s hJ hG => ?_) 4 0 r _ ph s3 rfl ⟨hJ, by rw [if_neg (by decide)]; exact hm1, by rw [if_pos rfl]⟩ hG3
      · obtain ⟨hJ, hm1, hm2⟩ := hJ
        obtain ⟨r, rfl⟩ : ∃ r', r = r' + 1 := ⟨r - 1, by omega⟩
        refine sg_row E hL hG hi hj hk hJ hv hv2 hv3 (by rw [if_neg (by decide)]; exact hm1) (by rw [if_neg (by decide)]; exact hm2) (by rw [if_pos rfl]) rfl rfl fun ph' s' hG' => ?_
        exact back3 r _ ph' s' ⟨by omega, by rw [if_neg (by decide)]; exact hm1, by rw [if_neg (by decide)]; exact hm2⟩ hG'
      · obtain ⟨hJ, hm1, _⟩ := hJ
        exact sg_leaf (.ok .next) (back2 r m ph s ⟨by omega, hm1⟩ hG)
    · obtain ⟨hJ, hm1⟩ := hJ
      exact sg_leaf (.ok .next) (back r m ph s (by omega) hG)
  · have hr : r = 0 := by omega
    subst hr
    exact sg_leaf (.ok .next) (sg_end (.ok (.ret .none)) ⟨rfl, hG.mv⟩)
end
end GP
namespace GP
open PySem PySem.Spec PyProof.Rows GenW
open Sem (wp)

/-- a generator that will hand out the last r rows; its own things -/
def Rdy (M : Model) (A : Around) (G : Gb) (r : Nat) (pins : List (Addr × Obj)) (gs : GenState) : Prop :=
  ∀ s'' : Shared, (∀ p ∈ pins, s''.heap.get? p.1 = some p.2) → (∀ b o, G.bh.get? b = some o → s''.heap.get? b = some o) → match gs with
    | .fresh c => Sg M A (Phi M A G r ⟨s'', pins.map (·.1)⟩) c (M.den c) [] s''
    | .suspended k _ c _ fs _ => Sg M A (Phi M A G r ⟨s'', pins.map (·.1)⟩) c (k (.send .none)) fs s''
    | _ => False
section
variable {M : Model} {G : Gb} {A : Around} {r : Nat} {pins : List (Addr × Obj)}
/-- how it is handed on -/
structure Yld (G : Gb) (M : Model) (A : Around) (r : Nat) (pins : List (Addr × Obj)) (s0 : Shared) (r' : Nat) (q : Addr) (s₁ : Shared) (gs' : GenState) (pins' : List (Addr × Obj)) : Prop where
  rr : r = r' + 1
  bare : gs'.bare = true
  susp : susp gs' = true
  rdy : Rdy M A G r' pins' gs'
  mv : Mv ⟨s0, pins.map (·.1)⟩ s₁
  row : Row G.its r s₁.heap q
  fresh : s0.heap.objs.size ≤ q
  pin : ∀ p ∈ pins', s₁.heap.get? p.1 = some p.2 ∧ (p.1 ∈ pins.map (·.1) ∨ s0.heap.objs.size ≤ p.1) ∧ (∀ v, p.2.data ≠ .cell v) ∧ p.1 ≠ q
theorem resume_ar {E : Value → Shared → Prop} {s : Shared} {g : Nat} {gs : GenState} {l : List Value} {α : Type} {k : GenResult → Sem α} {Q : α → Shared → Prop} (hg : s.gens[g]? = some gs)
    (hr : Rdy M A G r pins gs) (hp : ∀ p ∈ pins, s.heap.get? p.1 = some p.2) (hb : ∀ b o, G.bh.get? b = some o → s.heap.get? b = some o)
    (hY : ∀ r' q s₁ gs' pins', Yld G M A r pins (s.setGen g .running) r' q s₁ gs' pins' → wpAny M A (k (.yielded (.ref q))) Q E (s₁.setGen g gs'))
    (hD : r = 0 → ∀ s₁, Mv ⟨s.setGen g .running, pins.map (·.1)⟩ s₁ → wpAny M A (k (.returned .none)) Q E (s₁.setGen g .finished)) :
    wpAny M A (.resume g (.send .none) l k) Q E s := by
  intro Γ p hΓ
  rw [Sem.wp_resume]
  have hB : ∀ c, (Γ.wake c p).Woken A := fun c => hΓ.wake c p
  have go := hr (s.setGen g .running) hp hb
  have fin : ∀ e₁ s₁, Phi M A G r ⟨s.setGen g .running, pins.map (·.1)⟩ e₁ s₁ → e₁.quiet = true ∧ wp M Γ (k e₁.result) (fun a _ s' => Q a s') (fun e _ s' => E e s') p (s₁.setGen g e₁.genState) := by
    intro e₁ s₁ h
    cases r with
    | zero =>
      obtain ⟨rfl, hm⟩ := h
      exact ⟨rfl, hD rfl s₁ hm Γ p hΓ⟩
    | succ r' =>
      obtain ⟨q, l, k, c, p0, fs, rfl, hgd, hm, hrow, hf, pins', h1, h2⟩ := h
      have hq : (End.susp (Value.ref q) false l k c p0 fs).quiet = true := by
        show (!(false || fs.any Frame.guarded)) = true
        rw [hgd]; rfl
      refine ⟨hq, hY r' q s₁ _ pins' ⟨rfl, End.bare_of_quiet hq, rfl, h2, hm, hrow, hf, h1⟩ Γ p hΓ⟩
  cases gs with
  | fresh c =>
    obtain ⟨e₁, s₁, hr, he⟩ := go (Γ.wake c p) p rfl (hB c)
    exact ⟨_, _, by unfold Wakes; rw [hg]; exact ⟨e₁, s₁, hr, (fin e₁ s₁ he).1, rfl, rfl⟩, (fin e₁ s₁ he).2⟩
  | suspended k₀ l₀ c₀ p₀ fs₀ cl =>
    obtain ⟨e₁, s₁, hr, he⟩ := go (Γ.wake c₀ p) p₀ rfl (hB c₀)
    exact ⟨_, _, by unfold Wakes; rw [hg]; exact ⟨e₁, s₁, hr, (fin e₁ s₁ he).1, rfl, rfl⟩, (fin e₁ s₁ he).2⟩
  | running => exact go.elim
  | finished => exact go.elim
end
section
variable {prog : Program} {w : World} {G : Gb} {A : Around} {r : Nat} {pins : List (Addr × Obj)} {E : Value → Shared → Prop} {s : Shared}
theorem next_ar {a : Addr} {g : Nat} {gs : GenState} {Q : Option Value → Shared → Prop} (hh : A.handled = none) (hl : s.heap.NoLimit) (hroom : A.depth < recursionLimit) (hg : s.heap.IsGen a g) (hgs : s.gens[g]? = some gs)
    (hr : Rdy (model prog w) A.in1 G r pins gs) (hp : ∀ p ∈ pins, s.heap.get? p.1 = some p.2) (hb : ∀ b o, G.bh.get? b = some o → s.heap.get? b = some o)
    (hY : ∀ r' q s₁ gs' pins', Yld G (model prog w) A.in1 r pins (s.setGen g .running) r' q s₁ gs' pins' → Q (some (.ref q)) (s₁.setGen g gs'))
    (hD : r = 0 → ∀ s₁, Mv ⟨s.setGen g .running, pins.map (·.1)⟩ s₁ → ∀ h', (∀ b o, s₁.heap.get? b = some o → h'.get? b = some o) → Q none { s₁.setGen g .finished with heap := h' }) :
    wpAny (model prog w) A (pyNext (.ref a)) Q E s := by
  have ng := hr s hp hb
  apply wpAny_bind
  apply wpAny_attempt
  apply wpAny_callSpecial?_slot hg.typeIs slot_gen_next
  apply wpAny_call_entry slot_gen_next hg.typeIs entry_gen_next (ha := args_gen_next _)
  refine wpAny_bind (wpAny_of_eq (a := (.ref a, [])) rfl (wpAny_bind (wpAny_holding (wpAny_genNumber hg (wpAny_bind (wpAny_genState hgs ?_))))))
  cases gs with
  | running | finished => exact ng.elim
  | _ =>
    refine wpAny_bind (wpAny_roomToWake hl hroom (resume_ar hgs hr hp hb ?_ ?_))
    · exact fun r' q s₁ gs' pins' hy => wpAny_pure ⟨_, rfl, wpAny_pure (hY _ _ _ _ _ hy)⟩
    · refine fun h0 s₁ hm => StopW.stop_made fun h' x k ⟨_, _, e⟩ => ?_
      unfold raiseNew
      exact wpAny_bind (wpAny_bind (wpAny_handled_none hh (wpAny_throw (StopW.asker_none e rfl (hD h0 s₁ hm h' fun b o g => (k b o g).1)))))
end
end GP
namespace GP
open PySem PySem.Spec PyProof.Rows GenW L2

def arBody (x1 : Nat) (p1 p2 p3 q1 q2 q3 o1 o2 o3 a1 a2 a3 py pe pt : Pos) : List Stmt :=
  [.For (.Name "first" p1) (.Name "VALUES" q1) [.For (.Name "second" p2) (.Name "VALUES" q2) [.For (.Name "third" p3) (.Name "VALUES" q3)
      [.Expr (.Yield (some (.Tuple [.Name "first" a1, .Name "second" a2, .Name "third" a3] x1 pt)) py) pe] [] o3] [] o2] [] o1]
/-- the text's all_rows and VALUES -/
structure ArIs (K : PySem.W.Frag) (mg : Str → Option Value) (f tv : Addr) : Prop where
  F : ∃ (st : Stmt) (fd : FuncData) (qual : Str), Fun K "all_rows" qual st f fd ∧ Binds K fd [] [] ∧ (defScope st).kind = .function ∧ (defScope st).isCoroutine = false ∧ (defScope st).isGenerator = true ∧
    (defScope st).names = ([("first", .local), ("second", .local), ("third", .local), ("VALUES", .globalImplicit)] : List (Str × NameKind)) ∧ ∃ x1 p1 p2 p3 q1 q2 q3 o1 o2 o3 a1 a2 a3 py pe pt, defBody st = arBody x1 p1 p2 p3 q1 q2 q3 o1 o2 o3 a1 a2 a3 py pe pt
  g : mg "all_rows" = some (.ref f)
  gv : mg "VALUES" = some (.ref tv)
  t : ∃ (o : Obj) (its : Array Value) (n : Nat), K.lookup tv = some o ∧ o.cls = .type "tuple" ∧ o.data = .seq its n ∧ Vals [.non, .int 0, .int 1, .int 2] its.toList
/-- the values of a row, by its place -/
def vAt : Nat → V
  | 0 => .non
  | n + 1 => .int (n : Nat)
def rowV (i : Nat) : List V := [vAt (i / 16), vAt (i / 4 % 4), vAt (i % 4)]
/-- what the loop knows of its generator, i rows being out -/
structure ArT (X : Cx) (G : Gb) (pins : List (Addr × Obj)) (a g i : Nat) (H : Hp) (s : Shared) (ap : List (Addr × Obj)) (gs : GenState) : Prop where
  gen : s.heap.IsGen a g
  st : s.gens[g]? = some gs
  rdy : Rdy (model X.prog X.w) X.A.in1 G (64 - i) ap gs
  le : i ≤ 64
  awake : i = 0 ∨ susp gs = true
  ga : FpOk X pins H a
  pin : ∀ p ∈ ap, s.heap.get? p.1 = some p.2 ∧ FpOk X pins H p.1 ∧ (∀ v, p.2.data ≠ .cell v) ∧ p.1 ≠ a
def ArTurn (X : Cx) (G : Gb) (pins : List (Addr × Obj)) (a g i : Nat) (H : Hp) (s : Shared) : Prop := ∃ ap gs, ArT X G pins a g i H s ap gs
section
variable {X : Cx} {pins : List (Addr × Obj)} {σ : L2.St} {H : Hp} {s : Shared} {f tv : Addr}
def gbOf (X : Cx) (tv : Addr) (its : Array Value) : Gb := ⟨X.base, tv, its⟩
/-- the call all_rows() -/
theorem make_ar {its : Array Value} {p pos : Pos} {E : Value → Shared → Prop} (I : Inv X pins σ H s) (T : ArIs X.K X.mg f tv) (hi : ∃ (o : Obj) (n : Nat), X.K.lookup tv = some o ∧ o.cls = .type "tuple" ∧ o.data = .seq its n ∧ Vals [.non, .int 0, .int 1, .int 2] its.toList) (hr : Room 1 X.A) (hg : Gl X "all_rows") :
    wpAny (model X.prog X.w) X.A (eval (.Call (.Name "all_rows" p) [] [] pos) X.env) (fun v s1 => ∃ a g, v = .ref a ∧ Inv X pins σ H s1 ∧ ArTurn X (gbOf X tv its) pins a g 0 H s1) E s := by
  obtain ⟨st, fd, qual, F, hb, k1, k2, k3, k4, x1, p1, p2, p3, q1, q2, q3, o1, o2, o3, a1, a2, a3, py, pe, pt, hbody⟩ := T.F
  obtain ⟨oc, od, kV, doc, pm, an, cdv, ct, osl, rfl, lk, hcd⟩ := F.ex
  refine wpAny_Call_Name_kw (ld_glob I hg T.g ?_ (by decide))
  refine PySem.W.callWith_K0 I.kIn F.kp (wpAny_call ?_)
  have KX := I.kIn
  have KB := I.mod.kin
  refine codeAny_call_generator (by have := hr.dp; omega) (KX _ _ lk) rfl k2 k3 rfl (PySem.W.codeRec_of KX hcd) (hb _ _ KX rfl _ _ _ _ ?_)
  refine wpAny_newFunctionEnv_cells k1 (fun y hy => by simp at hy) fun env he s1 x => ?_
  subst he
  refine ⟨I.nolimit.keeps x.toInCall.keep, ?_⟩
  obtain ⟨h1, tk, es1, hk1⟩ := x.done
  subst es1
  have lt1 : s.heap.objs.size < h1.objs.size := x.toInCall.ns.lt
  obtain ⟨o, n, hl, hc, hd, hv⟩ := hi
  have hsz : its.size = 4 := by have := hv.length; simpa using this.symm
  have AE : ArEnv (gbOf X tv its) (envOfC qual (defScope st) s.heap.objs.size f cdv) := by
    refine ⟨k1, ?_, ?_, ?_, ?_, ⟨X.mg, I.mod.glob, T.gv⟩, ⟨o, KB _ _ hl, hc, n, hd⟩, hsz, k2, ?_⟩
    · show (defScope st).names.lookup _ = _; rw [k4]; decide
    · show (defScope st).names.lookup _ = _; rw [k4]; decide
    · show (defScope st).names.lookup _ = _; rw [k4]; decide
    · show (defScope st).names.lookup _ = _; rw [k4]; decide
    · show ((defScope st).kind == .module && _) = false; rw [k1]; rfl
  obtain ⟨oL, esL, epL, hoL, hdL, hsL⟩ := id x.toInCall.ns
  have main : ∀ (go : Obj) (nm qn : Value) (tk2 : Nat), go.cls = .type "generator" → go.data = .fields #[.int s.gens.size 0, nm, qn] → go.slots = #[] → (∀ h : Heap, (h.push go).get? h.objs.size = some go) →
      ∃ a g, Value.ref h1.objs.size = .ref a ∧ Inv X pins σ H { s with heap := h1.push go, gens := s.gens.push (.fresh (.func (defBody st) (envOfC qual (defScope st) s.heap.objs.size f cdv))), toks := tk2 } ∧
        ArTurn X (gbOf X tv its) pins a g 0 H { s with heap := h1.push go, gens := s.gens.push (.fresh (.func (defBody st) (envOfC qual (defScope st) s.heap.objs.size f cdv))), toks := tk2 } := by
    intro go nm qn tk2 hgc hgd hgs hgp
    have kp : ∀ b o, s.heap.get? b = some o → (h1.push go).get? b = some o := fun b o e => Heap.get?_push_of_some _ (hk1 b o e)
    have I1 : Inv X pins σ H { s with heap := h1.push go, toks := tk2 } := I.kept kp
    have I2 : Inv X pins σ H { s with heap := h1.push go, gens := s.gens.push (.fresh (.func (defBody st) (envOfC qual (defScope st) s.heap.objs.size f cdv))), toks := tk2 } :=
      ⟨I1.ok, I1.os, AllBare.push I.bare rfl, I1.base, I1.loc, I1.cell, I1.free, I1.freeC, I1.pin, I1.hok, I1.len⟩
    refine ⟨_, s.gens.size, rfl, I2, [(s.heap.objs.size, oL)], _, ⟨⟨go, nm, qn, hgp _, hgc, hgd, hgs⟩, Array.getElem?_push_size .., fun s'' hpin hbase => ?_, by omega, .inl rfl, I.fpOk (Nat.le_of_lt lt1) (I.hok.fresh (Nat.le_of_lt lt1)), fun q hq => ?_⟩⟩
    · have hLs : s''.heap.get? s.heap.objs.size = some oL := hpin _ (List.mem_singleton.mpr rfl)
      have hG : GSt (gbOf X tv its) s.heap.objs.size ⟨s'', [s.heap.objs.size]⟩ (bindL (envOfC qual (defScope st) s.heap.objs.size f cdv).kindOf (([] : List Str).zip ([] ++ [])) fun _ => none) [] s'' :=
        ⟨⟨rfl, rfl, fun _ _ e _ => e, Nat.le_refl _⟩, hbase, ⟨oL, esL, epL, hLs, hdL, hsL⟩, fun q hq => by simp at hq, fun b hb => ?_, by simp⟩
      · show Sg _ _ _ (.func (defBody st) _) _ [] s''
        rw [hbody]
        exact ar_body (A := X.A.in1) AE rfl hr.hd hG
      · have e : b = s.heap.objs.size := by simpa using hb
        subst e
        refine ⟨.inl (List.mem_singleton.mpr rfl), ?_⟩
        cases q : X.base.get? s.heap.objs.size with
        | none => exact q
        | some ob => exact absurd (Heap.lt_size (I.bk _ _ q)) (Nat.lt_irrefl _)
    · rw [List.mem_singleton.mp hq]
      refine ⟨Heap.get?_push_of_some _ hoL, I.fpOk (Nat.le_refl _) (I.hok.fresh (Nat.le_refl _)), (fun v z => by rw [hdL] at z; cases z), Nat.ne_of_lt lt1⟩
  exact main _ _ _ _ rfl rfl rfl fun h => Heap.get?_push_size _ rfl
end
end GP
namespace GP
open PySem PySem.Spec PyProof.Rows GenW L2
section
variable {X : Cx} {pins : List (Addr × Obj)} {σ : L2.St} {H : Hp} {s : Shared} {tv : Addr} {its : Array Value} {a g i : Nat}
theorem val_at (hv : Vals [.non, .int 0, .int 1, .int 2] its.toList) {i : Nat} {u : Value} (h : its[i]? = some u) : RelV (vAt i) u := by
  have h' : its.toList[i]? = some u := by simpa using h
  have hl : i < 4 := by
    have := (List.getElem?_eq_some_iff.mp h').1
    have e := hv.length
    simp at e this
    omega
  have key : ∀ {x : V}, ([.non, .int 0, .int 1, .int 2] : List V)[i]? = some x → RelV x u := fun {x} e => by
    obtain ⟨u', e2, r⟩ := hv.get e
    rw [h'] at e2; cases e2; exact r
  match i, hl with
  | 0, _ => exact key rfl
  | 1, _ => exact key rfl
  | 2, _ => exact key rfl
  | 3, _ => exact key rfl
/-- what the generator's code did to us: its own things, new things, a new tuple -/
theorem Inv.moved {ap : List (Addr × Obj)} {s₁ : Shared} {gs' : GenState} {H' : Hp} (I : Inv X pins σ H s) (hap : ∀ p ∈ ap, FpOk X pins H p.1) (mv : Mv ⟨s.setGen g .running, ap.map (·.1)⟩ s₁) (hb : gs'.bare = true)
    (hn : ∀ b o, s.heap.get? b = some o → H b = none → H' b = none) (tups : ∀ b u, H b = some u → H' b = some u) (hok : HOk X.prog X.w H s₁.heap → HOk X.prog X.w H' s₁.heap) : Inv X pins σ H' (s₁.setGen g gs') := by
  have fp : ∀ b ∈ ap.map (·.1), FpOk X pins H b := fun b hb => by
    obtain ⟨p, hp, rfl⟩ := List.mem_map.mp hb
    exact hap p hp
  have kp : ∀ b o, b ∉ ap.map (·.1) → s.heap.get? b = some o → s₁.heap.get? b = some o := fun b o n e => mv.keep b o e n
  obtain ⟨h1, g1, d1, t1, o1⟩ := s₁
  have eo : o1 = s.os := mv.os
  subst eo
  have eg : g1 = (s.setGen g .running).gens := mv.gens
  have hg : AllBare (({ heap := h1, gens := g1, drawn := d1, toks := t1, os := s.os } : Shared).setGen g gs').gens :=
    allBare_setGen (s := { heap := h1, gens := g1, drawn := d1, toks := t1, os := s.os }) (by rw [eg]; exact allBare_setGen I.bare rfl) hb
  refine L2.Inv.step (s := s) (H := H) (H' := H') (g' := (({ heap := h1, gens := g1, drawn := d1, toks := t1, os := s.os } : Shared).setGen g gs').gens) (t' := t1) (d' := d1) (h' := h1) (ch := ap.map (·.1)) I (fun b hb => ?_) (fun b o _ _ hc e _ => kp b o hc e) (fun b o _ _ hc e _ => ⟨o.slots, kp b o hc e⟩) (fun b o _ e n => hn b o e n) (fun b o hc e => ⟨o, kp b o hc e⟩)
    (fun b xs e => tups b _ e) (fun b o u e => tups b _ e) (fun b ps e => ⟨#[], by rw [tups b _ e]; simp⟩) (fun m hm => ?_) (hok fun b u q => ?_) hg
  · obtain ⟨_, f1, f2, f3, f4, f5⟩ := fp b hb
    exact ⟨f3, f1, f4, f5⟩
  · exact hm.at' fun o e => kp _ o (fun z => (fp _ z).2.1 rfl) e
  · refine (I.hok b u q).stay (fun c v hc y => kp c v (fun z => ?_) y) (fun _ y => y) fun _ _ y => y
    have hz := (fp c z).1
    rcases hc with y | y
    · rw [y, q] at hz; cases hz
    · rw [y] at hz; cases hz
theorem turn_item {E : Value → Shared → Prop} (hi : ∃ (o : Obj) (n : Nat), X.K.lookup tv = some o ∧ o.cls = .type "tuple" ∧ o.data = .seq its n ∧ Vals [.non, .int 0, .int 1, .int 2] its.toList) (hc : X.calm = true) (hd : X.A.depth < recursionLimit)
    (I : Inv X pins σ H s) (T : ArTurn X (gbOf X tv its) pins a g i H s) (h64 : i < 64) :
    wpAny (model X.prog X.w) X.A (pyNext (.ref a)) (fun r s1 => ∃ q, r = some (.ref q) ∧ H q = none ∧ Inv X pins σ (upd H q (.tup (rowV i))) s1 ∧ ArTurn X (gbOf X tv its) pins a g (i + 1) (upd H q (.tup (rowV i))) s1) E s := by
  obtain ⟨ap, gs, T⟩ := T
  refine next_ar (I.ok.hd hc) I.nolimit hd T.gen T.st T.rdy (fun p hp => (T.pin p hp).1) I.bk (fun r' q s₁ gs' pins' Y => ?_) (fun h0 => by omega)
  have hsz : s.heap.objs.size ≤ q := Y.fresh
  have hq : H q = none := I.hok.fresh hsz
  obtain ⟨o, n, hl, hcl, hdt, hv⟩ := hi
  have nq : ∀ b o, s.heap.get? b = some o → b ≠ q := fun b o e => Nat.ne_of_lt (Nat.lt_of_lt_of_le (Heap.lt_size e) hsz)
  have hrow : ObjOk X.prog X.w (upd H q (.tup (rowV i))) s₁.heap q (.tup (rowV i)) := by
    obtain ⟨i1, j1, k1, u, v, z, h1, h2, h3, hr, e1, e2, e3, ht⟩ := Y.row
    have ei : i / 16 = i1 := by omega
    have ej : i / 4 % 4 = j1 := by omega
    have ek : i % 4 = k1 := by omega
    refine ⟨(show 3 ≤ sizeLine by decide), [u, v, z], ?_, ht⟩
    unfold rowV
    rw [ei, ej, ek]
    exact .cons (val_at hv e1) (.cons (val_at hv e2) (.cons (val_at hv e3) .nil))
  have up : ∀ b u, H b = some u → upd H q (.tup (rowV i)) b = some u := fun b u e => by rw [upd_ne (fun z => by rw [z, hq] at e; cases e)]; exact e
  have I1 := Inv.moved (gs' := gs') I (fun p hp => (T.pin p hp).2.1) Y.mv Y.bare (H' := upd H q (.tup (rowV i))) (fun b o e n => by rw [upd_ne (nq b o e)]; exact n) up (fun ok b u e => by
    by_cases hb : b = q
    · subst hb
      rw [upd_same] at e; cases e
      exact hrow
    · rw [upd_ne hb] at e
      exact (ok b u e).stay (fun _ _ _ y => y) (fun c y => up c _ y) fun c xs y => up c _ y)
  have ka : ∀ o, s.heap.get? a = some o → s₁.heap.get? a = some o := fun o e => Y.mv.keep a o e (fun z => by
    obtain ⟨p, hp, e⟩ := List.mem_map.mp z
    exact (T.pin p hp).2.2.2 e)
  obtain ⟨ga, nm, qn, hga, r1, r2, r3⟩ := T.gen
  have gsz : g < s₁.gens.size := by
    have := Y.mv.gens
    have e : s₁.gens.size = s.gens.size := by rw [this]; exact setGen_size _ _ _
    rw [e]
    exact (Array.getElem?_eq_some_iff.mp T.st).1
  have fpu : ∀ b, b ≠ q → FpOk X pins H b → FpOk X pins (upd H q (.tup (rowV i))) b := fun b n ⟨f0, f⟩ => ⟨by rw [upd_ne n]; exact f0, f⟩
  refine ⟨q, rfl, hq, I1, pins', gs', ⟨ga, nm, qn, ka _ hga, r1, r2, r3⟩, setGen_at gsz, ?_, by omega, .inr Y.susp, fpu a (nq a _ hga) T.ga, fun p hp => ?_⟩
  · have := Y.rr
    have e : 64 - (i + 1) = r' := by omega
    rw [e]; exact Y.rdy
  · obtain ⟨p1, p2, p3, p4⟩ := Y.pin p hp
    refine ⟨p1, ?_, p3, ?_⟩
    · rcases p2 with z | z
      · obtain ⟨p', hp', e⟩ := List.mem_map.mp z
        rw [← e]
        exact fpu _ (by rw [e]; exact p4) (T.pin p' hp').2.1
      · exact fpu _ p4 (I.fpOk z (I.hok.fresh z))
    · rcases p2 with z | z
      · obtain ⟨p', hp', e⟩ := List.mem_map.mp z
        rw [← e]
        exact (T.pin p' hp').2.2.2
      · exact Nat.ne_of_gt (Nat.lt_of_lt_of_le (Heap.lt_size hga) z)
theorem turn_done {E : Value → Shared → Prop} (hc : X.calm = true) (hd : X.A.depth < recursionLimit)
    (I : Inv X pins σ H s) (T : ArTurn X (gbOf X tv its) pins a g 64 H s) :
    wpAny (model X.prog X.w) X.A (pyNext (.ref a)) (fun r s1 => r = none ∧ Inv X pins σ H s1) E s := by
  obtain ⟨ap, gs, T⟩ := T
  refine next_ar (I.ok.hd hc) I.nolimit hd T.gen T.st T.rdy (fun p hp => (T.pin p hp).1) I.bk (fun r' q s₁ gs' pins' Y => absurd Y.rr (by omega)) (fun h0 s₁ mv h' hk => ⟨rfl, ?_⟩)
  have I1 := Inv.moved (gs' := .finished) I (fun p hp => (T.pin p hp).2.1) mv rfl (H' := H) (fun b o e n => n) (fun b u e => e) fun ok => ok
  exact I1.kept (t' := (s₁.setGen g .finished).toks) hk
end
end GP
namespace GP
open PySem PySem.Spec PyProof.Rows GenW L2
section
variable {X : Cx} {pins : List (Addr × Obj)} {σ : L2.St} {H : Hp} {s : Shared} {tv : Addr} {its : Array Value} {a g i : Nat} {G : Gb}
theorem inv_deaf (I : Inv X pins σ H s) : Inv X pins σ H (wg s (s.gens.map poi)) := ⟨I.ok, I.os, allBare_poi I.bare, I.base, I.loc, I.cell, I.free, I.freeC, I.pin, I.hok, I.len⟩
theorem inv_back {f : Nat → Option GenState} {b : Array GenState} (P : Poi f b s.gens) (I : Inv X pins σ H (wg s b)) : Inv X pins σ H s := ⟨I.ok, I.os, P.allBare I.bare, I.base, I.loc, I.cell, I.free, I.freeC, I.pin, I.hok, I.len⟩
theorem deaf_pg {Q : L2.St → Hp → Prop} : Deaf (fun (_ : Unit) s' => ∃ σ' H', Inv X pins σ' H' s' ∧ Q σ' H') := fun _ s f b P ⟨σ, H, I, q⟩ => ⟨σ, H, inv_back P I, q⟩
theorem deaf_ep {Q : VK} : Deaf (EP X pins σ Q) := fun u s f b P ⟨v, H, I, r, q⟩ => ⟨v, H, inv_back P I, r, q⟩
theorem deaf_tp {Q : Bool → Hp → Prop} : Deaf (TP X pins σ Q) := fun u s f b P ⟨H, I, q⟩ => ⟨H, inv_back P I, q⟩
theorem deaf_false {α : Type} : Deaf (fun (_ : α) (_ : Shared) => False) := fun _ _ _ _ _ h => h

/-- the loop's own things, pinned -/
def arPins (a : Addr) (go : Obj) (ap : List (Addr × Obj)) : List (Addr × Obj) := (a, go) :: ap
theorem ArT.pinned {ap : List (Addr × Obj)} {gs : GenState} {go : Obj} (I : Inv X pins σ H s) (T : ArT X G pins a g i H s ap gs) (h : s.heap.get? a = some go) : Inv X (pins ++ arPins a go ap) σ H s :=
  I.pins_of fun p hp => (List.mem_append.mp hp).elim (fun z => I.pin p (List.mem_append_right _ z)) fun z => by
    rcases List.mem_cons.mp z with e | e
    · subst e
      obtain ⟨o, nm, qn, ho, _, hd, _⟩ := T.gen
      rw [h] at ho; cases ho
      obtain ⟨f0, f1, f2, _⟩ := T.ga
      exact ⟨h, f0, f1, f2, fun v z => by rw [hd] at z; cases z⟩
    · obtain ⟨h1, ⟨f0, f1, f2, _⟩, h3, _⟩ := T.pin p e
      exact ⟨h1, f0, f1, f2, h3⟩
theorem ArT.after {ap : List (Addr × Obj)} {gs : GenState} {go : Obj} {σ' : L2.St} {H' : Hp} {s' : Shared} (T : ArT X G pins a g i H s ap gs) (h : s.heap.get? a = some go) (I : Inv X (pins ++ arPins a go ap) σ' H' s') (z : Sleeps s.gens s'.gens) (hs : susp gs = true) : ArTurn X G pins a g i H' s' := by
  have pin : ∀ p ∈ arPins a go ap, s'.heap.get? p.1 = some p.2 ∧ H' p.1 = none := fun p hp =>
    let q := I.pin p (List.mem_append_right _ (List.mem_append_right _ hp))
    ⟨q.1, q.2.1⟩
  have fp : ∀ b, H' b = none → FpOk X pins H b → FpOk X pins H' b := fun b n ⟨_, f⟩ => ⟨n, f⟩
  obtain ⟨o, nm, qn, ho, r1, r2, r3⟩ := T.gen
  rw [h] at ho; cases ho
  refine ⟨ap, gs, ⟨go, nm, qn, (pin (a, go) List.mem_cons_self).1, r1, r2, r3⟩, z g gs T.st hs, T.rdy, T.le, .inr hs, fp a (pin (a, go) List.mem_cons_self).2 T.ga, fun p hp => ?_⟩
  obtain ⟨h1, h2, h3, h4⟩ := T.pin p hp
  obtain ⟨p1, p2⟩ := pin p (List.mem_cons_of_mem _ hp)
  exact ⟨p1, fp _ p2 h2, h3, h4⟩
end
/-- the 64 rows -/
def Jrows : It := ⟨fun i _ => i < 64, fun i H x H' => ∃ q, x = .ref q ∧ H q = none ∧ H' = upd H q (.tup (rowV i)), fun i _ => 64 ≤ i⟩
def tRows : TI := fun _ H R => R Jrows H
section
variable {X : Cx} {f tv : Addr}
end
end GP
namespace GP
open PySem PySem.Spec PyProof.Rows GenW L2
section
variable {X : Cx} {f tv : Addr}
theorem ArTurn.fp {pins : List (Addr × Obj)} {G : Gb} {a g i : Nat} {H : Hp} {s : Shared} {ap : List (Addr × Obj)} {gs : GenState} (T : ArT X G pins a g i H s ap gs) : ∀ b ∈ a :: ap.map (·.1), FpOk X pins H b ∧ b < s.heap.objs.size := fun b hb => by
  rcases List.mem_cons.mp hb with e | e
  · rw [e]
    obtain ⟨o, _, _, ho, _⟩ := T.gen
    exact ⟨T.ga, Heap.lt_size ho⟩
  · obtain ⟨p, hp, e⟩ := List.mem_map.mp e
    rw [← e]
    exact ⟨(T.pin p hp).2.1, Heap.lt_size (T.pin p hp).1⟩
end
end GP
namespace T2
open PySem L2

/-! ### the rows that all_rows hands out -/
def valD : Nat → D
  | 0 => .non
  | n + 1 => .int (n : Nat)
def rowD (i : Nat) : D := .tup [valD (i / 16), valD (i / 4 % 4), valD (i % 4)]
def rowsD : List D := (List.range 64).map rowD
def iRows : Env2 → MH → Res IV := fun _ M => .ok (.vals rowsD) M
section
variable {X : Cx} {g : Wd} {W : WY} {pos pf pc : Pos} {m : EM} {sts : List Stmt} {s1 : SM} {f tv : Addr}
theorem rep_val {F : List Addr} {H : Hp} : ∀ n : Nat, Rep g F H (valD n) (GP.vAt n)
  | 0 => .non
  | _ + 1 => .int _
theorem rowsD_len : rowsD.length = 64 := by unfold rowsD; simp
theorem rowsD_get {i : Nat} (h : i < 64) : rowsD[i]? = some (rowD i) := by unfold rowsD; simp [h]
theorem itV_rows {F : List Addr} {H : Hp} : ItV g GP.Jrows F H rowsD where
  go := fun F' H' i gr hi => by rw [rowsD_len] at hi; exact hi
  yld := fun F' H' i z H2 gr hi hy => by
    rw [rowsD_len] at hi
    obtain ⟨q, rfl, hq, rfl⟩ := hy
    exact ⟨upd_keeps hq, _, rowsD_get hi, .tup (SqT.of upd_same) (.cons (rep_val _) (.cons (rep_val _) (.cons (rep_val _) .nil)))⟩
  stop := fun F' H' i gr hi => by rw [rowsD_len] at hi; exact hi
theorem itSim_rows : ItSim g W iRows GP.tRows := fun σ H F e M R RS q => q F H _ .same RS.m itV_rows
variable {elt tgE : Expr} {ifs : List Expr} {scope : Scope} {own : List (Str × Nat)} {tt : BM}
end
end T2
namespace T2
open PySem L2

/-! ### values, rows, truth values, conditions, as plain Lean -/
inductive C3 where
  | z | o | t
deriving DecidableEq, Repr
def C3.i : C3 → Int
  | .z => 0
  | .o => 1
  | .t => 2
abbrev Vl := Option C3
def Vl.d : Vl → D
  | none => .non
  | some c => .int c.i
structure Rw where
  x : Vl
  y : Vl
  z : Vl
deriving DecidableEq, Repr
def Rw.d (r : Rw) : D := .tup [Vl.d r.x, Vl.d r.y, Vl.d r.z]
def Rw.at (r : Rw) : C3 → Vl
  | .z => r.x
  | .o => r.y
  | .t => r.z
inductive T4 where
  | f | u | t | e
deriving DecidableEq, Repr
def T4.i : T4 → Int
  | .f => 0
  | .u => 1
  | .t => 2
  | .e => 3
inductive Cnd where
  | alw
  | unk (c : C3)
  | eql (c v : C3)
  | blw (c v : C3)
  | quo (c d v : C3)
  | no (x : Cnd)
  | an (x y : Cnd)
  | orr (x y : Cnd)
deriving DecidableEq
def Cnd.d : Cnd → D
  | .alw => .tup [.str "always"]
  | .unk c => .tup [.str "unknown", .int c.i]
  | .eql c v => .tup [.str "equal", .int c.i, .int v.i]
  | .blw c v => .tup [.str "below", .int c.i, .int v.i]
  | .quo c d v => .tup [.str "quotient", .int c.i, .int d.i, .int v.i]
  | .no x => .tup [.str "not", x.d]
  | .an x y => .tup [.str "and", x.d, y.d]
  | .orr x y => .tup [.str "or", x.d, y.d]
/-- levels -/
def Cnd.lv : Cnd → Nat
  | .no x => x.lv + 1
  | .an x y => max x.lv y.lv + 1
  | .orr x y => max x.lv y.lv + 1
  | _ => 1
/-- has a quotient -/
def Cnd.hq : Cnd → Bool
  | .quo .. => true
  | .no x => x.hq
  | .an x y => x.hq || y.hq
  | .orr x y => x.hq || y.hq
  | _ => false
def T4.no : T4 → T4
  | .f => .t
  | .u => .u
  | .t => .f
  | .e => .e
def T4.an : T4 → T4 → T4
  | .f, _ => .f
  | .e, _ => .e
  | _, .e => .e
  | _, .f => .f
  | .t, .t => .t
  | _, _ => .u
def T4.or : T4 → T4 → T4
  | .t, _ => .t
  | .e, _ => .e
  | _, .e => .e
  | _, .t => .t
  | .f, .f => .f
  | _, _ => .u
def T4.ob (b : Bool) : T4 := if b then .t else .f
/-- what a condition is for a row -/
def Cnd.ev (r : Rw) : Cnd → T4
  | .alw => .t
  | .unk c => .ob (r.at c).isNone
  | .eql c v => match r.at c with
    | none => .u
    | some a => .ob (a.i == v.i)
  | .blw c v => match r.at c with
    | none => .u
    | some a => .ob (decide (a.i < v.i))
  | .quo c d v => match r.at d with
    | some .z => .e
    | none => .u
    | some b => match r.at c with
      | none => .u
      | some a => .ob (a.i / b.i == v.i)
  | .no x => (x.ev r).no
  | .an x y => (x.ev r).an (y.ev r)
  | .orr x y => (x.ev r).or (y.ev r)
theorem ev_noq {r : Rw} : ∀ {c : Cnd}, c.hq = false → c.ev r ≠ .e
  | .alw, _ => by unfold Cnd.ev; decide
  | .unk c, _ => by unfold Cnd.ev T4.ob; split <;> decide
  | .eql c v, _ => by unfold Cnd.ev; split <;> (try unfold T4.ob; split) <;> decide
  | .blw c v, _ => by unfold Cnd.ev; split <;> (try unfold T4.ob; split) <;> decide
  | .no x, h => by
    have := ev_noq (r := r) (c := x) h
    unfold Cnd.ev
    cases h2 : x.ev r <;> first | exact absurd h2 this | decide
  | .an x y, h => by
    unfold Cnd.hq at h
    rw [Bool.or_eq_false_iff] at h
    have h1 := ev_noq (r := r) (c := x) h.1
    have h2 := ev_noq (r := r) (c := y) h.2
    unfold Cnd.ev
    cases e1 : x.ev r <;> cases e2 : y.ev r <;> first | exact absurd e1 h1 | exact absurd e2 h2 | decide
  | .orr x y, h => by
    unfold Cnd.hq at h
    rw [Bool.or_eq_false_iff] at h
    have h1 := ev_noq (r := r) (c := x) h.1
    have h2 := ev_noq (r := r) (c := y) h.2
    unfold Cnd.ev
    cases e1 : x.ev r <;> cases e2 : y.ev r <;> first | exact absurd e1 h1 | exact absurd e2 h2 | decide
def vls : List Vl := [none, some .z, some .o, some .t]
def rowsR : List Rw := vls.flatMap fun x => vls.flatMap fun y => vls.map fun z => ⟨x, y, z⟩
theorem rowsR_len : rowsR.length = 64 := by decide
theorem mem_rowsR (r : Rw) : r ∈ rowsR := by
  obtain ⟨x, y, z⟩ := r
  rcases x with _ | _ | _ | _ <;> rcases y with _ | _ | _ | _ <;> rcases z with _ | _ | _ | _ <;> decide
theorem rowsD_R : rowsD = rowsR.map Rw.d := by kernel_rfl
theorem Vl.d_inj {a b : Vl} (h : Vl.d a = Vl.d b) : a = b := by
  rcases a with _ | _ | _ | _ <;> rcases b with _ | _ | _ | _ <;> first | rfl | (unfold Vl.d C3.i at h; simp at h)
theorem Rw.d_inj {a b : Rw} (h : a.d = b.d) : a = b := by
  unfold Rw.d at h
  simp only [D.tup.injEq, List.cons.injEq, and_true] at h
  obtain ⟨h1, h2, h3⟩ := h
  cases a; cases b
  simp only at h1 h2 h3
  rw [Vl.d_inj h1, Vl.d_inj h2, Vl.d_inj h3]
end T2
namespace T2
open PySem L2
def rankN : List Str := ["rank"]
def jointsD : D := .tup [.str "not", .str "and", .str "or"]
def xvZero : List D → List D := fun ds => [.tup [(.str "refused"), (.str "zero")]]
def invB (cT : Nat) : SM :=
    sRet (eMakeF cT rankN (eCons (eBin dSub (eC (.int 2)) (eUn (dFld [cT] "rank") (eVar 0))) (eNil)))
def invM (cT : Nat) : List D → MH → Res D := fnB 1 (invB cT)
def andB (cT : Nat) (isi : Tg → Tg → Option Bool) : SM :=
    sSeq (sIf (bNot (bVal (eArgs (dIsi isi) (eCons (eVar 1) (eCons (eC (.cls cT)) (eNil))))))
    (sRet (eBad))
    (sNil))
    (sSeq (sIf (bVal (eBin dLt (eUn (dFld [cT] "rank") (eVar 1)) (eUn (dFld [cT] "rank") (eVar 0))))
    (sRet (eMakeF cT rankN (eCons (eUn (dFld [cT] "rank") (eVar 1)) (eNil))))
    (sNil))
    (sRet (eMakeF cT rankN (eCons (eUn (dFld [cT] "rank") (eVar 0)) (eNil)))))
def andM (cT : Nat) (isi : Tg → Tg → Option Bool) : List D → MH → Res D := fnB 2 (andB cT isi)
def orB (cT : Nat) (isi : Tg → Tg → Option Bool) : SM :=
    sSeq (sIf (bNot (bVal (eArgs (dIsi isi) (eCons (eVar 1) (eCons (eC (.cls cT)) (eNil))))))
    (sRet (eBad))
    (sNil))
    (sSeq (sIf (bVal (eBin dLt (eUn (dFld [cT] "rank") (eVar 0)) (eUn (dFld [cT] "rank") (eVar 1))))
    (sRet (eMakeF cT rankN (eCons (eUn (dFld [cT] "rank") (eVar 1)) (eNil))))
    (sNil))
    (sRet (eMakeF cT rankN (eCons (eUn (dFld [cT] "rank") (eVar 0)) (eNil)))))
def orM (cT : Nat) (isi : Tg → Tg → Option Bool) : List D → MH → Res D := fnB 2 (orB cT isi)
def ofB (cT : Nat) : SM :=
    sSeq (sIf (bVal (eBin dIs (eVar 0) (eC .non)))
    (sRet (eMakeF cT rankN (eCons (eC (.int 1)) (eNil))))
    (sNil))
    (sSeq (sIf (bVal (eVar 0))
    (sRet (eMakeF cT rankN (eCons (eC (.int 2)) (eNil))))
    (sNil))
    (sRet (eMakeF cT rankN (eCons (eC (.int 0)) (eNil)))))
def ofM (cT : Nat) : List D → MH → Res D := fnB 1 (ofB cT)
def quotB (cT cZ : Nat) : SM :=
    sSeq (sSet 2 (eBin dIxA (eVar 1) (eBin dIxA (eVar 0) (eC (.int 1)))))
    (sSeq (sSet 3 (eBin dIxA (eVar 1) (eBin dIxA (eVar 0) (eC (.int 2)))))
    (sSeq (sIf (bVal (eBin dEq (eVar 3) (eC (.int 0))))
    (sRaiseX cZ 0 ["told"] xvZero (eNil))
    (sNil))
    (sSeq (sIf (bOr (bVal (eBin dIs (eVar 2) (eC .non))) (bVal (eBin dIs (eVar 3) (eC .non))))
    (sRet (eMakeF cT rankN (eCons (eC (.int 1)) (eNil))))
    (sNil))
    (sRet (eStat cT 1 (ofM cT) (eCons (eBin dEq (eBin dDiv (eVar 2) (eVar 3)) (eBin dIxA (eVar 0) (eC (.int 3)))) (eNil)))))))
def quotM (cT cZ : Nat) : List D → MH → Res D := fnB 4 (quotB cT cZ)
def joinedB (cT : Nat) (isi : Tg → Tg → Option Bool) (self : List D → MH → Res D) : SM :=
    sSeq (sSet 2 (eCall 2 self (eCons (eBin dIxA (eVar 0) (eC (.int 1))) (eCons (eVar 1) (eNil)))))
    (sSeq (sIf (bVal (eBin dEq (eBin dIxA (eVar 0) (eC (.int 0))) (eC (.str "and"))))
    (sSeq (sIf (bVal (eBin dEq (eUn (dFld [cT] "rank") (eVar 2)) (eC (.int 0))))
    (sRet (eVar 2))
    (sNil))
    (sRet (eOwn2 cT (andM cT isi) (eVar 2) (eCall 2 self (eCons (eBin dIxA (eVar 0) (eC (.int 2))) (eCons (eVar 1) (eNil)))))))
    (sNil))
    (sSeq (sIf (bVal (eBin dEq (eUn (dFld [cT] "rank") (eVar 2)) (eC (.int 2))))
    (sRet (eVar 2))
    (sNil))
    (sRet (eOwn2 cT (orM cT isi) (eVar 2) (eCall 2 self (eCons (eBin dIxA (eVar 0) (eC (.int 2))) (eCons (eVar 1) (eNil))))))))
def joinedM (cT : Nat) (isi : Tg → Tg → Option Bool) (self : List D → MH → Res D) : List D → MH → Res D := fnB 3 (joinedB cT isi self)
def truthB (cT cZ : Nat) (isi : Tg → Tg → Option Bool) (self : List D → MH → Res D) : SM :=
    sSeq (sSet 2 (eBin dIxA (eVar 0) (eC (.int 0))))
    (sSeq (sIf (bVal (eBin dEq (eVar 2) (eC (.str "always"))))
    (sRet (eMakeF cT rankN (eCons (eC (.int 2)) (eNil))))
    (sNil))
    (sSeq (sIf (bVal (eBin dEq (eVar 2) (eC (.str "not"))))
    (sRet (eOwn1 cT (invM cT) (eCall 2 self (eCons (eBin dIxA (eVar 0) (eC (.int 1))) (eCons (eVar 1) (eNil))))))
    (sNil))
    (sSeq (sIf (bVal (eBin dInA (eVar 2) (eC jointsD)))
    (sRet (eCall 2 (joinedM cT isi self) (eCons (eVar 0) (eCons (eVar 1) (eNil)))))
    (sNil))
    (sSeq (sIf (bVal (eBin dEq (eVar 2) (eC (.str "quotient"))))
    (sRet (eCall 2 (quotM cT cZ) (eCons (eVar 0) (eCons (eVar 1) (eNil)))))
    (sNil))
    (sSeq (sSet 3 (eBin dIxA (eVar 1) (eBin dIxA (eVar 0) (eC (.int 1)))))
    (sSeq (sIf (bVal (eBin dEq (eVar 2) (eC (.str "unknown"))))
    (sRet (eStat cT 1 (ofM cT) (eCons (eBin dIs (eVar 3) (eC .non)) (eNil))))
    (sNil))
    (sSeq (sIf (bVal (eBin dIs (eVar 3) (eC .non)))
    (sRet (eMakeF cT rankN (eCons (eC (.int 1)) (eNil))))
    (sNil))
    (sSeq (sIf (bVal (eBin dEq (eVar 2) (eC (.str "equal"))))
    (sRet (eStat cT 1 (ofM cT) (eCons (eBin dEq (eVar 3) (eBin dIxA (eVar 0) (eC (.int 2)))) (eNil))))
    (sNil))
    (sRet (eStat cT 1 (ofM cT) (eCons (eBin dLt (eVar 3) (eBin dIxA (eVar 0) (eC (.int 2)))) (eNil))))))))))))
def truthM (cT cZ : Nat) (isi : Tg → Tg → Option Bool) : Nat → List D → MH → Res D
  | 0 => fun _ _ => .bad
  | n + 1 => fnB 4 (truthB cT cZ isi (truthM cT cZ isi n))
def lawTruthB (self : List D → MH → Res D) : SM :=
    sSeq (sSet 2 (eBin dIxA (eVar 0) (eC (.int 0))))
    (sSeq (sIf (bVal (eBin dEq (eVar 2) (eC (.str "always"))))
    (sRet (eC (.int 2)))
    (sNil))
    (sSeq (sIf (bVal (eBin dEq (eVar 2) (eC (.str "not"))))
    (sSeq (sSet 3 (eCall 2 self (eCons (eBin dIxA (eVar 0) (eC (.int 1))) (eCons (eVar 1) (eNil)))))
    (sRet (eIf (bVal (eBin dEq (eVar 3) (eC (.int 3)))) (eC (.int 3)) (eBin dSub (eC (.int 2)) (eVar 3)))))
    (sNil))
    (sSeq (sIf (bOr (bVal (eBin dEq (eVar 2) (eC (.str "and")))) (bVal (eBin dEq (eVar 2) (eC (.str "or")))))
    (sSeq (sSet 4 (eIf (bVal (eBin dEq (eVar 2) (eC (.str "and")))) (eC (.int 0)) (eC (.int 2))))
    (sSeq (sSet 5 (eCall 2 self (eCons (eBin dIxA (eVar 0) (eC (.int 1))) (eCons (eVar 1) (eNil)))))
    (sSeq (sIf (bOr (bVal (eBin dEq (eVar 5) (eVar 4))) (bVal (eBin dEq (eVar 5) (eC (.int 3)))))
    (sRet (eVar 5))
    (sNil))
    (sSeq (sSet 6 (eCall 2 self (eCons (eBin dIxA (eVar 0) (eC (.int 2))) (eCons (eVar 1) (eNil)))))
    (sSeq (sIf (bOr (bVal (eBin dEq (eVar 6) (eC (.int 3)))) (bVal (eBin dEq (eVar 6) (eVar 4))))
    (sRet (eVar 6))
    (sNil))
    (sRet (eIf (bOr (bVal (eBin dEq (eVar 5) (eC (.int 1)))) (bVal (eBin dEq (eVar 6) (eC (.int 1))))) (eC (.int 1)) (eVar 6))))))))
    (sNil))
    (sSeq (sSet 7 (eBin dIxA (eVar 1) (eBin dIxA (eVar 0) (eC (.int 1)))))
    (sSeq (sIf (bVal (eBin dEq (eVar 2) (eC (.str "quotient"))))
    (sSeq (sSet 8 (eBin dIxA (eVar 1) (eBin dIxA (eVar 0) (eC (.int 2)))))
    (sSeq (sIf (bVal (eBin dEq (eVar 8) (eC (.int 0))))
    (sRet (eC (.int 3)))
    (sNil))
    (sSeq (sIf (bOr (bVal (eBin dIs (eVar 7) (eC .non))) (bVal (eBin dIs (eVar 8) (eC .non))))
    (sRet (eC (.int 1)))
    (sNil))
    (sRet (eIf (bVal (eBin dEq (eBin dDiv (eVar 7) (eVar 8)) (eBin dIxA (eVar 0) (eC (.int 3))))) (eC (.int 2)) (eC (.int 0)))))))
    (sNil))
    (sSeq (sIf (bVal (eBin dEq (eVar 2) (eC (.str "unknown"))))
    (sRet (eIf (bVal (eBin dIs (eVar 7) (eC .non))) (eC (.int 2)) (eC (.int 0))))
    (sNil))
    (sSeq (sIf (bVal (eBin dIs (eVar 7) (eC .non)))
    (sRet (eC (.int 1)))
    (sNil))
    (sSeq (sIf (bVal (eBin dEq (eVar 2) (eC (.str "equal"))))
    (sRet (eIf (bVal (eBin dEq (eVar 7) (eBin dIxA (eVar 0) (eC (.int 2))))) (eC (.int 2)) (eC (.int 0))))
    (sNil))
    (sRet (eIf (bVal (eBin dLt (eVar 7) (eBin dIxA (eVar 0) (eC (.int 2))))) (eC (.int 2)) (eC (.int 0))))))))))))
def lawTruthM : Nat → List D → MH → Res D
  | 0 => fun _ _ => .bad
  | n + 1 => fnB 9 (lawTruthB (lawTruthM n))
def lawCondT (self : List D → MH → Res D) : SM :=
    sSeq (sSet 4 (eCall 2 drawM (eCons (eVar 0) (eCons (eC (.int 3)) (eNil)))))
    (sSeq (sSet 3 (eCall 2 drawM (eCons (eVar 0) (eCons (eBin dAdd (eC (.int 8)) (eBin dMul (eC (.int 3)) (eVar 2))) (eNil)))))
    (sSeq (sIf (bVal (eBin dLt (eVar 3) (eC (.int 4))))
    (sRet (eTup (eCons (eC (.str "equal")) (eCons (eVar 4) (eCons (eCall 2 drawM (eCons (eVar 0) (eCons (eC (.int 3)) (eNil)))) (eNil))))))
    (sNil))
    (sSeq (sIf (bVal (eBin dEq (eVar 3) (eC (.int 4))))
    (sRet (eTup (eCons (eC (.str "below")) (eCons (eVar 4) (eCons (eCall 2 drawM (eCons (eVar 0) (eCons (eC (.int 3)) (eNil)))) (eNil))))))
    (sNil))
    (sSeq (sIf (bVal (eBin dLt (eVar 3) (eC (.int 7))))
    (sRet (eTup (eCons (eC (.str "unknown")) (eCons (eVar 4) (eNil)))))
    (sNil))
    (sSeq (sIf (bVal (eBin dEq (eVar 3) (eC (.int 7))))
    (sRet (eTup (eCons (eC (.str "always")) (eNil))))
    (sNil))
    (sRet (eTup (eCons (eC (.str "quotient")) (eCons (eVar 4) (eCons (eCall 2 drawM (eCons (eVar 0) (eCons (eC (.int 3)) (eNil)))) (eCons (eCall 2 drawM (eCons (eVar 0) (eCons (eC (.int 3)) (eNil)))) (eNil))))))))))))
def lawCondB (self : List D → MH → Res D) : SM :=
    sSeq (sSet 3 (eCall 2 drawM (eCons (eVar 0) (eCons (eC (.int 6)) (eNil)))))
    (sSeq (sIf (bAnd (bVal (eBin dGt (eVar 1) (eC (.int 1)))) (bVal (eBin dLt (eVar 3) (eC (.int 2)))))
    (sSeq (sSet 3 (eBin dIxA (eTup (eCons (eC (.str "and")) (eCons (eC (.str "or")) (eNil)))) (eVar 3)))
    (sRet (eTup (eCons (eVar 3) (eCons (eCall 3 self (eCons (eVar 0) (eCons (eBin dSub (eVar 1) (eC (.int 1))) (eCons (eVar 2) (eNil))))) (eCons (eCall 3 self (eCons (eVar 0) (eCons (eBin dSub (eVar 1) (eC (.int 1))) (eCons (eVar 2) (eNil))))) (eNil)))))))
    (sNil))
    (sSeq (sIf (bAnd (bVal (eBin dGt (eVar 1) (eC (.int 1)))) (bVal (eBin dEq (eVar 3) (eC (.int 2)))))
    (sRet (eTup (eCons (eC (.str "not")) (eCons (eCall 3 self (eCons (eVar 0) (eCons (eBin dSub (eVar 1) (eC (.int 1))) (eCons (eVar 2) (eNil))))) (eNil)))))
    (sNil))
    (lawCondT self)))
def lawCondM : Nat → List D → MH → Res D
  | 0 => fun _ _ => .bad
  | n + 1 => fnB 5 (lawCondB (lawCondM n))
/-! ### words -/
theorem we_always_always {M : MH} : dEq (.str "always") (.str "always") M = .ok (.bl true) M := by kernel_rfl
theorem we_always_not {M : MH} : dEq (.str "always") (.str "not") M = .ok (.bl false) M := by kernel_rfl
theorem we_always_and {M : MH} : dEq (.str "always") (.str "and") M = .ok (.bl false) M := by kernel_rfl
theorem we_always_or {M : MH} : dEq (.str "always") (.str "or") M = .ok (.bl false) M := by kernel_rfl
theorem we_always_quotient {M : MH} : dEq (.str "always") (.str "quotient") M = .ok (.bl false) M := by kernel_rfl
theorem we_always_unknown {M : MH} : dEq (.str "always") (.str "unknown") M = .ok (.bl false) M := by kernel_rfl
theorem we_always_equal {M : MH} : dEq (.str "always") (.str "equal") M = .ok (.bl false) M := by kernel_rfl
theorem we_not_always {M : MH} : dEq (.str "not") (.str "always") M = .ok (.bl false) M := by kernel_rfl
theorem we_not_not {M : MH} : dEq (.str "not") (.str "not") M = .ok (.bl true) M := by kernel_rfl
theorem we_not_and {M : MH} : dEq (.str "not") (.str "and") M = .ok (.bl false) M := by kernel_rfl
theorem we_not_or {M : MH} : dEq (.str "not") (.str "or") M = .ok (.bl false) M := by kernel_rfl
theorem we_not_quotient {M : MH} : dEq (.str "not") (.str "quotient") M = .ok (.bl false) M := by kernel_rfl
theorem we_not_unknown {M : MH} : dEq (.str "not") (.str "unknown") M = .ok (.bl false) M := by kernel_rfl
theorem we_not_equal {M : MH} : dEq (.str "not") (.str "equal") M = .ok (.bl false) M := by kernel_rfl
theorem we_and_always {M : MH} : dEq (.str "and") (.str "always") M = .ok (.bl false) M := by kernel_rfl
theorem we_and_not {M : MH} : dEq (.str "and") (.str "not") M = .ok (.bl false) M := by kernel_rfl
theorem we_and_and {M : MH} : dEq (.str "and") (.str "and") M = .ok (.bl true) M := by kernel_rfl
theorem we_and_or {M : MH} : dEq (.str "and") (.str "or") M = .ok (.bl false) M := by kernel_rfl
theorem we_and_quotient {M : MH} : dEq (.str "and") (.str "quotient") M = .ok (.bl false) M := by kernel_rfl
theorem we_and_unknown {M : MH} : dEq (.str "and") (.str "unknown") M = .ok (.bl false) M := by kernel_rfl
theorem we_and_equal {M : MH} : dEq (.str "and") (.str "equal") M = .ok (.bl false) M := by kernel_rfl
theorem we_or_always {M : MH} : dEq (.str "or") (.str "always") M = .ok (.bl false) M := by kernel_rfl
theorem we_or_not {M : MH} : dEq (.str "or") (.str "not") M = .ok (.bl false) M := by kernel_rfl
theorem we_or_and {M : MH} : dEq (.str "or") (.str "and") M = .ok (.bl false) M := by kernel_rfl
theorem we_or_or {M : MH} : dEq (.str "or") (.str "or") M = .ok (.bl true) M := by kernel_rfl
theorem we_or_quotient {M : MH} : dEq (.str "or") (.str "quotient") M = .ok (.bl false) M := by kernel_rfl
theorem we_or_unknown {M : MH} : dEq (.str "or") (.str "unknown") M = .ok (.bl false) M := by kernel_rfl
theorem we_or_equal {M : MH} : dEq (.str "or") (.str "equal") M = .ok (.bl false) M := by kernel_rfl
theorem we_quotient_always {M : MH} : dEq (.str "quotient") (.str "always") M = .ok (.bl false) M := by kernel_rfl
theorem we_quotient_not {M : MH} : dEq (.str "quotient") (.str "not") M = .ok (.bl false) M := by kernel_rfl
theorem we_quotient_and {M : MH} : dEq (.str "quotient") (.str "and") M = .ok (.bl false) M := by kernel_rfl
theorem we_quotient_or {M : MH} : dEq (.str "quotient") (.str "or") M = .ok (.bl false) M := by kernel_rfl
theorem we_quotient_quotient {M : MH} : dEq (.str "quotient") (.str "quotient") M = .ok (.bl true) M := by kernel_rfl
theorem we_quotient_unknown {M : MH} : dEq (.str "quotient") (.str "unknown") M = .ok (.bl false) M := by kernel_rfl
theorem we_quotient_equal {M : MH} : dEq (.str "quotient") (.str "equal") M = .ok (.bl false) M := by kernel_rfl
theorem we_unknown_always {M : MH} : dEq (.str "unknown") (.str "always") M = .ok (.bl false) M := by kernel_rfl
theorem we_unknown_not {M : MH} : dEq (.str "unknown") (.str "not") M = .ok (.bl false) M := by kernel_rfl
theorem we_unknown_and {M : MH} : dEq (.str "unknown") (.str "and") M = .ok (.bl false) M := by kernel_rfl
theorem we_unknown_or {M : MH} : dEq (.str "unknown") (.str "or") M = .ok (.bl false) M := by kernel_rfl
theorem we_unknown_quotient {M : MH} : dEq (.str "unknown") (.str "quotient") M = .ok (.bl false) M := by kernel_rfl
theorem we_unknown_unknown {M : MH} : dEq (.str "unknown") (.str "unknown") M = .ok (.bl true) M := by kernel_rfl
theorem we_unknown_equal {M : MH} : dEq (.str "unknown") (.str "equal") M = .ok (.bl false) M := by kernel_rfl
theorem we_equal_always {M : MH} : dEq (.str "equal") (.str "always") M = .ok (.bl false) M := by kernel_rfl
theorem we_equal_not {M : MH} : dEq (.str "equal") (.str "not") M = .ok (.bl false) M := by kernel_rfl
theorem we_equal_and {M : MH} : dEq (.str "equal") (.str "and") M = .ok (.bl false) M := by kernel_rfl
theorem we_equal_or {M : MH} : dEq (.str "equal") (.str "or") M = .ok (.bl false) M := by kernel_rfl
theorem we_equal_quotient {M : MH} : dEq (.str "equal") (.str "quotient") M = .ok (.bl false) M := by kernel_rfl
theorem we_equal_unknown {M : MH} : dEq (.str "equal") (.str "unknown") M = .ok (.bl false) M := by kernel_rfl
theorem we_equal_equal {M : MH} : dEq (.str "equal") (.str "equal") M = .ok (.bl true) M := by kernel_rfl
theorem we_below_always {M : MH} : dEq (.str "below") (.str "always") M = .ok (.bl false) M := by kernel_rfl
theorem we_below_not {M : MH} : dEq (.str "below") (.str "not") M = .ok (.bl false) M := by kernel_rfl
theorem we_below_and {M : MH} : dEq (.str "below") (.str "and") M = .ok (.bl false) M := by kernel_rfl
theorem we_below_or {M : MH} : dEq (.str "below") (.str "or") M = .ok (.bl false) M := by kernel_rfl
theorem we_below_quotient {M : MH} : dEq (.str "below") (.str "quotient") M = .ok (.bl false) M := by kernel_rfl
theorem we_below_unknown {M : MH} : dEq (.str "below") (.str "unknown") M = .ok (.bl false) M := by kernel_rfl
theorem we_below_equal {M : MH} : dEq (.str "below") (.str "equal") M = .ok (.bl false) M := by kernel_rfl
theorem wj_always {M : MH} : dInA (.str "always") jointsD M = .ok (.bl false) M := by kernel_rfl
theorem wj_not {M : MH} : dInA (.str "not") jointsD M = .ok (.bl true) M := by kernel_rfl
theorem wj_and {M : MH} : dInA (.str "and") jointsD M = .ok (.bl true) M := by kernel_rfl
theorem wj_or {M : MH} : dInA (.str "or") jointsD M = .ok (.bl true) M := by kernel_rfl
theorem wj_quotient {M : MH} : dInA (.str "quotient") jointsD M = .ok (.bl false) M := by kernel_rfl
theorem wj_unknown {M : MH} : dInA (.str "unknown") jointsD M = .ok (.bl false) M := by kernel_rfl
theorem wj_equal {M : MH} : dInA (.str "equal") jointsD M = .ok (.bl false) M := by kernel_rfl
theorem wj_below {M : MH} : dInA (.str "below") jointsD M = .ok (.bl false) M := by kernel_rfl
theorem ixT {l : List D} {i : Nat} {d : D} {M : MH} (h : l[i]? = some d) : dIxA (.tup l) (.int i) M = .ok d M := by
  have hl : i < l.length := (List.getElem?_eq_some_iff.mp h).1
  have ha : atI l (i : Int) = some d := by
    unfold atI ixN
    rw [if_pos (by omega), if_pos (by omega)]
    exact h
  unfold dIxA dIx items
  dsimp only
  rw [ha]
theorem ixT0 {a : D} {l : List D} {M : MH} : dIxA (.tup (a :: l)) (.int 0) M = .ok a M := ixT (i := 0) rfl
theorem ixT1 {a b : D} {l : List D} {M : MH} : dIxA (.tup (a :: b :: l)) (.int 1) M = .ok b M := ixT (i := 1) rfl
theorem ixT2 {a b c : D} {l : List D} {M : MH} : dIxA (.tup (a :: b :: c :: l)) (.int 2) M = .ok c M := ixT (i := 2) rfl
theorem ixT3 {a b c d : D} {l : List D} {M : MH} : dIxA (.tup (a :: b :: c :: d :: l)) (.int 3) M = .ok d M := ixT (i := 3) rfl
theorem add_i {i j : Int} {M : MH} : dAdd (.int i) (.int j) M = .ok (.int (i + j)) M := rfl
theorem sub_i {i j : Int} {M : MH} : dSub (.int i) (.int j) M = .ok (.int (i - j)) M := rfl
theorem lt_i {i j : Int} {M : MH} : dLt (.int i) (.int j) M = .ok (.bl (decide (i < j))) M := rfl
theorem gt_i {i j : Int} {M : MH} : dGt (.int i) (.int j) M = .ok (.bl (decide (j < i))) M := rfl
/-! ### the program's truth -/
def tv (cT : Nat) (r : Int) : D := .ins cT rankN [.int r]
def zeroX (cZ : Nat) (M : MH) : Res D := .exc cZ ["told"] [.tup [.str "refused", .str "zero"]] M
def resT (cT cZ : Nat) : T4 → MH → Res D
  | .f, M => .ok (tv cT 0) M
  | .u, M => .ok (tv cT 1) M
  | .t, M => .ok (tv cT 2) M
  | .e, M => zeroX cZ M
section
variable {cT cZ : Nat} {isi : Tg → Tg → Option Bool} {r : Rw} {k : Nat} {M : MH}
theorem rank_tv {r : Int} {M : MH} : dFld [cT] "rank" (tv cT r) M = .ok (.int r) M := by
  unfold dFld tv instOf
  dsimp only
  rw [if_pos (by simp)]
  kernel_rfl
theorem own1_tv {f : List D → MH → Res D} {r : Int} {M : MH} : fOwn1 cT f (tv cT r) M = f [tv cT r] M := if_pos rfl
theorem own2_tv {f : List D → MH → Res D} {r q : Int} {M : MH} : fOwn2 cT f (tv cT r) (tv cT q) M = f [tv cT r, tv cT q] M := z_own2_ok
theorem mk_tv {i : Int} {M : MH} : fMakeF cT rankN [.int i] M = .ok (tv cT i) M := z_mkF_ok rfl
theorem inv_tv {r : Int} {M : MH} : invM cT [tv cT r] M = .ok (tv cT (2 - r)) M := by
  unfold invM
  rw [z_fn, invB]
  simp only [z_seq, z_seq_nx, z_seq_rt, z_seq_ex, z_seq_bk, z_seq_ct, z_if, z_if_t, z_if_f, z_if_x, z_set, z_set_ok, z_set_x, z_ret, z_ret_ok, z_ret_x, z_retN, z_do, z_do_ok, z_do_x, z_nil, z_raise0, z_raise, z_raise_ok, z_toR_rt, z_toR_nx, z_toR_ex, z_c, z_var, z_var_ok, z_un, z_un_ok, z_un_x, z_bin, z_bin_ok, z_bin_x, z_anil, z_cons, z_cons1, z_cons1x, z_cons2, z_cons2x, z_args, z_args_ok, z_args_x, z_tup, z_tup_ok, z_fro, z_fro_ok, z_lst, z_lst_ok, z_call, z_stat, z_call_ok, z_callk, z_callk1, z_callk2, z_mkF, z_mkF_ok, z_own1, z_own1_ok, z_prop, z_own2, z_own2_ok, z_val, z_val_ok, z_val_x, z_and, z_and_t, z_and_f, z_or, z_or_t, z_or_f, z_not, z_not_ok, z_yes, z_eand, z_eand_t, z_eand_f, z_eor, z_eor_t, z_eor_f, z_enot, z_enot_ok, z_eif, z_eif_t, z_eif_f, z_for, z_for_v, z_iseq, z_iseq_t, z_iseq_f, z_iseq_r, z_rng, z_rng_ok, z_env0, z_try, z_try_nx, z_try_rt, z_try0, z_try0_nx, z_try0_rt, z_for_l, z_fv0, z_fv_nx, z_fv_ct, z_fv_rt, z_lc, z_lc_v, z_step, z_step_ok, z_istr, z_istr_ok, z_env0, List.map_cons, List.map_nil, List.replicate, List.append_nil, Nat.reduceSub, List.cons_append, List.nil_append, List.length_cons, List.length_nil, Nat.reduceAdd, Nat.reduceLeDiff, List.getElem?_cons_zero, List.getElem?_cons_succ, List.set_cons_zero, List.set_cons_succ, Bool.not_true, Bool.not_false, rank_tv, sub_i, mk_tv]
theorem isi_tv (hi : isi (.inr cT) (.inr cT) = some true) {r : Int} {M : MH} : dIsi isi [tv cT r, .cls cT] M = .ok (.bl true) M := by
  unfold dIsi
  dsimp only [clsTag, tagOf, tv]
  rw [hi]
theorem and_tv (hi : isi (.inr cT) (.inr cT) = some true) {r q : Int} {M : MH} : andM cT isi [tv cT r, tv cT q] M = .ok (tv cT (if q < r then q else r)) M := by
  unfold andM
  rw [z_fn, andB]
  by_cases h : q < r
  · rw [if_pos h]
    simp only [z_seq, z_seq_nx, z_seq_rt, z_seq_ex, z_seq_bk, z_seq_ct, z_if, z_if_t, z_if_f, z_if_x, z_set, z_set_ok, z_set_x, z_ret, z_ret_ok, z_ret_x, z_retN, z_do, z_do_ok, z_do_x, z_nil, z_raise0, z_raise, z_raise_ok, z_toR_rt, z_toR_nx, z_toR_ex, z_c, z_var, z_var_ok, z_un, z_un_ok, z_un_x, z_bin, z_bin_ok, z_bin_x, z_anil, z_cons, z_cons1, z_cons1x, z_cons2, z_cons2x, z_args, z_args_ok, z_args_x, z_tup, z_tup_ok, z_fro, z_fro_ok, z_lst, z_lst_ok, z_call, z_stat, z_call_ok, z_callk, z_callk1, z_callk2, z_mkF, z_mkF_ok, z_own1, z_own1_ok, z_prop, z_own2, z_own2_ok, z_val, z_val_ok, z_val_x, z_and, z_and_t, z_and_f, z_or, z_or_t, z_or_f, z_not, z_not_ok, z_yes, z_eand, z_eand_t, z_eand_f, z_eor, z_eor_t, z_eor_f, z_enot, z_enot_ok, z_eif, z_eif_t, z_eif_f, z_for, z_for_v, z_iseq, z_iseq_t, z_iseq_f, z_iseq_r, z_rng, z_rng_ok, z_env0, z_try, z_try_nx, z_try_rt, z_try0, z_try0_nx, z_try0_rt, z_for_l, z_fv0, z_fv_nx, z_fv_ct, z_fv_rt, z_lc, z_lc_v, z_step, z_step_ok, z_istr, z_istr_ok, z_env0, List.map_cons, List.map_nil, List.replicate, List.append_nil, Nat.reduceSub, List.cons_append, List.nil_append, List.length_cons, List.length_nil, Nat.reduceAdd, Nat.reduceLeDiff, List.getElem?_cons_zero, List.getElem?_cons_succ, List.set_cons_zero, List.set_cons_succ, Bool.not_true, Bool.not_false, rank_tv, mk_tv, isi_tv hi, lt_i, decide_eq_true h]
  · rw [if_neg h]
    simp only [z_seq, z_seq_nx, z_seq_rt, z_seq_ex, z_seq_bk, z_seq_ct, z_if, z_if_t, z_if_f, z_if_x, z_set, z_set_ok, z_set_x, z_ret, z_ret_ok, z_ret_x, z_retN, z_do, z_do_ok, z_do_x, z_nil, z_raise0, z_raise, z_raise_ok, z_toR_rt, z_toR_nx, z_toR_ex, z_c, z_var, z_var_ok, z_un, z_un_ok, z_un_x, z_bin, z_bin_ok, z_bin_x, z_anil, z_cons, z_cons1, z_cons1x, z_cons2, z_cons2x, z_args, z_args_ok, z_args_x, z_tup, z_tup_ok, z_fro, z_fro_ok, z_lst, z_lst_ok, z_call, z_stat, z_call_ok, z_callk, z_callk1, z_callk2, z_mkF, z_mkF_ok, z_own1, z_own1_ok, z_prop, z_own2, z_own2_ok, z_val, z_val_ok, z_val_x, z_and, z_and_t, z_and_f, z_or, z_or_t, z_or_f, z_not, z_not_ok, z_yes, z_eand, z_eand_t, z_eand_f, z_eor, z_eor_t, z_eor_f, z_enot, z_enot_ok, z_eif, z_eif_t, z_eif_f, z_for, z_for_v, z_iseq, z_iseq_t, z_iseq_f, z_iseq_r, z_rng, z_rng_ok, z_env0, z_try, z_try_nx, z_try_rt, z_try0, z_try0_nx, z_try0_rt, z_for_l, z_fv0, z_fv_nx, z_fv_ct, z_fv_rt, z_lc, z_lc_v, z_step, z_step_ok, z_istr, z_istr_ok, z_env0, List.map_cons, List.map_nil, List.replicate, List.append_nil, Nat.reduceSub, List.cons_append, List.nil_append, List.length_cons, List.length_nil, Nat.reduceAdd, Nat.reduceLeDiff, List.getElem?_cons_zero, List.getElem?_cons_succ, List.set_cons_zero, List.set_cons_succ, Bool.not_true, Bool.not_false, rank_tv, mk_tv, isi_tv hi, lt_i, decide_eq_false h]
theorem or_tv (hi : isi (.inr cT) (.inr cT) = some true) {r q : Int} {M : MH} : orM cT isi [tv cT r, tv cT q] M = .ok (tv cT (if r < q then q else r)) M := by
  unfold orM
  rw [z_fn, orB]
  by_cases h : r < q
  · rw [if_pos h]
    simp only [z_seq, z_seq_nx, z_seq_rt, z_seq_ex, z_seq_bk, z_seq_ct, z_if, z_if_t, z_if_f, z_if_x, z_set, z_set_ok, z_set_x, z_ret, z_ret_ok, z_ret_x, z_retN, z_do, z_do_ok, z_do_x, z_nil, z_raise0, z_raise, z_raise_ok, z_toR_rt, z_toR_nx, z_toR_ex, z_c, z_var, z_var_ok, z_un, z_un_ok, z_un_x, z_bin, z_bin_ok, z_bin_x, z_anil, z_cons, z_cons1, z_cons1x, z_cons2, z_cons2x, z_args, z_args_ok, z_args_x, z_tup, z_tup_ok, z_fro, z_fro_ok, z_lst, z_lst_ok, z_call, z_stat, z_call_ok, z_callk, z_callk1, z_callk2, z_mkF, z_mkF_ok, z_own1, z_own1_ok, z_prop, z_own2, z_own2_ok, z_val, z_val_ok, z_val_x, z_and, z_and_t, z_and_f, z_or, z_or_t, z_or_f, z_not, z_not_ok, z_yes, z_eand, z_eand_t, z_eand_f, z_eor, z_eor_t, z_eor_f, z_enot, z_enot_ok, z_eif, z_eif_t, z_eif_f, z_for, z_for_v, z_iseq, z_iseq_t, z_iseq_f, z_iseq_r, z_rng, z_rng_ok, z_env0, z_try, z_try_nx, z_try_rt, z_try0, z_try0_nx, z_try0_rt, z_for_l, z_fv0, z_fv_nx, z_fv_ct, z_fv_rt, z_lc, z_lc_v, z_step, z_step_ok, z_istr, z_istr_ok, z_env0, List.map_cons, List.map_nil, List.replicate, List.append_nil, Nat.reduceSub, List.cons_append, List.nil_append, List.length_cons, List.length_nil, Nat.reduceAdd, Nat.reduceLeDiff, List.getElem?_cons_zero, List.getElem?_cons_succ, List.set_cons_zero, List.set_cons_succ, Bool.not_true, Bool.not_false, rank_tv, mk_tv, isi_tv hi, lt_i, decide_eq_true h]
  · rw [if_neg h]
    simp only [z_seq, z_seq_nx, z_seq_rt, z_seq_ex, z_seq_bk, z_seq_ct, z_if, z_if_t, z_if_f, z_if_x, z_set, z_set_ok, z_set_x, z_ret, z_ret_ok, z_ret_x, z_retN, z_do, z_do_ok, z_do_x, z_nil, z_raise0, z_raise, z_raise_ok, z_toR_rt, z_toR_nx, z_toR_ex, z_c, z_var, z_var_ok, z_un, z_un_ok, z_un_x, z_bin, z_bin_ok, z_bin_x, z_anil, z_cons, z_cons1, z_cons1x, z_cons2, z_cons2x, z_args, z_args_ok, z_args_x, z_tup, z_tup_ok, z_fro, z_fro_ok, z_lst, z_lst_ok, z_call, z_stat, z_call_ok, z_callk, z_callk1, z_callk2, z_mkF, z_mkF_ok, z_own1, z_own1_ok, z_prop, z_own2, z_own2_ok, z_val, z_val_ok, z_val_x, z_and, z_and_t, z_and_f, z_or, z_or_t, z_or_f, z_not, z_not_ok, z_yes, z_eand, z_eand_t, z_eand_f, z_eor, z_eor_t, z_eor_f, z_enot, z_enot_ok, z_eif, z_eif_t, z_eif_f, z_for, z_for_v, z_iseq, z_iseq_t, z_iseq_f, z_iseq_r, z_rng, z_rng_ok, z_env0, z_try, z_try_nx, z_try_rt, z_try0, z_try0_nx, z_try0_rt, z_for_l, z_fv0, z_fv_nx, z_fv_ct, z_fv_rt, z_lc, z_lc_v, z_step, z_step_ok, z_istr, z_istr_ok, z_env0, List.map_cons, List.map_nil, List.replicate, List.append_nil, Nat.reduceSub, List.cons_append, List.nil_append, List.length_cons, List.length_nil, Nat.reduceAdd, Nat.reduceLeDiff, List.getElem?_cons_zero, List.getElem?_cons_succ, List.set_cons_zero, List.set_cons_succ, Bool.not_true, Bool.not_false, rank_tv, mk_tv, isi_tv hi, lt_i, decide_eq_false h]
theorem t_alw {row : D} : truthM cT cZ isi (k + 1) [Cnd.alw.d, row] M = resT cT cZ .t M := by kernel_rfl
theorem t_unk {c : C3} : truthM cT cZ isi (k + 1) [(Cnd.unk c).d, r.d] M = resT cT cZ ((Cnd.unk c).ev r) M := by
  obtain ⟨x, y, z⟩ := r
  cases c
  · rcases x with _ | _ | _ | _ <;> kernel_rfl
  · rcases y with _ | _ | _ | _ <;> kernel_rfl
  · rcases z with _ | _ | _ | _ <;> kernel_rfl
theorem t_eql {c v : C3} : truthM cT cZ isi (k + 1) [(Cnd.eql c v).d, r.d] M = resT cT cZ ((Cnd.eql c v).ev r) M := by
  obtain ⟨x, y, z⟩ := r
  cases c
  · cases v <;> rcases x with _ | _ | _ | _ <;> kernel_rfl
  · cases v <;> rcases y with _ | _ | _ | _ <;> kernel_rfl
  · cases v <;> rcases z with _ | _ | _ | _ <;> kernel_rfl
theorem t_blw {c v : C3} : truthM cT cZ isi (k + 1) [(Cnd.blw c v).d, r.d] M = resT cT cZ ((Cnd.blw c v).ev r) M := by
  obtain ⟨x, y, z⟩ := r
  cases c
  · cases v <;> rcases x with _ | _ | _ | _ <;> kernel_rfl
  · cases v <;> rcases y with _ | _ | _ | _ <;> kernel_rfl
  · cases v <;> rcases z with _ | _ | _ | _ <;> kernel_rfl
theorem t_quo {c d v : C3} : truthM cT cZ isi (k + 1) [(Cnd.quo c d v).d, r.d] M = resT cT cZ ((Cnd.quo c d v).ev r) M := by
  obtain ⟨x, y, z⟩ := r
  cases c <;> cases d
  · cases v <;> rcases x with _ | _ | _ | _ <;> kernel_rfl
  · cases v <;> rcases y with _ | _ | _ | _ <;> rcases x with _ | _ | _ | _ <;> kernel_rfl
  · cases v <;> rcases z with _ | _ | _ | _ <;> rcases x with _ | _ | _ | _ <;> kernel_rfl
  · cases v <;> rcases x with _ | _ | _ | _ <;> rcases y with _ | _ | _ | _ <;> kernel_rfl
  · cases v <;> rcases y with _ | _ | _ | _ <;> kernel_rfl
  · cases v <;> rcases z with _ | _ | _ | _ <;> rcases y with _ | _ | _ | _ <;> kernel_rfl
  · cases v <;> rcases x with _ | _ | _ | _ <;> rcases z with _ | _ | _ | _ <;> kernel_rfl
  · cases v <;> rcases y with _ | _ | _ | _ <;> rcases z with _ | _ | _ | _ <;> kernel_rfl
  · cases v <;> rcases z with _ | _ | _ | _ <;> kernel_rfl
theorem t_no {x : Cnd} (h : truthM cT cZ isi k [x.d, r.d] M = resT cT cZ (x.ev r) M) : truthM cT cZ isi (k + 1) [(Cnd.no x).d, r.d] M = resT cT cZ ((Cnd.no x).ev r) M := by
  rw [truthM, z_fn, truthB]
  unfold Cnd.d Cnd.ev
  cases hx : x.ev r <;> rw [hx] at h <;> simp only [resT, zeroX] at h <;> simp only [z_seq, z_seq_nx, z_seq_rt, z_seq_ex, z_seq_bk, z_seq_ct, z_if, z_if_t, z_if_f, z_if_x, z_set, z_set_ok, z_set_x, z_ret, z_ret_ok, z_ret_x, z_retN, z_do, z_do_ok, z_do_x, z_nil, z_raise0, z_raise, z_raise_ok, z_toR_rt, z_toR_nx, z_toR_ex, z_c, z_var, z_var_ok, z_un, z_un_ok, z_un_x, z_bin, z_bin_ok, z_bin_x, z_anil, z_cons, z_cons1, z_cons1x, z_cons2, z_cons2x, z_args, z_args_ok, z_args_x, z_tup, z_tup_ok, z_fro, z_fro_ok, z_lst, z_lst_ok, z_call, z_stat, z_call_ok, z_callk, z_callk1, z_callk2, z_mkF, z_mkF_ok, z_own1, z_own1_ok, z_prop, z_own2, z_own2_ok, z_val, z_val_ok, z_val_x, z_and, z_and_t, z_and_f, z_or, z_or_t, z_or_f, z_not, z_not_ok, z_yes, z_eand, z_eand_t, z_eand_f, z_eor, z_eor_t, z_eor_f, z_enot, z_enot_ok, z_eif, z_eif_t, z_eif_f, z_for, z_for_v, z_iseq, z_iseq_t, z_iseq_f, z_iseq_r, z_rng, z_rng_ok, z_env0, z_try, z_try_nx, z_try_rt, z_try0, z_try0_nx, z_try0_rt, z_for_l, z_fv0, z_fv_nx, z_fv_ct, z_fv_rt, z_lc, z_lc_v, z_step, z_step_ok, z_istr, z_istr_ok, z_env0, List.map_cons, List.map_nil, List.replicate, List.append_nil, Nat.reduceSub, List.cons_append, List.nil_append, List.length_cons, List.length_nil, Nat.reduceAdd, Nat.reduceLeDiff, List.getElem?_cons_zero, List.getElem?_cons_succ, List.set_cons_zero, List.set_cons_succ, Bool.not_true, Bool.not_false, ixT0, ixT1, we_always_always, we_always_not, we_always_and, we_always_or, we_always_quotient, we_always_unknown, we_always_equal, we_not_always, we_not_not, we_not_and, we_not_or, we_not_quotient, we_not_unknown, we_not_equal, we_and_always, we_and_not, we_and_and, we_and_or, we_and_quotient, we_and_unknown, we_and_equal, we_or_always, we_or_not, we_or_and, we_or_or, we_or_quotient, we_or_unknown, we_or_equal, we_quotient_always, we_quotient_not, we_quotient_and, we_quotient_or, we_quotient_quotient, we_quotient_unknown, we_quotient_equal, we_unknown_always, we_unknown_not, we_unknown_and, we_unknown_or, we_unknown_quotient, we_unknown_unknown, we_unknown_equal, we_equal_always, we_equal_not, we_equal_and, we_equal_or, we_equal_quotient, we_equal_unknown, we_equal_equal, we_below_always, we_below_not, we_below_and, we_below_or, we_below_quotient, we_below_unknown, we_below_equal, wj_always, wj_not, wj_and, wj_or, wj_quotient, wj_unknown, wj_equal, wj_below, h, own1_tv, inv_tv, T4.no, resT, zeroX] <;> rfl
theorem t_an (hi : isi (.inr cT) (.inr cT) = some true) {x y : Cnd} (h : truthM cT cZ isi k [x.d, r.d] M = resT cT cZ (x.ev r) M) (h' : truthM cT cZ isi k [y.d, r.d] M = resT cT cZ (y.ev r) M) : truthM cT cZ isi (k + 1) [(Cnd.an x y).d, r.d] M = resT cT cZ ((Cnd.an x y).ev r) M := by
  rw [truthM, z_fn, truthB]
  unfold Cnd.d Cnd.ev
  cases hx : x.ev r <;> rw [hx] at h <;> cases hy : y.ev r <;> rw [hy] at h' <;> simp only [resT, zeroX] at h h' <;> simp only [z_seq, z_seq_nx, z_seq_rt, z_seq_ex, z_seq_bk, z_seq_ct, z_if, z_if_t, z_if_f, z_if_x, z_set, z_set_ok, z_set_x, z_ret, z_ret_ok, z_ret_x, z_retN, z_do, z_do_ok, z_do_x, z_nil, z_raise0, z_raise, z_raise_ok, z_toR_rt, z_toR_nx, z_toR_ex, z_c, z_var, z_var_ok, z_un, z_un_ok, z_un_x, z_bin, z_bin_ok, z_bin_x, z_anil, z_cons, z_cons1, z_cons1x, z_cons2, z_cons2x, z_args, z_args_ok, z_args_x, z_tup, z_tup_ok, z_fro, z_fro_ok, z_lst, z_lst_ok, z_call, z_stat, z_call_ok, z_callk, z_callk1, z_callk2, z_mkF, z_mkF_ok, z_own1, z_own1_ok, z_prop, z_own2, z_own2_ok, z_val, z_val_ok, z_val_x, z_and, z_and_t, z_and_f, z_or, z_or_t, z_or_f, z_not, z_not_ok, z_yes, z_eand, z_eand_t, z_eand_f, z_eor, z_eor_t, z_eor_f, z_enot, z_enot_ok, z_eif, z_eif_t, z_eif_f, z_for, z_for_v, z_iseq, z_iseq_t, z_iseq_f, z_iseq_r, z_rng, z_rng_ok, z_env0, z_try, z_try_nx, z_try_rt, z_try0, z_try0_nx, z_try0_rt, z_for_l, z_fv0, z_fv_nx, z_fv_ct, z_fv_rt, z_lc, z_lc_v, z_step, z_step_ok, z_istr, z_istr_ok, z_env0, List.map_cons, List.map_nil, List.replicate, List.append_nil, Nat.reduceSub, List.cons_append, List.nil_append, List.length_cons, List.length_nil, Nat.reduceAdd, Nat.reduceLeDiff, List.getElem?_cons_zero, List.getElem?_cons_succ, List.set_cons_zero, List.set_cons_succ, Bool.not_true, Bool.not_false, ixT0, ixT1, ixT2, we_always_always, we_always_not, we_always_and, we_always_or, we_always_quotient, we_always_unknown, we_always_equal, we_not_always, we_not_not, we_not_and, we_not_or, we_not_quotient, we_not_unknown, we_not_equal, we_and_always, we_and_not, we_and_and, we_and_or, we_and_quotient, we_and_unknown, we_and_equal, we_or_always, we_or_not, we_or_and, we_or_or, we_or_quotient, we_or_unknown, we_or_equal, we_quotient_always, we_quotient_not, we_quotient_and, we_quotient_or, we_quotient_quotient, we_quotient_unknown, we_quotient_equal, we_unknown_always, we_unknown_not, we_unknown_and, we_unknown_or, we_unknown_quotient, we_unknown_unknown, we_unknown_equal, we_equal_always, we_equal_not, we_equal_and, we_equal_or, we_equal_quotient, we_equal_unknown, we_equal_equal, we_below_always, we_below_not, we_below_and, we_below_or, we_below_quotient, we_below_unknown, we_below_equal, wj_always, wj_not, wj_and, wj_or, wj_quotient, wj_unknown, wj_equal, wj_below, h, h', joinedM, z_fn, joinedB, rank_tv, eq_int, Int.reduceBEq, own2_tv, and_tv hi, T4.an, resT, zeroX, Int.reduceLT, if_true, if_false] <;> rfl
theorem t_or (hi : isi (.inr cT) (.inr cT) = some true) {x y : Cnd} (h : truthM cT cZ isi k [x.d, r.d] M = resT cT cZ (x.ev r) M) (h' : truthM cT cZ isi k [y.d, r.d] M = resT cT cZ (y.ev r) M) : truthM cT cZ isi (k + 1) [(Cnd.orr x y).d, r.d] M = resT cT cZ ((Cnd.orr x y).ev r) M := by
  rw [truthM, z_fn, truthB]
  unfold Cnd.d Cnd.ev
  cases hx : x.ev r <;> rw [hx] at h <;> cases hy : y.ev r <;> rw [hy] at h' <;> simp only [resT, zeroX] at h h' <;> simp only [z_seq, z_seq_nx, z_seq_rt, z_seq_ex, z_seq_bk, z_seq_ct, z_if, z_if_t, z_if_f, z_if_x, z_set, z_set_ok, z_set_x, z_ret, z_ret_ok, z_ret_x, z_retN, z_do, z_do_ok, z_do_x, z_nil, z_raise0, z_raise, z_raise_ok, z_toR_rt, z_toR_nx, z_toR_ex, z_c, z_var, z_var_ok, z_un, z_un_ok, z_un_x, z_bin, z_bin_ok, z_bin_x, z_anil, z_cons, z_cons1, z_cons1x, z_cons2, z_cons2x, z_args, z_args_ok, z_args_x, z_tup, z_tup_ok, z_fro, z_fro_ok, z_lst, z_lst_ok, z_call, z_stat, z_call_ok, z_callk, z_callk1, z_callk2, z_mkF, z_mkF_ok, z_own1, z_own1_ok, z_prop, z_own2, z_own2_ok, z_val, z_val_ok, z_val_x, z_and, z_and_t, z_and_f, z_or, z_or_t, z_or_f, z_not, z_not_ok, z_yes, z_eand, z_eand_t, z_eand_f, z_eor, z_eor_t, z_eor_f, z_enot, z_enot_ok, z_eif, z_eif_t, z_eif_f, z_for, z_for_v, z_iseq, z_iseq_t, z_iseq_f, z_iseq_r, z_rng, z_rng_ok, z_env0, z_try, z_try_nx, z_try_rt, z_try0, z_try0_nx, z_try0_rt, z_for_l, z_fv0, z_fv_nx, z_fv_ct, z_fv_rt, z_lc, z_lc_v, z_step, z_step_ok, z_istr, z_istr_ok, z_env0, List.map_cons, List.map_nil, List.replicate, List.append_nil, Nat.reduceSub, List.cons_append, List.nil_append, List.length_cons, List.length_nil, Nat.reduceAdd, Nat.reduceLeDiff, List.getElem?_cons_zero, List.getElem?_cons_succ, List.set_cons_zero, List.set_cons_succ, Bool.not_true, Bool.not_false, ixT0, ixT1, ixT2, we_always_always, we_always_not, we_always_and, we_always_or, we_always_quotient, we_always_unknown, we_always_equal, we_not_always, we_not_not, we_not_and, we_not_or, we_not_quotient, we_not_unknown, we_not_equal, we_and_always, we_and_not, we_and_and, we_and_or, we_and_quotient, we_and_unknown, we_and_equal, we_or_always, we_or_not, we_or_and, we_or_or, we_or_quotient, we_or_unknown, we_or_equal, we_quotient_always, we_quotient_not, we_quotient_and, we_quotient_or, we_quotient_quotient, we_quotient_unknown, we_quotient_equal, we_unknown_always, we_unknown_not, we_unknown_and, we_unknown_or, we_unknown_quotient, we_unknown_unknown, we_unknown_equal, we_equal_always, we_equal_not, we_equal_and, we_equal_or, we_equal_quotient, we_equal_unknown, we_equal_equal, we_below_always, we_below_not, we_below_and, we_below_or, we_below_quotient, we_below_unknown, we_below_equal, wj_always, wj_not, wj_and, wj_or, wj_quotient, wj_unknown, wj_equal, wj_below, h, h', joinedM, z_fn, joinedB, rank_tv, eq_int, Int.reduceBEq, own2_tv, or_tv hi, T4.or, resT, zeroX, Int.reduceLT, if_true, if_false] <;> rfl
/-- THE PROGRAM'S TRUTH -/
theorem truth_run (hi : isi (.inr cT) (.inr cT) = some true) : ∀ {c : Cnd} {k : Nat}, c.lv ≤ k → ∀ {r : Rw} {M : MH}, truthM cT cZ isi k [c.d, r.d] M = resT cT cZ (c.ev r) M
  | .alw, k, h, r, M => by obtain ⟨k, rfl⟩ : ∃ j, k = j + 1 := ⟨k - 1, by unfold Cnd.lv at h; omega⟩; exact t_alw
  | .unk c, k, h, r, M => by obtain ⟨k, rfl⟩ : ∃ j, k = j + 1 := ⟨k - 1, by unfold Cnd.lv at h; omega⟩; exact t_unk
  | .eql c v, k, h, r, M => by obtain ⟨k, rfl⟩ : ∃ j, k = j + 1 := ⟨k - 1, by unfold Cnd.lv at h; omega⟩; exact t_eql
  | .blw c v, k, h, r, M => by obtain ⟨k, rfl⟩ : ∃ j, k = j + 1 := ⟨k - 1, by unfold Cnd.lv at h; omega⟩; exact t_blw
  | .quo c d v, k, h, r, M => by obtain ⟨k, rfl⟩ : ∃ j, k = j + 1 := ⟨k - 1, by unfold Cnd.lv at h; omega⟩; exact t_quo
  | .no x, k, h, r, M => by obtain ⟨k, rfl⟩ : ∃ j, k = j + 1 := ⟨k - 1, by unfold Cnd.lv at h; omega⟩; exact t_no (truth_run hi (by unfold Cnd.lv at h; omega))
  | .an x y, k, h, r, M => by obtain ⟨k, rfl⟩ : ∃ j, k = j + 1 := ⟨k - 1, by unfold Cnd.lv at h; omega⟩; exact t_an hi (truth_run hi (by unfold Cnd.lv at h; omega)) (truth_run hi (by unfold Cnd.lv at h; omega))
  | .orr x y, k, h, r, M => by obtain ⟨k, rfl⟩ : ∃ j, k = j + 1 := ⟨k - 1, by unfold Cnd.lv at h; omega⟩; exact t_or hi (truth_run hi (by unfold Cnd.lv at h; omega)) (truth_run hi (by unfold Cnd.lv at h; omega))
end
/-! ### the laws' truth -/
def lawT (t : T4) (M : MH) : Res D := .ok (.int t.i) M
section
variable {r : Rw} {k : Nat} {M : MH}
theorem l_alw {row : D} : lawTruthM (k + 1) [Cnd.alw.d, row] M = lawT .t M := by kernel_rfl
theorem l_unk {c : C3} : lawTruthM (k + 1) [(Cnd.unk c).d, r.d] M = lawT ((Cnd.unk c).ev r) M := by
  obtain ⟨x, y, z⟩ := r
  cases c
  · rcases x with _ | _ | _ | _ <;> kernel_rfl
  · rcases y with _ | _ | _ | _ <;> kernel_rfl
  · rcases z with _ | _ | _ | _ <;> kernel_rfl
theorem l_eql {c v : C3} : lawTruthM (k + 1) [(Cnd.eql c v).d, r.d] M = lawT ((Cnd.eql c v).ev r) M := by
  obtain ⟨x, y, z⟩ := r
  cases c
  · cases v <;> rcases x with _ | _ | _ | _ <;> kernel_rfl
  · cases v <;> rcases y with _ | _ | _ | _ <;> kernel_rfl
  · cases v <;> rcases z with _ | _ | _ | _ <;> kernel_rfl
theorem l_blw {c v : C3} : lawTruthM (k + 1) [(Cnd.blw c v).d, r.d] M = lawT ((Cnd.blw c v).ev r) M := by
  obtain ⟨x, y, z⟩ := r
  cases c
  · cases v <;> rcases x with _ | _ | _ | _ <;> kernel_rfl
  · cases v <;> rcases y with _ | _ | _ | _ <;> kernel_rfl
  · cases v <;> rcases z with _ | _ | _ | _ <;> kernel_rfl
theorem l_quo {c d v : C3} : lawTruthM (k + 1) [(Cnd.quo c d v).d, r.d] M = lawT ((Cnd.quo c d v).ev r) M := by
  obtain ⟨x, y, z⟩ := r
  cases c <;> cases d
  · cases v <;> rcases x with _ | _ | _ | _ <;> kernel_rfl
  · cases v <;> rcases y with _ | _ | _ | _ <;> rcases x with _ | _ | _ | _ <;> kernel_rfl
  · cases v <;> rcases z with _ | _ | _ | _ <;> rcases x with _ | _ | _ | _ <;> kernel_rfl
  · cases v <;> rcases x with _ | _ | _ | _ <;> rcases y with _ | _ | _ | _ <;> kernel_rfl
  · cases v <;> rcases y with _ | _ | _ | _ <;> kernel_rfl
  · cases v <;> rcases z with _ | _ | _ | _ <;> rcases y with _ | _ | _ | _ <;> kernel_rfl
  · cases v <;> rcases x with _ | _ | _ | _ <;> rcases z with _ | _ | _ | _ <;> kernel_rfl
  · cases v <;> rcases y with _ | _ | _ | _ <;> rcases z with _ | _ | _ | _ <;> kernel_rfl
  · cases v <;> rcases z with _ | _ | _ | _ <;> kernel_rfl
theorem l_no {x : Cnd} (h : lawTruthM k [x.d, r.d] M = lawT (x.ev r) M) : lawTruthM (k + 1) [(Cnd.no x).d, r.d] M = lawT ((Cnd.no x).ev r) M := by
  rw [lawTruthM, z_fn, lawTruthB]
  unfold Cnd.d Cnd.ev
  cases hx : x.ev r <;> rw [hx] at h <;> simp only [lawT, T4.i] at h <;> simp only [z_seq, z_seq_nx, z_seq_rt, z_seq_ex, z_seq_bk, z_seq_ct, z_if, z_if_t, z_if_f, z_if_x, z_set, z_set_ok, z_set_x, z_ret, z_ret_ok, z_ret_x, z_retN, z_do, z_do_ok, z_do_x, z_nil, z_raise0, z_raise, z_raise_ok, z_toR_rt, z_toR_nx, z_toR_ex, z_c, z_var, z_var_ok, z_un, z_un_ok, z_un_x, z_bin, z_bin_ok, z_bin_x, z_anil, z_cons, z_cons1, z_cons1x, z_cons2, z_cons2x, z_args, z_args_ok, z_args_x, z_tup, z_tup_ok, z_fro, z_fro_ok, z_lst, z_lst_ok, z_call, z_stat, z_call_ok, z_callk, z_callk1, z_callk2, z_mkF, z_mkF_ok, z_own1, z_own1_ok, z_prop, z_own2, z_own2_ok, z_val, z_val_ok, z_val_x, z_and, z_and_t, z_and_f, z_or, z_or_t, z_or_f, z_not, z_not_ok, z_yes, z_eand, z_eand_t, z_eand_f, z_eor, z_eor_t, z_eor_f, z_enot, z_enot_ok, z_eif, z_eif_t, z_eif_f, z_for, z_for_v, z_iseq, z_iseq_t, z_iseq_f, z_iseq_r, z_rng, z_rng_ok, z_env0, z_try, z_try_nx, z_try_rt, z_try0, z_try0_nx, z_try0_rt, z_for_l, z_fv0, z_fv_nx, z_fv_ct, z_fv_rt, z_lc, z_lc_v, z_step, z_step_ok, z_istr, z_istr_ok, z_env0, List.map_cons, List.map_nil, List.replicate, List.append_nil, Nat.reduceSub, List.cons_append, List.nil_append, List.length_cons, List.length_nil, Nat.reduceAdd, Nat.reduceLeDiff, List.getElem?_cons_zero, List.getElem?_cons_succ, List.set_cons_zero, List.set_cons_succ, Bool.not_true, Bool.not_false, ixT0, ixT1, we_always_always, we_always_not, we_always_and, we_always_or, we_always_quotient, we_always_unknown, we_always_equal, we_not_always, we_not_not, we_not_and, we_not_or, we_not_quotient, we_not_unknown, we_not_equal, we_and_always, we_and_not, we_and_and, we_and_or, we_and_quotient, we_and_unknown, we_and_equal, we_or_always, we_or_not, we_or_and, we_or_or, we_or_quotient, we_or_unknown, we_or_equal, we_quotient_always, we_quotient_not, we_quotient_and, we_quotient_or, we_quotient_quotient, we_quotient_unknown, we_quotient_equal, we_unknown_always, we_unknown_not, we_unknown_and, we_unknown_or, we_unknown_quotient, we_unknown_unknown, we_unknown_equal, we_equal_always, we_equal_not, we_equal_and, we_equal_or, we_equal_quotient, we_equal_unknown, we_equal_equal, we_below_always, we_below_not, we_below_and, we_below_or, we_below_quotient, we_below_unknown, we_below_equal, wj_always, wj_not, wj_and, wj_or, wj_quotient, wj_unknown, wj_equal, wj_below, h, eq_int, Int.reduceBEq, T4.no, lawT, T4.i, sub_i] <;> rfl
theorem l_an {x y : Cnd} (h : lawTruthM k [x.d, r.d] M = lawT (x.ev r) M) (h' : lawTruthM k [y.d, r.d] M = lawT (y.ev r) M) : lawTruthM (k + 1) [(Cnd.an x y).d, r.d] M = lawT ((Cnd.an x y).ev r) M := by
  rw [lawTruthM, z_fn, lawTruthB]
  unfold Cnd.d Cnd.ev
  cases hx : x.ev r <;> rw [hx] at h <;> cases hy : y.ev r <;> rw [hy] at h' <;> simp only [lawT, T4.i] at h h' <;> simp only [z_seq, z_seq_nx, z_seq_rt, z_seq_ex, z_seq_bk, z_seq_ct, z_if, z_if_t, z_if_f, z_if_x, z_set, z_set_ok, z_set_x, z_ret, z_ret_ok, z_ret_x, z_retN, z_do, z_do_ok, z_do_x, z_nil, z_raise0, z_raise, z_raise_ok, z_toR_rt, z_toR_nx, z_toR_ex, z_c, z_var, z_var_ok, z_un, z_un_ok, z_un_x, z_bin, z_bin_ok, z_bin_x, z_anil, z_cons, z_cons1, z_cons1x, z_cons2, z_cons2x, z_args, z_args_ok, z_args_x, z_tup, z_tup_ok, z_fro, z_fro_ok, z_lst, z_lst_ok, z_call, z_stat, z_call_ok, z_callk, z_callk1, z_callk2, z_mkF, z_mkF_ok, z_own1, z_own1_ok, z_prop, z_own2, z_own2_ok, z_val, z_val_ok, z_val_x, z_and, z_and_t, z_and_f, z_or, z_or_t, z_or_f, z_not, z_not_ok, z_yes, z_eand, z_eand_t, z_eand_f, z_eor, z_eor_t, z_eor_f, z_enot, z_enot_ok, z_eif, z_eif_t, z_eif_f, z_for, z_for_v, z_iseq, z_iseq_t, z_iseq_f, z_iseq_r, z_rng, z_rng_ok, z_env0, z_try, z_try_nx, z_try_rt, z_try0, z_try0_nx, z_try0_rt, z_for_l, z_fv0, z_fv_nx, z_fv_ct, z_fv_rt, z_lc, z_lc_v, z_step, z_step_ok, z_istr, z_istr_ok, z_env0, List.map_cons, List.map_nil, List.replicate, List.append_nil, Nat.reduceSub, List.cons_append, List.nil_append, List.length_cons, List.length_nil, Nat.reduceAdd, Nat.reduceLeDiff, List.getElem?_cons_zero, List.getElem?_cons_succ, List.set_cons_zero, List.set_cons_succ, Bool.not_true, Bool.not_false, ixT0, ixT1, ixT2, we_always_always, we_always_not, we_always_and, we_always_or, we_always_quotient, we_always_unknown, we_always_equal, we_not_always, we_not_not, we_not_and, we_not_or, we_not_quotient, we_not_unknown, we_not_equal, we_and_always, we_and_not, we_and_and, we_and_or, we_and_quotient, we_and_unknown, we_and_equal, we_or_always, we_or_not, we_or_and, we_or_or, we_or_quotient, we_or_unknown, we_or_equal, we_quotient_always, we_quotient_not, we_quotient_and, we_quotient_or, we_quotient_quotient, we_quotient_unknown, we_quotient_equal, we_unknown_always, we_unknown_not, we_unknown_and, we_unknown_or, we_unknown_quotient, we_unknown_unknown, we_unknown_equal, we_equal_always, we_equal_not, we_equal_and, we_equal_or, we_equal_quotient, we_equal_unknown, we_equal_equal, we_below_always, we_below_not, we_below_and, we_below_or, we_below_quotient, we_below_unknown, we_below_equal, wj_always, wj_not, wj_and, wj_or, wj_quotient, wj_unknown, wj_equal, wj_below, h, h', eq_int, Int.reduceBEq, T4.an, lawT, T4.i] <;> rfl
theorem l_or {x y : Cnd} (h : lawTruthM k [x.d, r.d] M = lawT (x.ev r) M) (h' : lawTruthM k [y.d, r.d] M = lawT (y.ev r) M) : lawTruthM (k + 1) [(Cnd.orr x y).d, r.d] M = lawT ((Cnd.orr x y).ev r) M := by
  rw [lawTruthM, z_fn, lawTruthB]
  unfold Cnd.d Cnd.ev
  cases hx : x.ev r <;> rw [hx] at h <;> cases hy : y.ev r <;> rw [hy] at h' <;> simp only [lawT, T4.i] at h h' <;> simp only [z_seq, z_seq_nx, z_seq_rt, z_seq_ex, z_seq_bk, z_seq_ct, z_if, z_if_t, z_if_f, z_if_x, z_set, z_set_ok, z_set_x, z_ret, z_ret_ok, z_ret_x, z_retN, z_do, z_do_ok, z_do_x, z_nil, z_raise0, z_raise, z_raise_ok, z_toR_rt, z_toR_nx, z_toR_ex, z_c, z_var, z_var_ok, z_un, z_un_ok, z_un_x, z_bin, z_bin_ok, z_bin_x, z_anil, z_cons, z_cons1, z_cons1x, z_cons2, z_cons2x, z_args, z_args_ok, z_args_x, z_tup, z_tup_ok, z_fro, z_fro_ok, z_lst, z_lst_ok, z_call, z_stat, z_call_ok, z_callk, z_callk1, z_callk2, z_mkF, z_mkF_ok, z_own1, z_own1_ok, z_prop, z_own2, z_own2_ok, z_val, z_val_ok, z_val_x, z_and, z_and_t, z_and_f, z_or, z_or_t, z_or_f, z_not, z_not_ok, z_yes, z_eand, z_eand_t, z_eand_f, z_eor, z_eor_t, z_eor_f, z_enot, z_enot_ok, z_eif, z_eif_t, z_eif_f, z_for, z_for_v, z_iseq, z_iseq_t, z_iseq_f, z_iseq_r, z_rng, z_rng_ok, z_env0, z_try, z_try_nx, z_try_rt, z_try0, z_try0_nx, z_try0_rt, z_for_l, z_fv0, z_fv_nx, z_fv_ct, z_fv_rt, z_lc, z_lc_v, z_step, z_step_ok, z_istr, z_istr_ok, z_env0, List.map_cons, List.map_nil, List.replicate, List.append_nil, Nat.reduceSub, List.cons_append, List.nil_append, List.length_cons, List.length_nil, Nat.reduceAdd, Nat.reduceLeDiff, List.getElem?_cons_zero, List.getElem?_cons_succ, List.set_cons_zero, List.set_cons_succ, Bool.not_true, Bool.not_false, ixT0, ixT1, ixT2, we_always_always, we_always_not, we_always_and, we_always_or, we_always_quotient, we_always_unknown, we_always_equal, we_not_always, we_not_not, we_not_and, we_not_or, we_not_quotient, we_not_unknown, we_not_equal, we_and_always, we_and_not, we_and_and, we_and_or, we_and_quotient, we_and_unknown, we_and_equal, we_or_always, we_or_not, we_or_and, we_or_or, we_or_quotient, we_or_unknown, we_or_equal, we_quotient_always, we_quotient_not, we_quotient_and, we_quotient_or, we_quotient_quotient, we_quotient_unknown, we_quotient_equal, we_unknown_always, we_unknown_not, we_unknown_and, we_unknown_or, we_unknown_quotient, we_unknown_unknown, we_unknown_equal, we_equal_always, we_equal_not, we_equal_and, we_equal_or, we_equal_quotient, we_equal_unknown, we_equal_equal, we_below_always, we_below_not, we_below_and, we_below_or, we_below_quotient, we_below_unknown, we_below_equal, wj_always, wj_not, wj_and, wj_or, wj_quotient, wj_unknown, wj_equal, wj_below, h, h', eq_int, Int.reduceBEq, T4.or, lawT, T4.i] <;> rfl
/-- THE LAWS' TRUTH -/
theorem lawTruth_run : ∀ {c : Cnd} {k : Nat}, c.lv ≤ k → ∀ {r : Rw} {M : MH}, lawTruthM k [c.d, r.d] M = .ok (.int (c.ev r).i) M
  | .alw, k, h, r, M => by obtain ⟨k, rfl⟩ : ∃ j, k = j + 1 := ⟨k - 1, by unfold Cnd.lv at h; omega⟩; exact l_alw
  | .unk c, k, h, r, M => by obtain ⟨k, rfl⟩ : ∃ j, k = j + 1 := ⟨k - 1, by unfold Cnd.lv at h; omega⟩; exact l_unk
  | .eql c v, k, h, r, M => by obtain ⟨k, rfl⟩ : ∃ j, k = j + 1 := ⟨k - 1, by unfold Cnd.lv at h; omega⟩; exact l_eql
  | .blw c v, k, h, r, M => by obtain ⟨k, rfl⟩ : ∃ j, k = j + 1 := ⟨k - 1, by unfold Cnd.lv at h; omega⟩; exact l_blw
  | .quo c d v, k, h, r, M => by obtain ⟨k, rfl⟩ : ∃ j, k = j + 1 := ⟨k - 1, by unfold Cnd.lv at h; omega⟩; exact l_quo
  | .no x, k, h, r, M => by obtain ⟨k, rfl⟩ : ∃ j, k = j + 1 := ⟨k - 1, by unfold Cnd.lv at h; omega⟩; exact l_no (lawTruth_run (by unfold Cnd.lv at h; omega))
  | .an x y, k, h, r, M => by obtain ⟨k, rfl⟩ : ∃ j, k = j + 1 := ⟨k - 1, by unfold Cnd.lv at h; omega⟩; exact l_an (lawTruth_run (by unfold Cnd.lv at h; omega)) (lawTruth_run (by unfold Cnd.lv at h; omega))
  | .orr x y, k, h, r, M => by obtain ⟨k, rfl⟩ : ∃ j, k = j + 1 := ⟨k - 1, by unfold Cnd.lv at h; omega⟩; exact l_or (lawTruth_run (by unfold Cnd.lv at h; omega)) (lawTruth_run (by unfold Cnd.lv at h; omega))
end
/-! ### a condition is drawn -/
theorem c3_of {c : Int} (h0 : 0 ≤ c) (h1 : c < 3) : ∃ x : C3, c = x.i := by
  obtain rfl | rfl | rfl : c = 0 ∨ c = 1 ∨ c = 2 := by omega
  · exact ⟨.z, rfl⟩
  · exact ⟨.o, rfl⟩
  · exact ⟨.t, rfl⟩
theorem mul_3 {q : Int} (hq : q = 0 ∨ q = 1) {M : MH} : dMul (.int 3) (.int q) M = .ok (.int (3 * q)) M := by rcases hq with rfl | rfl <;> kernel_rfl
theorem drawE {s : Bx} {R : MH} {n : Int} (hs : BxOk s) (h1 : 0 < n) (h2 : n < 1073741824) : ∃ r s', drawM [.ref 0, .int n] (s.obj :: R) = .ok (.int r) (s'.obj :: R) ∧ 0 ≤ r ∧ r < n ∧ BxOk s' :=
  draw_spec (M := s.obj :: R) (b := 0) ⟨rfl, hs⟩ h1 h2
theorem atom_run {self : List D → MH → Res D} {s : Bx} {R : MH} {l : D} {k : Option D} {q : Int} (hq : q = 0 ∨ q = 1) (hs : BxOk s) : ∃ (c : Cnd) (s' : Bx), lawCondT self [some (.ref 0), some l, some (.int q), k, none] (s.obj :: R) = .rt c.d (s'.obj :: R) ∧ BxOk s' ∧ c.lv = 1 ∧ (q = 0 → c.hq = false) := by
  obtain ⟨c, s1, e1, a1, b1, h1⟩ := drawE (R := R) (n := 3) hs (by decide) (by decide)
  obtain ⟨w, s2, e2, a2, b2, h2⟩ := drawE (R := R) (n := 8 + 3 * q) h1 (by omega) (by omega)
  obtain ⟨v, s3, e3, a3, b3, h3⟩ := drawE (R := R) (n := 3) h2 (by decide) (by decide)
  obtain ⟨u, s4, e4, a4, b4, h4⟩ := drawE (R := R) (n := 3) h3 (by decide) (by decide)
  obtain ⟨c, rfl⟩ := c3_of a1 b1
  obtain ⟨v, rfl⟩ := c3_of a3 b3
  obtain ⟨u, rfl⟩ := c3_of a4 b4
  rw [lawCondT]
  obtain hw | rfl | hw | rfl | hw : w < 4 ∨ w = 4 ∨ (w = 5 ∨ w = 6) ∨ w = 7 ∨ 7 < w := by omega
  · exact ⟨.eql c v, s3, by simp only [z_seq, z_seq_nx, z_seq_rt, z_seq_ex, z_seq_bk, z_seq_ct, z_if, z_if_t, z_if_f, z_if_x, z_set, z_set_ok, z_set_x, z_ret, z_ret_ok, z_ret_x, z_retN, z_do, z_do_ok, z_do_x, z_nil, z_raise0, z_raise, z_raise_ok, z_toR_rt, z_toR_nx, z_toR_ex, z_c, z_var, z_var_ok, z_un, z_un_ok, z_un_x, z_bin, z_bin_ok, z_bin_x, z_anil, z_cons, z_cons1, z_cons1x, z_cons2, z_cons2x, z_args, z_args_ok, z_args_x, z_tup, z_tup_ok, z_fro, z_fro_ok, z_lst, z_lst_ok, z_call, z_stat, z_call_ok, z_callk, z_callk1, z_callk2, z_mkF, z_mkF_ok, z_own1, z_own1_ok, z_prop, z_own2, z_own2_ok, z_val, z_val_ok, z_val_x, z_and, z_and_t, z_and_f, z_or, z_or_t, z_or_f, z_not, z_not_ok, z_yes, z_eand, z_eand_t, z_eand_f, z_eor, z_eor_t, z_eor_f, z_enot, z_enot_ok, z_eif, z_eif_t, z_eif_f, z_for, z_for_v, z_iseq, z_iseq_t, z_iseq_f, z_iseq_r, z_rng, z_rng_ok, z_env0, z_try, z_try_nx, z_try_rt, z_try0, z_try0_nx, z_try0_rt, z_for_l, z_fv0, z_fv_nx, z_fv_ct, z_fv_rt, z_lc, z_lc_v, z_step, z_step_ok, z_istr, z_istr_ok, z_env0, List.map_cons, List.map_nil, List.replicate, List.append_nil, Nat.reduceSub, List.cons_append, List.nil_append, List.length_cons, List.length_nil, Nat.reduceAdd, Nat.reduceLeDiff, List.getElem?_cons_zero, List.getElem?_cons_succ, List.set_cons_zero, List.set_cons_succ, Bool.not_true, Bool.not_false, e1, e2, e3, mul_3 hq, add_i, lt_i, decide_eq_true hw, Cnd.d], h3, rfl, fun _ => rfl⟩
  · exact ⟨.blw c v, s3, by simp only [z_seq, z_seq_nx, z_seq_rt, z_seq_ex, z_seq_bk, z_seq_ct, z_if, z_if_t, z_if_f, z_if_x, z_set, z_set_ok, z_set_x, z_ret, z_ret_ok, z_ret_x, z_retN, z_do, z_do_ok, z_do_x, z_nil, z_raise0, z_raise, z_raise_ok, z_toR_rt, z_toR_nx, z_toR_ex, z_c, z_var, z_var_ok, z_un, z_un_ok, z_un_x, z_bin, z_bin_ok, z_bin_x, z_anil, z_cons, z_cons1, z_cons1x, z_cons2, z_cons2x, z_args, z_args_ok, z_args_x, z_tup, z_tup_ok, z_fro, z_fro_ok, z_lst, z_lst_ok, z_call, z_stat, z_call_ok, z_callk, z_callk1, z_callk2, z_mkF, z_mkF_ok, z_own1, z_own1_ok, z_prop, z_own2, z_own2_ok, z_val, z_val_ok, z_val_x, z_and, z_and_t, z_and_f, z_or, z_or_t, z_or_f, z_not, z_not_ok, z_yes, z_eand, z_eand_t, z_eand_f, z_eor, z_eor_t, z_eor_f, z_enot, z_enot_ok, z_eif, z_eif_t, z_eif_f, z_for, z_for_v, z_iseq, z_iseq_t, z_iseq_f, z_iseq_r, z_rng, z_rng_ok, z_env0, z_try, z_try_nx, z_try_rt, z_try0, z_try0_nx, z_try0_rt, z_for_l, z_fv0, z_fv_nx, z_fv_ct, z_fv_rt, z_lc, z_lc_v, z_step, z_step_ok, z_istr, z_istr_ok, z_env0, List.map_cons, List.map_nil, List.replicate, List.append_nil, Nat.reduceSub, List.cons_append, List.nil_append, List.length_cons, List.length_nil, Nat.reduceAdd, Nat.reduceLeDiff, List.getElem?_cons_zero, List.getElem?_cons_succ, List.set_cons_zero, List.set_cons_succ, Bool.not_true, Bool.not_false, e1, e2, e3, mul_3 hq, add_i, lt_i, eq_int, Int.reduceLT, decide_false, Int.reduceBEq, Cnd.d], h3, rfl, fun _ => rfl⟩
  · refine ⟨.unk c, s2, ?_, h2, rfl, fun _ => rfl⟩
    rcases hw with rfl | rfl <;> simp only [z_seq, z_seq_nx, z_seq_rt, z_seq_ex, z_seq_bk, z_seq_ct, z_if, z_if_t, z_if_f, z_if_x, z_set, z_set_ok, z_set_x, z_ret, z_ret_ok, z_ret_x, z_retN, z_do, z_do_ok, z_do_x, z_nil, z_raise0, z_raise, z_raise_ok, z_toR_rt, z_toR_nx, z_toR_ex, z_c, z_var, z_var_ok, z_un, z_un_ok, z_un_x, z_bin, z_bin_ok, z_bin_x, z_anil, z_cons, z_cons1, z_cons1x, z_cons2, z_cons2x, z_args, z_args_ok, z_args_x, z_tup, z_tup_ok, z_fro, z_fro_ok, z_lst, z_lst_ok, z_call, z_stat, z_call_ok, z_callk, z_callk1, z_callk2, z_mkF, z_mkF_ok, z_own1, z_own1_ok, z_prop, z_own2, z_own2_ok, z_val, z_val_ok, z_val_x, z_and, z_and_t, z_and_f, z_or, z_or_t, z_or_f, z_not, z_not_ok, z_yes, z_eand, z_eand_t, z_eand_f, z_eor, z_eor_t, z_eor_f, z_enot, z_enot_ok, z_eif, z_eif_t, z_eif_f, z_for, z_for_v, z_iseq, z_iseq_t, z_iseq_f, z_iseq_r, z_rng, z_rng_ok, z_env0, z_try, z_try_nx, z_try_rt, z_try0, z_try0_nx, z_try0_rt, z_for_l, z_fv0, z_fv_nx, z_fv_ct, z_fv_rt, z_lc, z_lc_v, z_step, z_step_ok, z_istr, z_istr_ok, z_env0, List.map_cons, List.map_nil, List.replicate, List.append_nil, Nat.reduceSub, List.cons_append, List.nil_append, List.length_cons, List.length_nil, Nat.reduceAdd, Nat.reduceLeDiff, List.getElem?_cons_zero, List.getElem?_cons_succ, List.set_cons_zero, List.set_cons_succ, Bool.not_true, Bool.not_false, e1, e2, e3, mul_3 hq, add_i, lt_i, eq_int, Int.reduceLT, decide_false, decide_true, Int.reduceBEq, Cnd.d]
  · exact ⟨.alw, s2, by simp only [z_seq, z_seq_nx, z_seq_rt, z_seq_ex, z_seq_bk, z_seq_ct, z_if, z_if_t, z_if_f, z_if_x, z_set, z_set_ok, z_set_x, z_ret, z_ret_ok, z_ret_x, z_retN, z_do, z_do_ok, z_do_x, z_nil, z_raise0, z_raise, z_raise_ok, z_toR_rt, z_toR_nx, z_toR_ex, z_c, z_var, z_var_ok, z_un, z_un_ok, z_un_x, z_bin, z_bin_ok, z_bin_x, z_anil, z_cons, z_cons1, z_cons1x, z_cons2, z_cons2x, z_args, z_args_ok, z_args_x, z_tup, z_tup_ok, z_fro, z_fro_ok, z_lst, z_lst_ok, z_call, z_stat, z_call_ok, z_callk, z_callk1, z_callk2, z_mkF, z_mkF_ok, z_own1, z_own1_ok, z_prop, z_own2, z_own2_ok, z_val, z_val_ok, z_val_x, z_and, z_and_t, z_and_f, z_or, z_or_t, z_or_f, z_not, z_not_ok, z_yes, z_eand, z_eand_t, z_eand_f, z_eor, z_eor_t, z_eor_f, z_enot, z_enot_ok, z_eif, z_eif_t, z_eif_f, z_for, z_for_v, z_iseq, z_iseq_t, z_iseq_f, z_iseq_r, z_rng, z_rng_ok, z_env0, z_try, z_try_nx, z_try_rt, z_try0, z_try0_nx, z_try0_rt, z_for_l, z_fv0, z_fv_nx, z_fv_ct, z_fv_rt, z_lc, z_lc_v, z_step, z_step_ok, z_istr, z_istr_ok, z_env0, List.map_cons, List.map_nil, List.replicate, List.append_nil, Nat.reduceSub, List.cons_append, List.nil_append, List.length_cons, List.length_nil, Nat.reduceAdd, Nat.reduceLeDiff, List.getElem?_cons_zero, List.getElem?_cons_succ, List.set_cons_zero, List.set_cons_succ, Bool.not_true, Bool.not_false, e1, e2, e3, mul_3 hq, add_i, lt_i, eq_int, Int.reduceLT, decide_false, Int.reduceBEq, Cnd.d], h2, rfl, fun _ => rfl⟩
  · have q1 : ¬ w < 4 := by omega
    have q2 : (w == 4) = false := by simp; omega
    have q3 : ¬ w < 7 := by omega
    have q4 : (w == 7) = false := by simp; omega
    exact ⟨.quo c v u, s4, by simp only [z_seq, z_seq_nx, z_seq_rt, z_seq_ex, z_seq_bk, z_seq_ct, z_if, z_if_t, z_if_f, z_if_x, z_set, z_set_ok, z_set_x, z_ret, z_ret_ok, z_ret_x, z_retN, z_do, z_do_ok, z_do_x, z_nil, z_raise0, z_raise, z_raise_ok, z_toR_rt, z_toR_nx, z_toR_ex, z_c, z_var, z_var_ok, z_un, z_un_ok, z_un_x, z_bin, z_bin_ok, z_bin_x, z_anil, z_cons, z_cons1, z_cons1x, z_cons2, z_cons2x, z_args, z_args_ok, z_args_x, z_tup, z_tup_ok, z_fro, z_fro_ok, z_lst, z_lst_ok, z_call, z_stat, z_call_ok, z_callk, z_callk1, z_callk2, z_mkF, z_mkF_ok, z_own1, z_own1_ok, z_prop, z_own2, z_own2_ok, z_val, z_val_ok, z_val_x, z_and, z_and_t, z_and_f, z_or, z_or_t, z_or_f, z_not, z_not_ok, z_yes, z_eand, z_eand_t, z_eand_f, z_eor, z_eor_t, z_eor_f, z_enot, z_enot_ok, z_eif, z_eif_t, z_eif_f, z_for, z_for_v, z_iseq, z_iseq_t, z_iseq_f, z_iseq_r, z_rng, z_rng_ok, z_env0, z_try, z_try_nx, z_try_rt, z_try0, z_try0_nx, z_try0_rt, z_for_l, z_fv0, z_fv_nx, z_fv_ct, z_fv_rt, z_lc, z_lc_v, z_step, z_step_ok, z_istr, z_istr_ok, z_env0, List.map_cons, List.map_nil, List.replicate, List.append_nil, Nat.reduceSub, List.cons_append, List.nil_append, List.length_cons, List.length_nil, Nat.reduceAdd, Nat.reduceLeDiff, List.getElem?_cons_zero, List.getElem?_cons_succ, List.set_cons_zero, List.set_cons_succ, Bool.not_true, Bool.not_false, e1, e2, e3, e4, mul_3 hq, add_i, lt_i, eq_int, decide_eq_false q1, q2, decide_eq_false q3, q4, Cnd.d], h4, rfl, fun z => by omega⟩
theorem ix_ao0 {M : MH} : dIxA (.tup [.str "and", .str "or"]) (.int 0) M = .ok (.str "and") M := ixT (i := 0) rfl
theorem ix_ao1 {M : MH} : dIxA (.tup [.str "and", .str "or"]) (.int 1) M = .ok (.str "or") M := ixT (i := 1) rfl
/-- THE DRAWN CONDITION -/
theorem lawCond_run {q : Int} (hq : q = 0 ∨ q = 1) : ∀ (L f : Nat) (s : Bx) (R : MH), L < f → BxOk s → ∃ (c : Cnd) (s' : Bx), lawCondM f [.ref 0, .int ((L : Int) + 1), .int q] (s.obj :: R) = .ok c.d (s'.obj :: R) ∧ BxOk s' ∧ c.lv ≤ L + 1 ∧ (q = 0 → c.hq = false) := by
  intro L
  induction L with
  | zero =>
    intro f s R hf hs
    obtain ⟨f, rfl⟩ : ∃ j, f = j + 1 := ⟨f - 1, by omega⟩
    obtain ⟨k, s1, e1, a1, b1, h1⟩ := drawE (R := R) (n := 6) hs (by decide) (by decide)
    obtain ⟨d, s2, e2, h2, hc, hn⟩ := atom_run (self := lawCondM f) (R := R) (l := .int (((0 : Nat) : Int) + 1)) (k := some (.int k)) hq h1
    refine ⟨d, s2, ?_, h2, by omega, hn⟩
    rw [lawCondM, z_fn, lawCondB]
    have q : ¬ (1 : Int) < ((0 : Nat) : Int) + 1 := by decide
    simp only [z_seq, z_seq_nx, z_seq_rt, z_seq_ex, z_seq_bk, z_seq_ct, z_if, z_if_t, z_if_f, z_if_x, z_set, z_set_ok, z_set_x, z_ret, z_ret_ok, z_ret_x, z_retN, z_do, z_do_ok, z_do_x, z_nil, z_raise0, z_raise, z_raise_ok, z_toR_rt, z_toR_nx, z_toR_ex, z_c, z_var, z_var_ok, z_un, z_un_ok, z_un_x, z_bin, z_bin_ok, z_bin_x, z_anil, z_cons, z_cons1, z_cons1x, z_cons2, z_cons2x, z_args, z_args_ok, z_args_x, z_tup, z_tup_ok, z_fro, z_fro_ok, z_lst, z_lst_ok, z_call, z_stat, z_call_ok, z_callk, z_callk1, z_callk2, z_mkF, z_mkF_ok, z_own1, z_own1_ok, z_prop, z_own2, z_own2_ok, z_val, z_val_ok, z_val_x, z_and, z_and_t, z_and_f, z_or, z_or_t, z_or_f, z_not, z_not_ok, z_yes, z_eand, z_eand_t, z_eand_f, z_eor, z_eor_t, z_eor_f, z_enot, z_enot_ok, z_eif, z_eif_t, z_eif_f, z_for, z_for_v, z_iseq, z_iseq_t, z_iseq_f, z_iseq_r, z_rng, z_rng_ok, z_env0, z_try, z_try_nx, z_try_rt, z_try0, z_try0_nx, z_try0_rt, z_for_l, z_fv0, z_fv_nx, z_fv_ct, z_fv_rt, z_lc, z_lc_v, z_step, z_step_ok, z_istr, z_istr_ok, z_env0, List.map_cons, List.map_nil, List.replicate, List.append_nil, Nat.reduceSub, List.cons_append, List.nil_append, List.length_cons, List.length_nil, Nat.reduceAdd, Nat.reduceLeDiff, List.getElem?_cons_zero, List.getElem?_cons_succ, List.set_cons_zero, List.set_cons_succ, Bool.not_true, Bool.not_false, e1, gt_i, decide_eq_false q, e2]
  | succ L ih =>
    intro f s R hf hs
    obtain ⟨f, rfl⟩ : ∃ j, f = j + 1 := ⟨f - 1, by omega⟩
    obtain ⟨k, s1, e1, a1, b1, h1⟩ := drawE (R := R) (n := 6) hs (by decide) (by decide)
    obtain ⟨x, s2, e2, h2, hx, nx⟩ := ih f s1 R (by omega) h1
    obtain ⟨y, s3, e3, h3, hy, ny⟩ := ih f s2 R (by omega) h2
    obtain ⟨d, s4, e4, h4, hc, hn⟩ := atom_run (self := lawCondM f) (R := R) (l := .int (((L + 1 : Nat) : Int) + 1)) (k := some (.int k)) hq h1
    have q : (1 : Int) < ((L + 1 : Nat) : Int) + 1 := by omega
    have q1 : ((L + 1 : Nat) : Int) + 1 - 1 = (L : Int) + 1 := by omega
    rw [lawCondM, z_fn, lawCondB]
    obtain rfl | rfl | rfl | hk : k = 0 ∨ k = 1 ∨ k = 2 ∨ 2 < k := by omega
    · exact ⟨.an x y, s3, by simp only [z_seq, z_seq_nx, z_seq_rt, z_seq_ex, z_seq_bk, z_seq_ct, z_if, z_if_t, z_if_f, z_if_x, z_set, z_set_ok, z_set_x, z_ret, z_ret_ok, z_ret_x, z_retN, z_do, z_do_ok, z_do_x, z_nil, z_raise0, z_raise, z_raise_ok, z_toR_rt, z_toR_nx, z_toR_ex, z_c, z_var, z_var_ok, z_un, z_un_ok, z_un_x, z_bin, z_bin_ok, z_bin_x, z_anil, z_cons, z_cons1, z_cons1x, z_cons2, z_cons2x, z_args, z_args_ok, z_args_x, z_tup, z_tup_ok, z_fro, z_fro_ok, z_lst, z_lst_ok, z_call, z_stat, z_call_ok, z_callk, z_callk1, z_callk2, z_mkF, z_mkF_ok, z_own1, z_own1_ok, z_prop, z_own2, z_own2_ok, z_val, z_val_ok, z_val_x, z_and, z_and_t, z_and_f, z_or, z_or_t, z_or_f, z_not, z_not_ok, z_yes, z_eand, z_eand_t, z_eand_f, z_eor, z_eor_t, z_eor_f, z_enot, z_enot_ok, z_eif, z_eif_t, z_eif_f, z_for, z_for_v, z_iseq, z_iseq_t, z_iseq_f, z_iseq_r, z_rng, z_rng_ok, z_env0, z_try, z_try_nx, z_try_rt, z_try0, z_try0_nx, z_try0_rt, z_for_l, z_fv0, z_fv_nx, z_fv_ct, z_fv_rt, z_lc, z_lc_v, z_step, z_step_ok, z_istr, z_istr_ok, z_env0, List.map_cons, List.map_nil, List.replicate, List.append_nil, Nat.reduceSub, List.cons_append, List.nil_append, List.length_cons, List.length_nil, Nat.reduceAdd, Nat.reduceLeDiff, List.getElem?_cons_zero, List.getElem?_cons_succ, List.set_cons_zero, List.set_cons_succ, Bool.not_true, Bool.not_false, e1, gt_i, lt_i, decide_eq_true q, Int.reduceLT, decide_true, ix_ao0, sub_i, q1, e2, e3, Cnd.d], h3, by unfold Cnd.lv; omega, fun z => by unfold Cnd.hq; rw [nx z, ny z]; rfl⟩
    · exact ⟨.orr x y, s3, by simp only [z_seq, z_seq_nx, z_seq_rt, z_seq_ex, z_seq_bk, z_seq_ct, z_if, z_if_t, z_if_f, z_if_x, z_set, z_set_ok, z_set_x, z_ret, z_ret_ok, z_ret_x, z_retN, z_do, z_do_ok, z_do_x, z_nil, z_raise0, z_raise, z_raise_ok, z_toR_rt, z_toR_nx, z_toR_ex, z_c, z_var, z_var_ok, z_un, z_un_ok, z_un_x, z_bin, z_bin_ok, z_bin_x, z_anil, z_cons, z_cons1, z_cons1x, z_cons2, z_cons2x, z_args, z_args_ok, z_args_x, z_tup, z_tup_ok, z_fro, z_fro_ok, z_lst, z_lst_ok, z_call, z_stat, z_call_ok, z_callk, z_callk1, z_callk2, z_mkF, z_mkF_ok, z_own1, z_own1_ok, z_prop, z_own2, z_own2_ok, z_val, z_val_ok, z_val_x, z_and, z_and_t, z_and_f, z_or, z_or_t, z_or_f, z_not, z_not_ok, z_yes, z_eand, z_eand_t, z_eand_f, z_eor, z_eor_t, z_eor_f, z_enot, z_enot_ok, z_eif, z_eif_t, z_eif_f, z_for, z_for_v, z_iseq, z_iseq_t, z_iseq_f, z_iseq_r, z_rng, z_rng_ok, z_env0, z_try, z_try_nx, z_try_rt, z_try0, z_try0_nx, z_try0_rt, z_for_l, z_fv0, z_fv_nx, z_fv_ct, z_fv_rt, z_lc, z_lc_v, z_step, z_step_ok, z_istr, z_istr_ok, z_env0, List.map_cons, List.map_nil, List.replicate, List.append_nil, Nat.reduceSub, List.cons_append, List.nil_append, List.length_cons, List.length_nil, Nat.reduceAdd, Nat.reduceLeDiff, List.getElem?_cons_zero, List.getElem?_cons_succ, List.set_cons_zero, List.set_cons_succ, Bool.not_true, Bool.not_false, e1, gt_i, lt_i, decide_eq_true q, Int.reduceLT, decide_true, ix_ao1, sub_i, q1, e2, e3, Cnd.d], h3, by unfold Cnd.lv; omega, fun z => by unfold Cnd.hq; rw [nx z, ny z]; rfl⟩
    · exact ⟨.no x, s2, by simp only [z_seq, z_seq_nx, z_seq_rt, z_seq_ex, z_seq_bk, z_seq_ct, z_if, z_if_t, z_if_f, z_if_x, z_set, z_set_ok, z_set_x, z_ret, z_ret_ok, z_ret_x, z_retN, z_do, z_do_ok, z_do_x, z_nil, z_raise0, z_raise, z_raise_ok, z_toR_rt, z_toR_nx, z_toR_ex, z_c, z_var, z_var_ok, z_un, z_un_ok, z_un_x, z_bin, z_bin_ok, z_bin_x, z_anil, z_cons, z_cons1, z_cons1x, z_cons2, z_cons2x, z_args, z_args_ok, z_args_x, z_tup, z_tup_ok, z_fro, z_fro_ok, z_lst, z_lst_ok, z_call, z_stat, z_call_ok, z_callk, z_callk1, z_callk2, z_mkF, z_mkF_ok, z_own1, z_own1_ok, z_prop, z_own2, z_own2_ok, z_val, z_val_ok, z_val_x, z_and, z_and_t, z_and_f, z_or, z_or_t, z_or_f, z_not, z_not_ok, z_yes, z_eand, z_eand_t, z_eand_f, z_eor, z_eor_t, z_eor_f, z_enot, z_enot_ok, z_eif, z_eif_t, z_eif_f, z_for, z_for_v, z_iseq, z_iseq_t, z_iseq_f, z_iseq_r, z_rng, z_rng_ok, z_env0, z_try, z_try_nx, z_try_rt, z_try0, z_try0_nx, z_try0_rt, z_for_l, z_fv0, z_fv_nx, z_fv_ct, z_fv_rt, z_lc, z_lc_v, z_step, z_step_ok, z_istr, z_istr_ok, z_env0, List.map_cons, List.map_nil, List.replicate, List.append_nil, Nat.reduceSub, List.cons_append, List.nil_append, List.length_cons, List.length_nil, Nat.reduceAdd, Nat.reduceLeDiff, List.getElem?_cons_zero, List.getElem?_cons_succ, List.set_cons_zero, List.set_cons_succ, Bool.not_true, Bool.not_false, e1, gt_i, lt_i, decide_eq_true q, Int.reduceLT, decide_false, eq_int, Int.reduceBEq, sub_i, q1, e2, Cnd.d], h2, by unfold Cnd.lv; omega, fun z => by unfold Cnd.hq; exact nx z⟩
    · have q2 : ¬ k < 2 := by omega
      have q3 : (k == 2) = false := by simp; omega
      exact ⟨d, s4, by simp only [z_seq, z_seq_nx, z_seq_rt, z_seq_ex, z_seq_bk, z_seq_ct, z_if, z_if_t, z_if_f, z_if_x, z_set, z_set_ok, z_set_x, z_ret, z_ret_ok, z_ret_x, z_retN, z_do, z_do_ok, z_do_x, z_nil, z_raise0, z_raise, z_raise_ok, z_toR_rt, z_toR_nx, z_toR_ex, z_c, z_var, z_var_ok, z_un, z_un_ok, z_un_x, z_bin, z_bin_ok, z_bin_x, z_anil, z_cons, z_cons1, z_cons1x, z_cons2, z_cons2x, z_args, z_args_ok, z_args_x, z_tup, z_tup_ok, z_fro, z_fro_ok, z_lst, z_lst_ok, z_call, z_stat, z_call_ok, z_callk, z_callk1, z_callk2, z_mkF, z_mkF_ok, z_own1, z_own1_ok, z_prop, z_own2, z_own2_ok, z_val, z_val_ok, z_val_x, z_and, z_and_t, z_and_f, z_or, z_or_t, z_or_f, z_not, z_not_ok, z_yes, z_eand, z_eand_t, z_eand_f, z_eor, z_eor_t, z_eor_f, z_enot, z_enot_ok, z_eif, z_eif_t, z_eif_f, z_for, z_for_v, z_iseq, z_iseq_t, z_iseq_f, z_iseq_r, z_rng, z_rng_ok, z_env0, z_try, z_try_nx, z_try_rt, z_try0, z_try0_nx, z_try0_rt, z_for_l, z_fv0, z_fv_nx, z_fv_ct, z_fv_rt, z_lc, z_lc_v, z_step, z_step_ok, z_istr, z_istr_ok, z_env0, List.map_cons, List.map_nil, List.replicate, List.append_nil, Nat.reduceSub, List.cons_append, List.nil_append, List.length_cons, List.length_nil, Nat.reduceAdd, Nat.reduceLeDiff, List.getElem?_cons_zero, List.getElem?_cons_succ, List.set_cons_zero, List.set_cons_succ, Bool.not_true, Bool.not_false, e1, gt_i, lt_i, decide_eq_true q, decide_eq_false q2, eq_int, q3, e4], h4, by omega, hn⟩
end T2
namespace T2
open PySem L2

/-! ### a def that changes nothing: what it hands back is frozen, what it has made beside is forgotten -/
open Classical in
noncomputable def frzP (f : List D → MH → Res D) : List D → MH → Res D := fun ds M => match f ds M with
  | .ok d M' => if M'.take M.length = M then (match fzA (rfz M' M.length 4) d with
    | some d' => .ok d' M
    | none => .bad) else .bad
  | .exc c ns xs M' => if M'.take M.length = M then (match fzAs (rfz M' M.length 4) xs with
    | some xs' => .exc c ns xs' M
    | none => .bad) else .bad
  | .bad => .bad
theorem frzP_ok {f : List D → MH → Res D} {ds : List D} {M G : MH} {d d' : D} (h : f ds M = .ok d (M ++ G)) (hd : fzA (rfz (M ++ G) M.length 4) d = some d') : frzP f ds M = .ok d' M := by
  unfold frzP
  rw [h]
  dsimp only
  rw [if_pos (by simp), hd]
theorem frzP_pd {f : List D → MH → Res D} {ds : List D} {M G : MH} {d : D} {k : Nat} (h : f ds M = .ok d (M ++ G)) (hd : Pd k d) : frzP f ds M = .ok d M := frzP_ok h (fz_pd hd)
theorem frzP_0 {f : List D → MH → Res D} {ds : List D} {M : MH} {d : D} {k : Nat} (h : f ds M = .ok d M) (hd : Pd k d) : frzP f ds M = .ok d M := frzP_ok (G := []) (by rw [List.append_nil]; exact h) (fz_pd hd)
theorem frzP_fro {f : List D → MH → Res D} {ds : List D} {M G : MH} {k : Nat} {xs : List D} (h : f ds M = .ok (.fro xs) (M ++ G)) (hx : ∀ a ∈ xs, Pd k a) : frzP f ds M = .ok (.fro xs) M := frzP_ok h (by
  show (fzAs _ xs).map D.fro = _
  rw [fzs_pd hx]; rfl)
theorem fn_frzP {P : Program} {w : World} {K : PySem.W.Frag} {mg : Str → Option Value} {base : Heap} {CX : CXT} {g : Wd} {f : Addr} {fd : FuncData} {ps : List Str} {k n : Nat} {m : List D → MH → Res D} (F : FnOk P w K mg base CX k f fd ps (spD g n m)) : FnOk P w K mg base CX k f fd ps (spD g n (frzP m)) :=
  F.imp fun vs H Q E ⟨hl, F, M, ds, R, r, q⟩ => ⟨hl, F, M, ds, R, r, by
    unfold frzP at q
    cases hm : m ds M with
    | ok d M' =>
      rw [hm] at q
      dsimp only at q
      split at q
      · rename_i hc
        split at q
        · rename_i d' hd
          intro F1 H1 v g1 R1 rv
          have e : M' = M ++ M'.drop M.length := by
            conv => lhs; rw [← List.take_append_drop M.length M', hc]
          have R1' : RelM g F1 (M ++ M'.drop M.length) H1 := by rw [← e]; exact R1
          exact q _ H1 v (g1.cut (by rw [R.len]; exact Nat.le_refl _)) (R1'.cut R.low) (fzA_rep (rfz_rep R1 4) rv hd)
        · exact q.elim
      · exact q.elim
    | exc c ns xs M' =>
      rw [hm] at q
      dsimp only at q
      split at q
      · rename_i hc
        split at q
        · rename_i xs' hd
          intro F1 H1 v g1 R1 rx
          have e : M' = M ++ M'.drop M.length := by
            conv => lhs; rw [← List.take_append_drop M.length M', hc]
          have R1' : RelM g F1 (M ++ M'.drop M.length) H1 := by rw [← e]; exact R1
          refine q _ H1 v (g1.cut (by rw [R.len]; exact Nat.le_refl _)) (R1'.cut R.low) ?_
          cases rx with
          | no => cases hd; exact .no
          | so h hne hl r =>
            have r' := fzAs_rep (k := M.length) (rfz_rep R1 4) r hd
            exact .so h hne hl r'
        · exact q.elim
      · exact q.elim
    | bad => rw [hm] at q; exact q.elim⟩
/-! ### small things that laws want -/
theorem pd_vl {k : Nat} (a : Vl) : Pd (k + 1) (Vl.d a) := by
  cases a with
  | none => exact .inl rfl
  | some c => exact pd_int
theorem pd_row {k : Nat} (r : Rw) : Pd (k + 2) r.d := pd_3 (pd_vl _) (pd_vl _) (pd_vl _)
theorem pd_cnd : ∀ (c : Cnd), Pd (c.lv + 1) c.d
  | .alw => pd_1 (pd_str (by decide +kernel))
  | .unk c => pd_2 (pd_str (by decide +kernel)) pd_int
  | .eql c v => pd_3 (pd_str (by decide +kernel)) pd_int pd_int
  | .blw c v => pd_3 (pd_str (by decide +kernel)) pd_int pd_int
  | .quo c d v => pd_tup (by simp) (by
      intro a ha
      simp only [List.mem_cons, List.not_mem_nil, or_false] at ha
      rcases ha with rfl | rfl | rfl | rfl
      · exact pd_str (by decide +kernel)
      · exact pd_int
      · exact pd_int
      · exact pd_int)
  | .no x => pd_2 (by unfold Cnd.lv; exact pd_str (by decide +kernel)) (pd_cnd x)
  | .an x y => by
    have up : ∀ {k m : Nat} {d : D}, Pd k d → k ≤ m → Pd m d := fun {k m d} h hm => by
      obtain ⟨j, rfl⟩ : ∃ j, m = k + j := ⟨m - k, by omega⟩
      clear hm
      induction j with
      | zero => exact h
      | succ j ih => exact ih.up
    exact pd_3 (by unfold Cnd.lv; exact pd_str (by decide +kernel)) (up (pd_cnd x) (by show x.lv + 1 ≤ max x.lv y.lv + 1; omega)) (up (pd_cnd y) (by show y.lv + 1 ≤ max x.lv y.lv + 1; omega))
  | .orr x y => by
    have up : ∀ {k m : Nat} {d : D}, Pd k d → k ≤ m → Pd m d := fun {k m d} h hm => by
      obtain ⟨j, rfl⟩ : ∃ j, m = k + j := ⟨m - k, by omega⟩
      clear hm
      induction j with
      | zero => exact h
      | succ j ih => exact ih.up
    exact pd_3 (by unfold Cnd.lv; exact pd_str (by decide +kernel)) (up (pd_cnd x) (by show x.lv + 1 ≤ max x.lv y.lv + 1; omega)) (up (pd_cnd y) (by show y.lv + 1 ≤ max x.lv y.lv + 1; omega))
theorem Pd.mono {k m : Nat} {d : D} (h : Pd k d) (hm : k ≤ m) : Pd m d := by
  obtain ⟨j, rfl⟩ : ∃ j, m = k + j := ⟨m - k, by omega⟩
  clear hm
  induction j with
  | zero => exact h
  | succ j ih => exact ih.up
theorem rowsD_mem {x : D} (h : x ∈ rowsD) : ∃ r : Rw, x = r.d := by
  rw [rowsD_R] at h
  obtain ⟨r, _, rfl⟩ := List.mem_map.mp h
  exact ⟨r, rfl⟩
/-! ### all rows, as the laws write them -/
def everyL1 : SM :=
    sSet 0 (eBin (dCat mkF) (eVar 0) (eLc (iSeq (eFro (eCons (eC .non) (eCons (eC (.int 0)) (eCons (eC (.int 1)) (eCons (eC (.int 2)) (eNil))))))) (tgName 3) (bYes) (eTup (eCons (eVar 1) (eCons (eVar 2) (eCons (eVar 3) (eNil))))) [3]))
def everyL2 : SM :=
    sForI (iSeq (eFro (eCons (eC .non) (eCons (eC (.int 0)) (eCons (eC (.int 1)) (eCons (eC (.int 2)) (eNil))))))) (tgName 2) everyL1
def everyB : SM :=
    sSeq (sSet 0 (eFro (eNil)))
    (sSeq (sForI (iSeq (eFro (eCons (eC .non) (eCons (eC (.int 0)) (eCons (eC (.int 1)) (eCons (eC (.int 2)) (eNil))))))) (tgName 1) everyL2)
    (sRet (eVar 0)))
noncomputable def everyM : List D → MH → Res D := frzP (fnB 4 everyB)
def fours : List D := [.non, .int 0, .int 1, .int 2]
theorem four_run {e : Env2} {M : MH} : iSeq (eFro (eCons (eC .non) (eCons (eC (.int 0)) (eCons (eC (.int 1)) (eCons (eC (.int 2)) (eNil)))))) e M = .ok (.vals fours) M := by kernel_rfl
theorem every_in {a b : D} {xs : List D} {M : MH} {x3 : Option D} (h : xs.length ≤ 100) : everyL1 [some (.fro xs), some a, some b, x3] M = .nx [some (.fro (xs ++ fours.map fun z => .tup [a, b, z])), some a, some b, x3] (M ++ [.lst (fours.map fun z => .tup [a, b, z])]) := by
  have h1 : eLc (iSeq (eFro (eCons (eC .non) (eCons (eC (.int 0)) (eCons (eC (.int 1)) (eCons (eC (.int 2)) (eNil))))))) (tgName 3) bYes (eTup (eCons (eVar 1) (eCons (eVar 2) (eCons (eVar 3) eNil)))) [3] [some (.fro xs), some a, some b, x3] M = .ok (.ref M.length) (M ++ [.lst (((fours.filter fun _ => true)).map fun z => .tup [a, b, z])]) :=
    lc_if (p := fun _ => true) (g := fun z => .tup [a, b, z]) four_run (fun _ _ _ => rfl) (fun x _ _ acc => by
      show eTup _ [some (.fro xs), some a, some b, some x] _ = _
      simp only [z_tup, z_cons, z_var, List.getElem?_cons_zero, List.getElem?_cons_succ, z_var_ok, z_cons1, z_anil, z_cons2, z_args_ok, z_tup_ok, List.length_cons, List.length_nil, Nat.reduceAdd, Nat.reduceLeDiff]) (by decide)
  unfold everyL1
  rw [z_set, z_bin, z_var]
  simp only [List.getElem?_cons_zero, z_var_ok, z_bin_ok, h1, z_un_ok]
  have h2 : (fours.filter fun _ => true) = fours := rfl
  rw [h2, cat_F (xs := xs) (ys := fours.map fun z => .tup [a, b, z]) rfl (by unfold listItems; dsimp only; simp) (by simp [fours]; omega), z_set_ok]
  rfl
theorem every_mid {a : D} {xs : List D} {M : MH} {x2 x3 : Option D} (h : xs.length ≤ 60) : ∃ e G, everyL2 [some (.fro xs), some a, x2, x3] M = .nx e (M ++ G) ∧ e = [some (.fro (xs ++ fours.flatMap fun b => fours.map fun z => .tup [a, b, z])), some a, some (.int 2), x3] := by
  unfold everyL2
  rw [z_for, four_run, z_for_v]
  refine ⟨_, [.lst (fours.map fun z => .tup [a, .non, z]), .lst (fours.map fun z => .tup [a, .int 0, z]), .lst (fours.map fun z => .tup [a, .int 1, z]), .lst (fours.map fun z => .tup [a, .int 2, z])], ?_, rfl⟩
  have hl : ∀ b : D, (fours.map fun z => D.tup [a, b, z]).length = 4 := fun b => rfl
  unfold fours
  rw [z_fv, List.set_cons_succ, List.set_cons_succ, List.set_cons_zero, every_in (by omega), z_fv_nx]
  rw [z_fv, List.set_cons_succ, List.set_cons_succ, List.set_cons_zero, every_in (by simp [fours]; omega), z_fv_nx]
  rw [z_fv, List.set_cons_succ, List.set_cons_succ, List.set_cons_zero, every_in (by simp [fours]; omega), z_fv_nx]
  rw [z_fv, List.set_cons_succ, List.set_cons_succ, List.set_cons_zero, every_in (by simp [fours]; omega), z_fv_nx]
  rw [z_fv0]
  simp [fours]
theorem every_run {M : MH} : everyM [] M = .ok (.fro rowsD) M := by
  have key : ∃ G, fnB 4 everyB [] M = .ok (.fro rowsD) (M ++ G) := by
    rw [z_fn, everyB]
    have h0 : env0 4 [] = [none, none, none, none] := rfl
    rw [h0, z_seq, z_set, z_fro, z_anil, z_args_ok, z_fro_ok (by decide), z_set_ok, z_seq_nx, z_seq, z_for, four_run, z_for_v, List.set_cons_zero]
    have hl : ∀ a : D, (fours.flatMap fun b => fours.map fun z => D.tup [a, b, z]).length = 16 := fun a => rfl
    unfold fours
    obtain ⟨_, G1, h1, rfl⟩ := every_mid (a := .non) (xs := []) (M := M) (x2 := none) (x3 := none) (by decide)
    rw [z_fv, List.set_cons_succ, List.set_cons_zero, h1, z_fv_nx]
    obtain ⟨_, G2, h2, rfl⟩ := every_mid (a := .int 0) (xs := [] ++ fours.flatMap fun b => fours.map fun z => .tup [.non, b, z]) (M := M ++ G1) (x2 := some (.int 2)) (x3 := none) (by decide)
    rw [z_fv, List.set_cons_succ, List.set_cons_zero, h2, z_fv_nx]
    obtain ⟨_, G3, h3, rfl⟩ := every_mid (a := .int 1) (xs := ([] ++ fours.flatMap fun b => fours.map fun z => .tup [.non, b, z]) ++ fours.flatMap fun b => fours.map fun z => .tup [.int 0, b, z]) (M := M ++ G1 ++ G2) (x2 := some (.int 2)) (x3 := none) (by decide)
    rw [z_fv, List.set_cons_succ, List.set_cons_zero, h3, z_fv_nx]
    obtain ⟨_, G4, h4, rfl⟩ := every_mid (a := .int 2) (xs := (([] ++ fours.flatMap fun b => fours.map fun z => .tup [.non, b, z]) ++ fours.flatMap fun b => fours.map fun z => .tup [.int 0, b, z]) ++ fours.flatMap fun b => fours.map fun z => .tup [.int 1, b, z]) (M := M ++ G1 ++ G2 ++ G3) (x2 := some (.int 2)) (x3 := none) (by decide)
    rw [z_fv, List.set_cons_succ, List.set_cons_zero, h4, z_fv_nx, z_fv0, z_seq_nx, z_ret, z_var, List.getElem?_cons_zero, z_var_ok, z_ret_ok, z_toR_rt]
    refine ⟨G1 ++ (G2 ++ (G3 ++ G4)), ?_⟩
    simp only [List.append_assoc]
    congr 1
  obtain ⟨G, hG⟩ := key
  exact frzP_fro (k := 2) hG fun a ha => by obtain ⟨r, rfl⟩ := rowsD_mem ha; exact pd_row r
theorem for_find' {α : Type} {i : Nat} {body : SM} {M : MH} {f g : α → D} {p : α → Bool} {I : Env2 → Prop} :
    ∀ (l : List α) (hb : ∀ a ∈ l, ∀ e, I e → (p a = true → body (e.set i (some (f a))) M = .rt (g a) M) ∧ (p a = false → ∃ e2, (body (e.set i (some (f a))) M = .nx e2 M ∨ body (e.set i (some (f a))) M = .ct e2 M) ∧ I e2)) (e : Env2), I e → (∃ a, l.find? p = some a ∧ forV (tgName i) body (l.map f) e M = .rt (g a) M) ∨ (l.find? p = none ∧ ∃ e', I e' ∧ forV (tgName i) body (l.map f) e M = .nx e' M)
  | [], _, e, hI => .inr ⟨rfl, e, hI, rfl⟩
  | a :: l, hb, e, hI => by
    obtain ⟨h1, h2⟩ := hb a (by simp) e hI
    rw [List.map_cons, z_fv, List.find?_cons]
    cases hp : p a with
    | true => rw [h1 hp]; exact .inl ⟨a, rfl, rfl⟩
    | false =>
      obtain ⟨e2, h3, h4⟩ := h2 hp
      rcases h3 with h3 | h3
      · rw [h3, z_fv_nx]; exact for_find' l (fun b hb' => hb b (by simp [hb'])) e2 h4
      · rw [h3, z_fv_ct]; exact for_find' l (fun b hb' => hb b (by simp [hb'])) e2 h4
end T2
namespace T2
open PySem L2

/-! ### plain data without truth values: == is equality -/
def Nb : Nat → D → Prop
  | 0, _ => False
  | k + 1, x => x = .non ∨ (∃ i, x = .int i) ∨ (∃ s, x = .str s ∧ PyData.strOk s = true) ∨ (∃ xs, x = .tup xs ∧ ∀ a ∈ xs, Nb k a) ∨ ∃ xs, x = .fro xs ∧ ∀ a ∈ xs, Nb k a
theorem nb_non {k : Nat} : Nb (k + 1) .non := .inl rfl
theorem nb_int {k : Nat} {i : Int} : Nb (k + 1) (.int i) := .inr (.inl ⟨i, rfl⟩)
theorem nb_str {k : Nat} {s : Str} (h : PyData.strOk s = true) : Nb (k + 1) (.str s) := .inr (.inr (.inl ⟨s, rfl, h⟩))
theorem nb_tup {k : Nat} {xs : List D} (h : ∀ a ∈ xs, Nb k a) : Nb (k + 1) (.tup xs) := .inr (.inr (.inr (.inl ⟨xs, rfl, h⟩)))
theorem nb_fro {k : Nat} {xs : List D} (h : ∀ a ∈ xs, Nb k a) : Nb (k + 1) (.fro xs) := .inr (.inr (.inr (.inr ⟨xs, rfl, h⟩)))
theorem Nb.up : ∀ {k : Nat} {x : D}, Nb k x → Nb (k + 1) x
  | 0, _, h => h.elim
  | k + 1, x, h => by
    rcases h with rfl | ⟨i, rfl⟩ | ⟨s, rfl, ho⟩ | ⟨xs, rfl, ha⟩ | ⟨xs, rfl, ha⟩
    · exact nb_non
    · exact nb_int
    · exact nb_str ho
    · exact nb_tup fun a m => (ha a m).up
    · exact nb_fro fun a m => (ha a m).up
theorem Nb.mono {k m : Nat} {d : D} (h : Nb k d) (hm : k ≤ m) : Nb m d := by
  obtain ⟨j, rfl⟩ : ∃ j, m = k + j := ⟨m - k, by omega⟩
  clear hm
  induction j with
  | zero => exact h
  | succ j ih => exact ih.up
theorem nb_P : ∀ {k : Nat} {x : D}, Nb k x → ∃ p, (∀ rf, toPa rf x = some p) ∧ PyData.canLay0 p = true ∧ PyData.depth p ≤ k
  | 0, _, h => h.elim
  | k + 1, x, h => by
    have key : ∀ ys : List D, (∀ a ∈ ys, Nb k a) → ∃ ps, (∀ rf, toPas rf ys = some ps) ∧ PyData.canLayAll0 ps = true ∧ PyData.depthAll ps ≤ k := by
      intro ys
      induction ys with
      | nil => exact fun _ => ⟨[], fun _ => rfl, rfl, by simp [PyData.depthAll]⟩
      | cons y ys ih =>
        intro h
        obtain ⟨p, h1, h2, h3⟩ := nb_P (h y (by simp))
        obtain ⟨ps, g1, g2, g3⟩ := ih fun a m => h a (by simp [m])
        refine ⟨p :: ps, fun rf => by rw [toPas, h1, g1], by rw [PyData.canLayAll0, h2, g2]; rfl, ?_⟩
        rw [PyData.depthAll]; omega
    rcases h with rfl | ⟨i, rfl⟩ | ⟨s, rfl, ho⟩ | ⟨xs, rfl, ha⟩ | ⟨xs, rfl, ha⟩
    · exact ⟨.none, fun _ => rfl, rfl, by simp [PyData.depth]⟩
    · exact ⟨.int i, fun _ => rfl, rfl, by simp [PyData.depth]⟩
    · exact ⟨.str s, fun _ => rfl, ho, by simp [PyData.depth]⟩
    · obtain ⟨ps, g1, g2, g3⟩ := key xs ha
      refine ⟨.tuple ps, fun rf => by rw [toPa, g1]; rfl, by rw [PyData.canLay0]; exact g2, ?_⟩
      rw [PyData.depth]; omega
    · obtain ⟨ps, g1, g2, g3⟩ := key xs ha
      refine ⟨.list ps, fun rf => by rw [toPa, g1]; rfl, by rw [PyData.canLay0]; exact g2, ?_⟩
      rw [PyData.depth]; omega
theorem nb_eqv : ∀ {k : Nat} {x y : D} {rf : Nat → Option PyData} {p q : PyData}, Nb k x → Nb k y → toPa rf x = some p → toPa rf y = some q → (PyData.eqv p q = true ↔ x = y)
  | 0, _, _, _, _, _, h, _, _, _ => h.elim
  | k + 1, x, y, rf, p, q, hx, hy, e1, e2 => by
    have key : ∀ xs ys : List D, (∀ a ∈ xs, Nb k a) → (∀ a ∈ ys, Nb k a) → ∀ ps qs, toPas rf xs = some ps → toPas rf ys = some qs → (PyData.eqvAll ps qs = true ↔ xs = ys) := by
      intro xs
      induction xs with
      | nil =>
        intro ys _ _ ps qs h1 h2
        cases h1
        cases ys with
        | nil => cases h2; simp [PyData.eqvAll]
        | cons y ys =>
          rw [toPas] at h2
          split at h2
          · cases h2; simp [PyData.eqvAll]
          · cases h2
      | cons x xs ih =>
        intro ys ha hb ps qs h1 h2
        rw [toPas] at h1
        split at h1
        · rename_i p' ps' e3 e4
          cases h1
          cases ys with
          | nil => cases h2; simp [PyData.eqvAll]
          | cons y ys =>
            rw [toPas] at h2
            split at h2
            · rename_i q' qs' e5 e6
              cases h2
              rw [PyData.eqvAll, Bool.and_eq_true, nb_eqv (ha x (by simp)) (hb y (by simp)) e3 e5, ih ys (fun a m => ha a (by simp [m])) (fun a m => hb a (by simp [m])) ps' qs' e4 e6]
              simp
            · cases h2
        · cases h1
    rcases hx with rfl | ⟨i, rfl⟩ | ⟨s, rfl, ho⟩ | ⟨xs, rfl, ha⟩ | ⟨xs, rfl, ha⟩ <;> rcases hy with rfl | ⟨j, rfl⟩ | ⟨s', rfl, ho'⟩ | ⟨ys, rfl, hb⟩ | ⟨ys, rfl, hb⟩ <;>
      simp only [toPa, Option.some.injEq, Option.map_eq_some_iff] at e1 e2
    all_goals first
      | (obtain ⟨ps, g1, rfl⟩ := e1; obtain ⟨qs, g2, rfl⟩ := e2; simp only [PyData.eqv, key xs ys ha hb ps qs g1 g2, D.tup.injEq, D.fro.injEq]; done)
      | (obtain ⟨ps, g1, rfl⟩ := e1; obtain ⟨qs, g2, rfl⟩ := e2; simp [PyData.eqv]; done)
      | (obtain ⟨ps, g1, rfl⟩ := e1; subst e2; simp [PyData.eqv]; done)
      | (obtain ⟨qs, g2, rfl⟩ := e2; subst e1; simp [PyData.eqv]; done)
      | (subst e1; subst e2; simp [PyData.eqv]; done)
open Classical in
theorem eq_nb {k : Nat} {x y : D} (hk : k ≤ 64) (hx : Nb k x) (hy : Nb k y) {M : MH} : dEq x y M = .ok (.bl (decide (x = y))) M := by
  obtain ⟨p, h1, h2, h3⟩ := nb_P hx
  obtain ⟨q, g1, g2, g3⟩ := nb_P hy
  unfold dEq toP
  have e := nb_eqv hx hy (h1 (rfOf M 4)) (g1 (rfOf M 4))
  rw [h1, g1]
  dsimp only
  rw [if_pos]
  · congr 2
    rw [Bool.eq_iff_iff, e, decide_eq_true_iff]
  · unfold SeqAt.shaped
    rw [h2, g2]
    simp only [Bool.true_and, decide_eq_true_eq]
    exact ⟨by omega, by omega⟩
open Classical in
theorem ne_nb {k : Nat} {x y : D} (hk : k ≤ 64) (hx : Nb k x) (hy : Nb k y) {M : MH} : dNe x y M = .ok (.bl (!decide (x = y))) M := by
  obtain ⟨p, h1, h2, h3⟩ := nb_P hx
  obtain ⟨q, g1, g2, g3⟩ := nb_P hy
  unfold dNe toP
  have e := nb_eqv hx hy (h1 (rfOf M 4)) (g1 (rfOf M 4))
  rw [h1, g1]
  dsimp only
  rw [if_pos]
  · congr 3
    rw [Bool.eq_iff_iff, e, decide_eq_true_iff]
  · unfold SeqAt.shaped
    rw [h2, g2]
    simp only [Bool.true_and, decide_eq_true_eq]
    exact ⟨by omega, by omega⟩
/-! ### rows by their places -/
def rowAt (k : Nat) : Rw := rowsR.getD k ⟨none, none, none⟩
theorem rowsR_at : rowsR = (List.range 64).map rowAt := by decide +kernel
theorem rowsR_get {k : Nat} (h : k < 64) : rowsR[k]? = some (rowAt k) := by
  rw [rowsR_at, List.getElem?_map, List.getElem?_range h]; rfl
theorem rowsD_at {k : Nat} (h : k < 64) {M : MH} : dIxA (.fro rowsD) (.int (k : Nat)) M = .ok (rowAt k).d M := by
  rw [rowsD_R]
  exact ix_fro (atI_nat (j := k) (by rw [List.getElem?_map, rowsR_get h]; rfl))
theorem rng64 {e : Env2} {M : MH} : iRange1 (eC (.int 64)) e M = .ok (.vals (rangeD 0 64)) M := rfl
end T2
namespace T2
open PySem L2 PyProof.Rows

/-! ### list * int -/
section
variable {X : Cx} {g : Wd} {W : WY} {a b : Expr} {pos : Pos} {m1 m2 : EM}
end

/-! ### def f(a, .., *v, k, ..): called with plain arguments and every keyword -/
def FnRK (P : Program) (w : World) (K : PySem.W.Frag) (mg : Str → Option Value) (base : Heap) (CX : CXT) (k : Nat) (f : Addr) (ks : List Str) (sp : List V → List V → Hp → VK → XK → Prop) : Prop :=
  ∀ (A : Around) (outer : List Env) (s : Shared) (H : Hp) (us : List Value) (vs : List V) (ws : List Value) (zs : List V) (Q : VK) (E : XK), Room k A → Env0 P w K mg base A outer s H → Vals vs us → Vals zs ws → zs.length = ks.length → sp vs zs H Q E →
    codeAny (model P w) A (.call (.ref f) ⟨us, ks.zip ws⟩) (CR CX outer P w H s Q E) s
theorem FnRK.mono {P : Program} {w : World} {K : PySem.W.Frag} {mg : Str → Option Value} {base : Heap} {CX : CXT} {j k : Nat} {f : Addr} {ks : List Str} {sp : List V → List V → Hp → VK → XK → Prop} (F : FnRK P w K mg base CX j f ks sp) (h : j ≤ k) : FnRK P w K mg base CX k f ks sp :=
  fun A outer s H us vs ws zs Q E hr => F A outer s H us vs ws zs Q E (hr.mono h)
section
variable {CX : CXT} {P : Program} {w : World} {K : PySem.W.Frag} {mg : Str → Option Value} {base : Heap} {k : Nat} {f : Addr} {name qual : Str} {params : Arguments} {body : List Stmt} {scope : Scope} {dV kV doc pm cdv ct oc : Value} {an od : Option Addr}
  {osl : Array (Option Value)} {N ps ks : List Str}
end
section
variable {X : Cx} {g : Wd} {W : WY} {e : Expr} {es : List Expr} {pos p : Pos} {ma mk : AM} {k n : Nat} {f : Addr} {m : List D → MH → Res D} {x : Str} {kws : List Keyword} {ks : List Str}
end
end T2
namespace T2
open PySem L2 PyProof.Rows

/-! ### continue; chained comparisons -/
def sCt : SM := fun e M => .ct e M
section
variable {X : Cx} {g : Wd} {W : WY} {a b c o : Expr} {pos p apos : Pos} {m1 m2 m3 : EM} {ma : AM} {es : List Expr}
theorem ds_continue : PS X (.Continue pos) (tS g W sCt) := ps_imp ps_continue fun E σ H ⟨F, e, M, RS, q⟩ => q F H σ .same RS.m RS.e RS.x
/-! ### xs.insert(i, y); xs.clear() -/
end
end T2
namespace T2
open PySem L2 PyProof.Rows
/-! ### x in o, by the own __contains__; len(o), by the own __len__ -/
section
variable {X : Cx} {CX : CXT} {k : Nat} {f C : Addr} {fd : FuncData} {ps : List Str} {sp : Sp} {E : L2.St → XK} {x m : Str} {p pos apos : Pos} {a b e o : Expr} {es : List Expr} {ta tb : TE} {t : TA}
end
section
variable {X : Cx} {g : Wd} {W : WY} {a b o : Expr} {pos p apos : Pos} {m1 m2 : EM} {ma : AM} {es : List Expr} {k n : Nat} {f C : Addr} {fd : FuncData} {ps : List Str} {m : List D → MH → Res D} {x mn : Str} {c : Nat} {neg : Bool}
end
end T2
namespace T2
open PySem L2
section
variable {X : Cx} {g : Wd} {W : WY} {a b c : Expr} {pos : Pos} {m1 m2 m3 : EM}
end
end T2
namespace T2
open PySem PySem.Spec L2 PyProof.Rows HotX

/-! ### a comprehension over a list while an exception is handled -/
section
variable {prog : Program} {w : World} {A : Around} {E : Value → Shared → Prop} {s : Shared}
end
end T2
namespace T2
open PySem PySem.Spec L2 PyProof.Rows HotX
section
variable {X : Cx}
end
end T2
namespace T2
open PySem L2
section
variable {X : Cx} {g : Wd} {W : WY} {m1 m : EM} {tt : BM} {elt tgE iter : Expr} {ifs : List Expr} {scope : Scope} {own : List (Str × Nat)} {pos : Pos}
end
end T2
namespace T2
open PySem L2
/-! ### a row is drawn -/
def rowL : SM :=
    sSet 1 (eBin dAdd (eVar 1) (eTup (eCons (eBin dIxA (eTup (eCons (eC .non) (eCons (eC (.int 0)) (eCons (eC (.int 1)) (eCons (eC (.int 2)) (eCons (eC (.int 0)) (eCons (eC (.int 1)) (eNil)))))))) (eCall 2 drawM (eCons (eVar 0) (eCons (eC (.int 6)) (eNil))))) (eNil))))
def rowB : SM :=
    sSeq (sSet 1 (eTup (eNil)))
    (sSeq (sForI (iRange1 (eC (.int 3))) (tgName 2) rowL)
    (sRet (eVar 1)))
def rowM : List D → MH → Res D := fnB 3 rowB
theorem rowL_run {s : Bx} {R : MH} {xs : List D} {a2 : Option D} (hs : BxOk s) (hl : xs.length ≤ 10) : ∃ (v : Vl) (s' : Bx), BxOk s' ∧ rowL [some (.ref 0), some (.tup xs), a2] (s.obj :: R) = .nx [some (.ref 0), some (.tup (xs ++ [Vl.d v])), a2] (s'.obj :: R) := by
  obtain ⟨r, s1, e1, r0, r1, h1⟩ := draw_at (R := R) (n := 6) hs (by decide) (by decide)
  obtain ⟨v, hv⟩ : ∃ v : Vl, ∀ M, dIxA (.tup [.non, .int 0, .int 1, .int 2, .int 0, .int 1]) (.int r) M = .ok (Vl.d v) M := by
    have : r = 0 ∨ r = 1 ∨ r = 2 ∨ r = 3 ∨ r = 4 ∨ r = 5 := by omega
    rcases this with rfl | rfl | rfl | rfl | rfl | rfl
    · exact ⟨none, fun _ => rfl⟩
    · exact ⟨some .z, fun _ => rfl⟩
    · exact ⟨some .o, fun _ => rfl⟩
    · exact ⟨some .t, fun _ => rfl⟩
    · exact ⟨some .z, fun _ => rfl⟩
    · exact ⟨some .o, fun _ => rfl⟩
  refine ⟨v, s1, h1, ?_⟩
  have ha : ∀ M, dAdd (.tup xs) (.tup [Vl.d v]) M = .ok (.tup (xs ++ [Vl.d v])) M := fun M => by
    unfold dAdd
    dsimp only
    rw [if_pos (by simp only [List.length_cons, List.length_nil]; have : (11 : Nat) ≤ big := by decide
                   omega)]
  unfold rowL
  simp only [z_seq, z_seq_nx, z_seq_rt, z_seq_ex, z_seq_bk, z_seq_ct, z_if, z_if_t, z_if_f, z_if_x, z_set, z_set_ok, z_set_x, z_ret, z_ret_ok, z_ret_x, z_retN, z_do, z_do_ok, z_do_x, z_nil, z_raise0, z_raise, z_raise_ok, z_toR_rt, z_toR_nx, z_toR_ex, z_c, z_var, z_var_ok, z_un, z_un_ok, z_un_x, z_bin, z_bin_ok, z_bin_x, z_anil, z_cons, z_cons1, z_cons1x, z_cons2, z_cons2x, z_args, z_args_ok, z_args_x, z_tup, z_tup_ok, z_fro, z_fro_ok, z_lst, z_lst_ok, z_call, z_stat, z_call_ok, z_callk, z_callk1, z_callk2, z_mkF, z_mkF_ok, z_own1, z_own1_ok, z_prop, z_own2, z_own2_ok, z_val, z_val_ok, z_val_x, z_and, z_and_t, z_and_f, z_or, z_or_t, z_or_f, z_not, z_not_ok, z_yes, z_eand, z_eand_t, z_eand_f, z_eor, z_eor_t, z_eor_f, z_enot, z_enot_ok, z_eif, z_eif_t, z_eif_f, z_for, z_for_v, z_iseq, z_iseq_t, z_iseq_f, z_iseq_r, z_rng, z_rng_ok, z_env0, z_try, z_try_nx, z_try_rt, z_try0, z_try0_nx, z_try0_rt, z_for_l, z_fv0, z_fv_nx, z_fv_ct, z_fv_rt, z_lc_v, z_step, z_step_ok, z_istr, z_istr_ok, z_env0, List.map_cons, List.map_nil, List.replicate, List.append_nil, Nat.reduceSub, List.cons_append, List.nil_append, List.length_cons, List.length_nil, Nat.reduceAdd, Nat.reduceLeDiff, List.getElem?_cons_zero, List.getElem?_cons_succ, List.set_cons_zero, List.set_cons_succ, Bool.not_true, Bool.not_false, e1, hv, ha]
theorem row_run {s : Bx} {R : MH} (hs : BxOk s) : ∃ (r : Rw) (s' : Bx), rowM [.ref 0] (s.obj :: R) = .ok r.d (s'.obj :: R) ∧ BxOk s' := by
  obtain ⟨x, s1, h1, e1⟩ := rowL_run (R := R) (xs := []) (a2 := some (.int 0)) hs (by decide)
  obtain ⟨y, s2, h2, e2⟩ := rowL_run (R := R) (xs := [Vl.d x]) (a2 := some (.int 1)) h1 (by simp)
  obtain ⟨z, s3, h3, e3⟩ := rowL_run (R := R) (xs := [Vl.d x, Vl.d y]) (a2 := some (.int 2)) h2 (by simp)
  refine ⟨⟨x, y, z⟩, s3, ?_, h3⟩
  have hi : iRange1 (eC (.int 3)) [some (.ref 0), some (.tup []), none] (s.obj :: R) = .ok (.vals [.int 0, .int 1, .int 2]) (s.obj :: R) := rfl
  have lp : forV (tgName 2) rowL [.int 0, .int 1, .int 2] [some (.ref 0), some (.tup []), none] (s.obj :: R) = .nx [some (.ref 0), some (.tup [Vl.d x, Vl.d y, Vl.d z]), some (.int 2)] (s3.obj :: R) := by
    rw [forV, show tgName 2 (.int 0) [some (.ref 0), some (.tup []), none] = some [some (.ref 0), some (.tup []), some (.int 0)] from rfl]
    dsimp only
    rw [e1]
    dsimp only
    rw [forV, show tgName 2 (.int 1) [some (.ref 0), some (.tup ([] ++ [Vl.d x])), some (.int 0)] = some [some (.ref 0), some (.tup [Vl.d x]), some (.int 1)] from rfl]
    dsimp only
    rw [e2]
    dsimp only
    rw [forV, show tgName 2 (.int 2) [some (.ref 0), some (.tup ([Vl.d x] ++ [Vl.d y])), some (.int 1)] = some [some (.ref 0), some (.tup [Vl.d x, Vl.d y]), some (.int 2)] from rfl]
    dsimp only
    rw [e3]
    rfl
  unfold rowM rowB
  rw [z_fn, show env0 3 [.ref 0] = [some (.ref 0), none, none] from rfl]
  have x1 : sSet 1 (eTup eNil) [some (.ref 0), none, none] (s.obj :: R) = .nx [some (.ref 0), some (.tup []), none] (s.obj :: R) := rfl
  rw [seq_run x1 (seq_run (for_nx hi lp) (ret_rt (var_ok rfl)))]
  rfl
end T2
namespace T2
open PySem L2
/-! ### values, columns, rows are checked -/
section
variable {isi : Tg → Tg → Option Bool} {M : MH} {d : D} {k : Nat}
end
end T2
namespace T2
open PySem L2
/-! ### names are checked -/
def alpha : Str := "abcdefghijklmnopqrstuvwxyz"
def badWord (z : Str) : Bool := decide (z ∈ [("on" : Str), "set", "new"])
def lenOkB (z : Str) : Bool := decide ((1 : Int) ≤ z.length) && decide ((z.length : Int) ≤ 8)
def signsOkB (z : Str) : Bool := z.cps.toList.all fun c => decide (c ∈ alpha.cps.toList)
def nameOkB (z : Str) : Bool := lenOkB z && !badWord z && signsOkB z
section
variable {isi : Tg → Tg → Option Bool} {M : MH}
end
end T2
namespace T2
open PySem L2
/-! ### the laws' own check of a name -/
section
variable {M : MH}
/-- a list of plain data is compared as the data -/
theorem eq_lst {n : Nat} {ds : List D} {y : D} (h : M[n]? = some (.lst ds)) (hn : ∀ a ∈ ds, Nb 3 a) : dEq (.ref n) y M = dEq (.fro ds) y M := by
  obtain ⟨p, h1, -, -⟩ := nb_P (nb_fro hn)
  have e : toP M 4 (.ref n) = toP M 4 (.fro ds) := by
    have a1 := h1 (rfOf M 3)
    have a2 := h1 (rfOf M 4)
    rw [toP_ref, h]
    dsimp only
    rw [← toP_fro]
    unfold toP
    rw [a1, a2]
  unfold dEq
  rw [e]
end
end T2
namespace T2
open PySem L2
/-! ### the laws' own check of a row -/
/-- a part of a row as the laws make it -/
def Vi (d : D) : Prop := d = .non ∨ ∃ i, d = .int i
theorem Vi.nb {d : D} {k : Nat} (h : Vi d) : Nb (k + 1) d := by
  rcases h with rfl | ⟨i, rfl⟩
  · exact nb_non
  · exact nb_int
section
variable {M : MH}
end
end T2
namespace T2
open PySem L2
/-! ### a row that is no row -/
theorem Vi.of (v : Vl) : Vi (Vl.d v) := by
  cases v with
  | none => exact .inl rfl
  | some c => exact .inr ⟨_, rfl⟩
end T2
namespace T2
open PySem L2
/-! ### a name is checked (own exception), a bad name is made -/
end T2
namespace T2
open PySem L2
/-! ### sets that are no sets -/
end T2
namespace T2
open PySem L2
/-! ### conditions are checked -/
def words : List (Str × Nat) := [("always", 1), ("equal", 3), ("below", 3), ("unknown", 2), ("quotient", 4), ("not", 2), ("and", 3), ("or", 3)]
def isCol : D → Bool
  | .int i => decide (0 ≤ i) && decide (i ≤ 2)
  | _ => false
section
variable {isi : Tg → Tg → Option Bool} {k : Nat}
end
/-! ### the laws' own check of a condition -/
end T2
namespace T2
open PySem L2
/-! ### names that are names, each once -/
theorem low_signs {z : Str} (h : Low z) : signsOkB z = true := by
  unfold signsOkB
  rw [List.all_eq_true]
  intro c hc
  obtain ⟨a, b⟩ := h c hc
  refine decide_eq_true ?_
  rw [show alpha.cps.toList = _ from abc_list, List.mem_map]
  exact ⟨c - 97, List.mem_range.mpr (by omega), by omega⟩
theorem name_ok {z : Str} (h : Low z) (h1 : 1 ≤ z.length) (h2 : z.length ≤ 8) (hw : z ∉ [("on" : Str), "set", "new"]) : nameOkB z = true := by
  unfold nameOkB lenOkB badWord
  rw [low_signs h, decide_eq_true (show (1 : Int) ≤ z.length by omega), decide_eq_true (show (z.length : Int) ≤ 8 by omega), decide_eq_false hw]
  rfl
theorem free_mem2 {z : Str} {zs : List Str} {d : D} (h : d ∈ freeOf z zs) : ∃ c, d = .str ⟨#[c]⟩ ∧ 97 ≤ c ∧ c ≤ 122 ∧ z ++ (⟨#[c]⟩ : Str) ∉ zs ∧ z ++ (⟨#[c]⟩ : Str) ∉ [("on" : Str), "set", "new"] := by
  obtain ⟨c, rfl, h1, h2⟩ := free_mem h
  have := (List.mem_filter.mp h).2
  dsimp only at this
  have : z ++ (⟨#[c]⟩ : Str) ∉ zs ++ [("on" : Str), "set", "new"] := by simpa using this
  rw [List.mem_append, not_or] at this
  exact ⟨c, rfl, h1, h2, this.1, this.2⟩
/-- the last part of a turn: a free sign is drawn, the name goes to the list -/
theorem last_run2 {s : Bx} {T : MH} {p : Nat} {z : Str} {zs : List Str} {a1 a4 a6 : Option D} (hs : BxOk s) (hT : T[p]? = some (MO.lst (zs.map D.str))) (hz : Low z) (hl : z.length ≤ 7) (hn : zs.length ≤ 10) :
    ∃ c s', (97 ≤ c ∧ c ≤ 122 ∧ z ++ (⟨#[c]⟩ : Str) ∉ zs ∧ z ++ (⟨#[c]⟩ : Str) ∉ [("on" : Str), "set", "new"]) ∧ BxOk s' ∧ namesL3 [some (.ref 0), a1, some (.str ("abcdefghijklmnopqrstuvwxyz" : Str)), some (.ref (p + 1)), a4, some (.str z), a6, some (.ref (T.length + 1)), none] (s.obj :: (T ++ [MO.lst (freeOf z zs)])) =
      .nx [some (.ref 0), a1, some (.str ("abcdefghijklmnopqrstuvwxyz" : Str)), some (.ref (p + 1)), a4, some (.str z), a6, some (.ref (T.length + 1)), none] (s'.obj :: (T ++ [MO.lst (freeOf z zs)]).set p (MO.lst (zs.map D.str ++ [D.str (z ++ ⟨#[c]⟩)]))) := by
  have hp : p < T.length := (List.getElem?_eq_some_iff.mp hT).1
  have hfr : 0 < (freeOf z zs).length := free_some (by omega)
  have hfl := free_le (z := z) (zs := zs)
  obtain ⟨q, s3, e4, q0, q1, h3⟩ := draw_at (R := T ++ [MO.lst (freeOf z zs)]) (n := (freeOf z zs).length) hs (by omega) (by omega)
  have hq : q.toNat < (freeOf z zs).length := by omega
  obtain ⟨c, hc, cc⟩ := free_mem2 (List.getElem_mem hq)
  have hfM : ∀ s : Bx, SeqOf (s.obj :: (T ++ [MO.lst (freeOf z zs)])) "list" (.ref (T.length + 1)) (freeOf z zs) := fun s => ref_seq (by simp) s
  have e5 := (hfM s3).ix (List.getElem?_eq_getElem hq)
  rw [show ((q.toNat : Nat) : Int) = q by omega, hc] at e5
  have e6 := (hfM s).len
  have one : (⟨#[c]⟩ : Str).length = 1 := rfl
  have e7 := add_str (a := z) (b := ⟨#[c]⟩) (M := s3.obj :: (T ++ [MO.lst (freeOf z zs)])) (by omega)
  have hTp : ∀ s : Bx, (s.obj :: (T ++ [MO.lst (freeOf z zs)]))[p + 1]? = some (MO.lst (zs.map D.str)) := fun s => by
    rw [List.getElem?_cons_succ, List.getElem?_append_left hp]; exact hT
  refine ⟨c, s3, cc, h3, ?_⟩
  rw [namesL3, z_do]
  have e8 := app_run (e := [some (.ref 0), a1, some (.str ("abcdefghijklmnopqrstuvwxyz" : Str)), some (.ref (p + 1)), a4, some (.str z), a6, some (.ref (T.length + 1)), none]) (M := s.obj :: (T ++ [MO.lst (freeOf z zs)])) (M2 := s3.obj :: (T ++ [MO.lst (freeOf z zs)])) (n := p + 1) (ds := zs.map D.str) (y := .str (z ++ ⟨#[c]⟩)) (mo := eVar 3) (ma := eBin dAdd (eVar 5) (eBin dIxA (eVar 7) (eCall 2 drawM (eCons (eVar 0) (eCons (eArgs dLen (eCons (eVar 7) (eNil))) (eNil)))))) rfl ⟨_, hTp s⟩ (by
    simp only [z_seq, z_seq_nx, z_seq_rt, z_seq_ex, z_seq_bk, z_seq_ct, z_if, z_if_t, z_if_f, z_if_x, z_set, z_set_ok, z_set_x, z_ret, z_ret_ok, z_ret_x, z_retN, z_do, z_do_ok, z_do_x, z_nil, z_raise0, z_raise, z_raise_ok, z_toR_rt, z_toR_nx, z_toR_ex, z_c, z_var, z_var_ok, z_un, z_un_ok, z_un_x, z_bin, z_bin_ok, z_bin_x, z_anil, z_cons, z_cons1, z_cons1x, z_cons2, z_cons2x, z_args, z_args_ok, z_args_x, z_tup, z_tup_ok, z_fro, z_fro_ok, z_lst, z_lst_ok, z_call, z_stat, z_call_ok, z_callk, z_callk1, z_callk2, z_mkF, z_mkF_ok, z_own1, z_own1_ok, z_prop, z_own2, z_own2_ok, z_val, z_val_ok, z_val_x, z_and, z_and_t, z_and_f, z_or, z_or_t, z_or_f, z_not, z_not_ok, z_yes, z_eand, z_eand_t, z_eand_f, z_eor, z_eor_t, z_eor_f, z_enot, z_enot_ok, z_eif, z_eif_t, z_eif_f, z_for, z_for_v, z_iseq, z_iseq_t, z_iseq_f, z_iseq_r, z_rng, z_rng_ok, z_env0, z_try, z_try_nx, z_try_rt, z_try0, z_try0_nx, z_try0_rt, z_for_l, z_fv0, z_fv_nx, z_fv_ct, z_fv_rt, z_lc, z_lc_v, z_step, z_step_ok, z_istr, z_istr_ok, z_env0, List.map_cons, List.map_nil, List.replicate, List.append_nil, Nat.reduceSub, List.cons_append, List.nil_append, List.length_cons, List.length_nil, Nat.reduceAdd, Nat.reduceLeDiff, List.getElem?_cons_zero, List.getElem?_cons_succ, List.set_cons_zero, List.set_cons_succ, Bool.not_true, Bool.not_false, e6, e4, e5, e7]) (hTp s3) (by rw [List.length_map]; omega)
  rw [e8, z_do_ok, List.set_cons_succ]
theorem turn_run2 {s : Bx} {T : MH} {p : Nat} {zs : List Str} {a1 a4 a5 a6 a7 : Option D} (hs : BxOk s) (hT : T[p]? = some (MO.lst (zs.map D.str))) (hn : zs.length ≤ 10) :
    ∃ z s' G a6' q, (nameOkB z = true ∧ Low z ∧ z ∉ zs) ∧ BxOk s' ∧ namesL2 [some (.ref 0), a1, some (.str ("abcdefghijklmnopqrstuvwxyz" : Str)), some (.ref (p + 1)), a4, a5, a6, a7, none] (s.obj :: T) =
      .nx [some (.ref 0), a1, some (.str ("abcdefghijklmnopqrstuvwxyz" : Str)), some (.ref (p + 1)), a4, some (.str q), a6', some (.ref (T.length + 1)), none] (s'.obj :: (T ++ [G]).set p (MO.lst (zs.map D.str ++ [D.str z]))) := by
  obtain ⟨r, s1, e1, r0, r1, h1⟩ := draw_at (R := T) (n := 8) hs (by decide) (by decide)
  obtain ⟨s2, z, a62, e2, h2, hz2, hl2⟩ := stem_run (R := T) (a1 := a1) (a3 := some (.ref (p + 1))) (a4 := a4) (a7 := a7) (a8 := none) (rangeD 0 r.toNat) s1 "" a6 h1 low_nil (by rw [rangeD_len, nil_len]; omega)
  rw [rangeD_len, nil_len] at hl2
  have hlz : z.length ≤ 7 := by omega
  have hp : (s2.obj :: T)[p + 1]? = some (MO.lst (zs.map D.str)) := by rw [List.getElem?_cons_succ]; exact hT
  have e3 := free_run (M := s2.obj :: T) (n := p + 1) (z := z) (zs := zs) (a1 := a1) (a4 := a4) (a6 := a62) (a7 := a7) hp (by omega) (by omega)
  rw [cons_len, List.cons_append] at e3
  obtain ⟨c, s3, ⟨c1, c2, c3, c4⟩, h3, e4⟩ := last_run2 (a1 := a1) (a4 := a4) (a6 := a62) h2 hT hz2 hlz hn
  have hr : qRng (.ok (.int r) (s1.obj :: T)) = .ok (.vals (rangeD 0 r.toNat)) (s1.obj :: T) := z_rng_ok r0 (by omega)
  have one : (⟨#[c]⟩ : Str).length = 1 := rfl
  have hlen := app_len z ⟨#[c]⟩
  refine ⟨z ++ ⟨#[c]⟩, s3, .lst (freeOf z zs), a62, z, ⟨name_ok (hz2.app (low_one ⟨c1, c2⟩)) (by omega) (by omega) c4, hz2.app (low_one ⟨c1, c2⟩), c3⟩, h3, ?_⟩
  rw [namesL2]
  simp only [z_seq, z_seq_nx, z_seq_rt, z_seq_ex, z_seq_bk, z_seq_ct, z_if, z_if_t, z_if_f, z_if_x, z_set, z_set_ok, z_set_x, z_ret, z_ret_ok, z_ret_x, z_retN, z_do, z_do_ok, z_do_x, z_nil, z_raise0, z_raise, z_raise_ok, z_toR_rt, z_toR_nx, z_toR_ex, z_c, z_var, z_var_ok, z_un, z_un_ok, z_un_x, z_bin, z_bin_ok, z_bin_x, z_anil, z_cons, z_cons1, z_cons1x, z_cons2, z_cons2x, z_args, z_args_ok, z_args_x, z_tup, z_tup_ok, z_fro, z_fro_ok, z_lst, z_lst_ok, z_call, z_stat, z_call_ok, z_callk, z_callk1, z_callk2, z_mkF, z_mkF_ok, z_own1, z_own1_ok, z_prop, z_own2, z_own2_ok, z_val, z_val_ok, z_val_x, z_and, z_and_t, z_and_f, z_or, z_or_t, z_or_f, z_not, z_not_ok, z_yes, z_eand, z_eand_t, z_eand_f, z_eor, z_eor_t, z_eor_f, z_enot, z_enot_ok, z_eif, z_eif_t, z_eif_f, z_for, z_for_v, z_iseq, z_iseq_t, z_iseq_f, z_iseq_r, z_rng, z_rng_ok, z_env0, z_try, z_try_nx, z_try_rt, z_try0, z_try0_nx, z_try0_rt, z_for_l, z_fv0, z_fv_nx, z_fv_ct, z_fv_rt, z_lc_v, z_step, z_step_ok, z_istr, z_istr_ok, z_env0, List.map_cons, List.map_nil, List.replicate, List.append_nil, Nat.reduceSub, List.cons_append, List.nil_append, List.length_cons, List.length_nil, Nat.reduceAdd, Nat.reduceLeDiff, List.getElem?_cons_zero, List.getElem?_cons_succ, List.set_cons_zero, List.set_cons_succ, Bool.not_true, Bool.not_false, e1, hr, e2, e3, e4]
theorem names_loop2 {s : Bx} {R : MH} {n : Nat} (hs : BxOk s) (hn : n ≤ 10) : ∃ (zs : List Str) (s' : Bx) (T : MH) (e' : Env2), forV (tgName 4) namesL2 (rangeD 0 n) [some (.ref 0), some (.int n), some (.str ("abcdefghijklmnopqrstuvwxyz" : Str)), some (.ref (R.length + 1)), none, none, none, none, none] (s.obj :: (R ++ [MO.lst []])) = .nx e' (s'.obj :: T) ∧ e'[3]? = some (some (.ref (R.length + 1))) ∧ Ext R T ∧ T[R.length]? = some (.lst (zs.map D.str)) ∧ BxOk s' ∧ zs.length = n ∧ zs.Nodup ∧ ∀ z ∈ zs, nameOkB z = true ∧ Low z := by
  obtain ⟨e', M', e1, s', zs, T, a4, a5, a6, a7, rfl, rfl, hE, hT, h1, hl, hnd, hz⟩ := loop_inv (body := namesL2) (tg := tgName 4) (I := fun k e M => ∃ (s : Bx) (zs : List Str) (T : MH) (a4 a5 a6 a7 : Option D), e = [some (.ref 0), some (.int n), some (.str ("abcdefghijklmnopqrstuvwxyz" : Str)), some (.ref (R.length + 1)), a4, a5, a6, a7, none] ∧ M = s.obj :: T ∧ Ext R T ∧ T[R.length]? = some (MO.lst (zs.map D.str)) ∧ BxOk s ∧ zs.length = k ∧ zs.Nodup ∧ ∀ z ∈ zs, nameOkB z = true ∧ Low z) (rangeD 0 n) 0
    [some (.ref 0), some (.int n), some (.str ("abcdefghijklmnopqrstuvwxyz" : Str)), some (.ref (R.length + 1)), none, none, none, none, none] (s.obj :: (R ++ [MO.lst []])) ⟨s, [], R ++ [MO.lst []], none, none, none, none, rfl, rfl, .app, by simp, hs, rfl, by simp, by simp⟩ (by
      rintro j hj e M ⟨s, zs, T, a4, a5, a6, a7, rfl, rfl, hE, hT, hs, hl, hnd, hz⟩
      rw [rangeD_len] at hj
      rw [Nat.zero_add] at hl
      obtain ⟨z, s', G, a6', q, hz', hs', e2⟩ := turn_run2 (a1 := some (.int n)) (a4 := some (rangeD 0 n)[j]) (a5 := a5) (a6 := a6) (a7 := a7) hs hT (by omega)
      have hlt : R.length < T.length := (List.getElem?_eq_some_iff.mp hT).1
      refine ⟨_, _, _, rfl, e2, s', zs ++ [z], _, _, _, _, _, rfl, rfl, (hE.trans .app).set (Nat.le_refl _), ?_, hs', by simp [hl], ?_, ?_⟩
      · rw [List.getElem?_set_self (by simp; omega)]
        simp
      · rw [List.nodup_append]
        refine ⟨hnd, by simp, fun x hx y hy => ?_⟩
        rcases List.mem_singleton.mp hy with rfl
        rintro rfl
        exact hz'.2.2 hx
      · intro x hx
        rcases List.mem_append.mp hx with hx | hx
        · exact hz x hx
        · rcases List.mem_singleton.mp hx with rfl
          exact ⟨hz'.1, hz'.2.1⟩)
  rw [rangeD_len, Nat.zero_add] at hl
  exact ⟨zs, s', T, _, e1, rfl, hE, hT, h1, hl, hnd, hz⟩
/-- names are drawn -/
theorem names_run2 {s : Bx} {R : MH} {n : Nat} (hs : BxOk s) (hn : n ≤ 10) : ∃ (zs : List Str) (s' : Bx) (T : MH), namesM [.ref 0, .int n] (s.obj :: R) = .ok (.ref (R.length + 1)) (s'.obj :: T) ∧ Ext R T ∧ T[R.length]? = some (.lst (zs.map D.str)) ∧ BxOk s' ∧ zs.length = n ∧ zs.Nodup ∧ ∀ z ∈ zs, nameOkB z = true ∧ Low z := by
  obtain ⟨zs, s', T, e', e1, e3, hE, hT, h1, hl, hnd, hz⟩ := names_loop2 (R := R) hs hn
  refine ⟨zs, s', T, ?_, hE, hT, h1, hl, hnd, hz⟩
  have hr : qRng (.ok (.int n) (s.obj :: (R ++ [MO.lst []]))) = .ok (.vals (rangeD 0 n)) (s.obj :: (R ++ [MO.lst []])) := z_rng_ok (by omega) (by omega)
  have hl0 : fLst [] (s.obj :: R) = .ok (.ref (R.length + 1)) (s.obj :: (R ++ [MO.lst []])) := z_lst_ok (by decide)
  have h0 : sSet 2 (eC (D.str ("abcdefghijklmnopqrstuvwxyz" : Str))) (env0 9 [.ref 0, .int n]) (s.obj :: R) = .nx [some (.ref 0), some (.int n), some (.str ("abcdefghijklmnopqrstuvwxyz" : Str)), none, none, none, none, none, none] (s.obj :: R) := rfl
  have h2 : sSet 3 (eLst eNil) [some (.ref 0), some (.int n), some (.str ("abcdefghijklmnopqrstuvwxyz" : Str)), none, none, none, none, none, none] (s.obj :: R) = .nx [some (.ref 0), some (.int n), some (.str ("abcdefghijklmnopqrstuvwxyz" : Str)), some (.ref (R.length + 1)), none, none, none, none, none] (s.obj :: (R ++ [MO.lst []])) := set_nx hl0
  have h3 : sForI (iRange1 (eVar 1)) (tgName 4) namesL2 [some (.ref 0), some (.int n), some (.str ("abcdefghijklmnopqrstuvwxyz" : Str)), some (.ref (R.length + 1)), none, none, none, none, none] (s.obj :: (R ++ [MO.lst []])) = .nx e' (s'.obj :: T) := for_nx hr e1
  have h4 : sRet (eVar 3) e' (s'.obj :: T) = .rt (.ref (R.length + 1)) (s'.obj :: T) := ret_rt (var_ok e3)
  rw [namesM, z_fn]
  exact congrArg toR (seq_run h0 (seq_run h2 (seq_run h3 h4)))
/-! ### another name -/
end T2
namespace T2
open PySem L2
/-! ### small things that worlds and statements want -/
/-! ### conditions of the laws -/
theorem C3.col (c : C3) : isCol (.int c.i) = true := by cases c <;> rfl
/-! ### worlds -/
structure Rl where
  n : Str
  t : Str
  c : C3
  k : Cnd
def Rl.d (r : Rl) : D := .tup [.str r.n, .str r.t, .int r.c.i, r.k.d]
end T2
namespace T2
open PySem L2
/-! ### deep `in` for plain data -/
/-- where a set takes its value from -/
def SrcP (b : D) : Prop := b = .non ∨ (∃ j, b = .int j) ∨ ∃ z, b = .str z ∧ PyData.strOk z = true
theorem SrcP.nb {b : D} (h : SrcP b) : Nb 1 b := by
  rcases h with rfl | ⟨j, rfl⟩ | ⟨z, rfl, hz⟩
  · exact nb_non
  · exact nb_int
  · exact nb_str hz
/-! ### small things -/
/-! ### what is wrong with a statement -/
inductive Flt where
  | stm | tbl (z : Str) | rul (z : Str) | row | cnd | nam (z : Str)
def Flt.d : Flt → D
  | .stm => .tup [.str "statement", .str ""]
  | .tbl z => .tup [.str "table", .str z]
  | .rul z => .tup [.str "rule", .str z]
  | .row => .tup [.str "row", .str ""]
  | .cnd => .tup [.str "condition", .str ""]
  | .nam z => .tup [.str "name", .str z]
def Flt.nm : Flt → Str
  | .tbl z => z
  | .rul z => z
  | .nam z => z
  | _ => ""
def fd : Option Flt → D
  | none => .non
  | some f => f.d
end T2
namespace T2
open PySem L2
/-! ### len(set(x)) of at most one text -/
section
variable {X : Cx} {g : Wd} {W : WY} {sts : List Stmt} {s1 : SM} {pos p p2 q : Pos} {m1 : EM} {a : Expr}
end
/-! ### for k, v in d.items(): a dict of ints and texts, locked -/
def keyD : Key → D
  | .inl i => .int i
  | .inr s => .str s
theorem keyD_rep {g : Wd} {F : List Addr} {H : Hp} (k : Key) : Rep g F H (keyD k) (kV k) := by
  cases k with
  | inl i => exact .int i
  | inr s => exact .str s
def itemsD (ks : List Key) (ds : List D) : List D := List.zipWith (fun k d => .tup [keyD k, d]) ks ds
theorem lk_at {g : Wd} {F : List Addr} {M : MH} {H : Hp} {n : Nat} {ad : Addr} {ks : List Key} {ds : List D} (R : RelM g F M H) (hn : F[n]? = some ad) (hm : M[n]? = some (.lk ks ds)) : ∃ o vs, H ad = some (.frz o (.dK (ks.zip vs))) ∧ ks.length = vs.length ∧ Reps g F H ds vs := by
  obtain ⟨h, e, r⟩ := R.obj n ad _ hn hm
  cases r with | lk hl r => exact ⟨_, _, e, hl, r⟩
theorem itV_items {g : Wd} {F : List Addr} {M : MH} {H : Hp} {d : Addr} {od : Obj} {ks : List Key} {ds : List D} {vs : List V} (R : RelM g F M H) (hd : H d = some (.frz od (.dK (ks.zip vs)))) (hl : ks.length = vs.length) (r : Reps g F H ds vs) : ItV g (Iti d od (ks.zip vs)) F H (itemsD ks ds) where
  go := fun F' H' i gr hi => ⟨gr.lock d _ hd (by intro z; exact z), by
    have := r.length
    unfold itemsD at hi
    rw [List.length_zipWith] at hi
    rw [List.length_zip]
    omega⟩
  yld := fun F' H' i x H2 gr hi hy => by
    obtain ⟨T, k, v, hk, rfl, hT, rfl⟩ := hy
    rw [List.getElem?_zip_eq_some] at hk
    have hrl := r.length
    have hiv : i < vs.length := (List.getElem?_eq_some_iff.mp hk.2).1
    obtain ⟨v', hv, rv⟩ := (r.mono gr R.good).get (n := i) (d := ds[i]'(by omega)) (List.getElem?_eq_getElem (by omega))
    rw [hk.2] at hv
    cases hv
    have kp : ∀ b o, H' b = some o → upd H' T (.tup [kV k, v]) b = some o := upd_keeps hT
    refine ⟨kp, .tup [keyD k, ds[i]'(by omega)], ?_, .tup (SqT.of upd_same) (.cons (keyD_rep k) (.cons (rv.ext fun b o z _ => kp b o z) .nil))⟩
    unfold itemsD
    rw [List.getElem?_zipWith, hk.1, List.getElem?_eq_getElem (by omega)]
  stop := fun F' H' i gr hi => ⟨gr.lock d _ hd (by intro z; exact z), by
    have := r.length
    unfold itemsD at hi
    rw [List.length_zipWith] at hi
    rw [List.length_zip]
    omega⟩
section
variable {X : Cx} {g : Wd} {W : WY} {sts : List Stmt} {s1 : SM} {pos p apos cpos tpos : Pos} {elts : List Expr} {kk : Nat}
end
end T2
namespace T2
open PySem PySem.Spec PyProof.Rows L2
/-! ### a set of few tuples of numbers and texts, no two of them equal -/
section
variable {P : Program} {w : World} {A : Around} {E : Value → Shared → Prop} {s : Shared}
abbrev TL (P : Program) (w : World) (h : Heap) (k : List Leaf) (b : Addr) : Prop := IsTupleKey (leafKind P w) h k b
abbrev hL (P : Program) (w : World) (k : List Leaf) : Int := tupleKeyHash (leafKind P w) k
abbrev entL (P : Program) (w : World) (x : List Leaf × Addr) : Int × Value := (hL P w x.1, .ref x.2)
structure FewT (P : Program) (w : World) (hp : Heap) (S : Addr) (xs : List (List Leaf × Addr)) (ob : Obj) (es : Array (Int × Value)) (n : Nat) (t : SetTable) : Prop where
  here : hp.get? S = some ob
  ex : ob.ExactSet
  data : ob.data = .set es n t
  rows : es.toList = xs.map (entL P w)
  tab : TabOk t (xs.map fun x => hL P w x.1)
  m7 : t.mask = 7
  few : xs.length ≤ 3
  tl : ∀ x ∈ xs, TL P w hp x.1 x.2
variable {S : Addr} {xs : List (List Leaf × Addr)} {ob : Obj} {es : Array (Int × Value)} {n : Nat} {t : SetTable}
theorem FewT.size (F : FewT P w s.heap S xs ob es n t) : es.size = xs.length := by
  rw [← Array.length_toList, F.rows, List.length_map]
theorem FewT.get (F : FewT P w s.heap S xs ob es n t) {i : Nat} {x : List Leaf × Addr} (hx : xs[i]? = some x) : es[i]? = some (entL P w x) := by
  rw [← Array.getElem?_toList, F.rows, List.getElem?_map, hx]
  rfl
theorem FewT.gw (F : FewT P w s.heap S xs ob es n t) : ¬ t.gaveWay = true := by
  unfold SetTable.gaveWay
  rw [F.m7]
  decide
/-! the questions that are asked of a tuple -/
theorem FewT.stay {h h' : Heap} (F : FewT P w h S xs ob es n t) (h1 : ∀ o, h.get? S = some o → h'.get? S = some o) (h2 : ∀ x ∈ xs, TL P w h' x.1 x.2) : FewT P w h' S xs ob es n t := ⟨h1 _ F.here, F.ex, F.data, F.rows, F.tab, F.m7, F.few, h2⟩
end
end T2
namespace L2
open PySem PySem.Spec PyProof.Rows
/-! ### iter(t) of a tuple, and list(o) where o's own __iter__ hands such an iterator out -/
section
variable {prog : Program} {w : World} {A : Around} {E : Value → Shared → Prop} {s : Shared}
end
section
variable {P : Program} {w : World} {H : Hp} {h : Heap} {l it : Addr} {i : Nat}
end
section
variable {X : Cx} {pins : List (Addr × Obj)} {σ : St} {H : Hp} {s : Shared} {l it a q : Addr} {A1 : Around} {i : Nat}
end
end L2
namespace L2
open PySem PySem.Spec PyProof.Rows
section
variable {X : Cx} {pins : List (Addr × Obj)} {σ : St} {H : Hp} {s : Shared} {k : Nat} {f : Addr} {fd : FuncData} {ps : List Str} {sp : Sp} {A' A1 : Around} {C a q fi fl : Addr} {fdI fdL : FuncData} {psI psL : List Str} {spI spL : Sp} {n : Nat}
end
end L2
namespace T2
open PySem L2
/-! ### list(o) of an own iterable whose __iter__ hands out iter(self.f), f a tuple -/
section
variable {X : Cx} {g : Wd} {W : WY} {a : Expr} {es : List Expr} {pos p : Pos} {ma : AM} {c n : Nat} {fi fl : Addr} {fdI fdL : FuncData} {psI psL : List Str} {fld : Str} {m : List D → MH → Res D}
end
end T2
namespace L2
open PySem PySem.Spec PyProof.Rows

section
variable {X : Cx} {pins : List (Addr × Obj)} {σ : St} {H : Hp} {s : Shared} {h' : Heap}
end

section
variable {X : Cx} {pins : List (Addr × Obj)} {σ : St} {H : Hp} {s : Shared}
end
end L2
namespace T2
open PySem L2

/-! ### sorted(xs, key=f) by an own def -/
section
variable {X : Cx} {g : Wd} {W : WY} {a e : Expr} {pos p : Pos} {m1 : EM} {m : List D → MH → Res D} {k : Nat} {f : Addr} {fd : FuncData} {ps : List Str} {kws : List Keyword}
end
end T2
namespace T2
open PySem L2 PyProof.Rows

/-! ### def f(a, .., *v, k = d, ..): called with plain arguments and some keywords -/
/-- t looks the names up in the dict at D, then goes on as r -/
def KwTo {α : Type} (D : Addr) : List (Str × Value) → Sem α → Sem α → Prop
  | [], t, r => t = r
  | q :: l, t, r => ∃ (β γ : Type) (k1 : Option Value → Sem β) (k2 : β → Sem γ) (k3 : γ → Sem α) (a : β), t = ((nsGet D q.1 >>= k1) >>= k2) >>= k3 ∧ k1 (some q.2) = pure a ∧ KwTo D l (k2 a >>= k3) r
theorem KwTo.run {α : Type} {K : PySem.W.Frag} {M : Model} {A : Around} {Q : α → Shared → Prop} {E : Value → Shared → Prop} {s : Shared} {D : Addr} (X : K.In s.heap) : ∀ {l : List (Str × Value)} {t r : Sem α}, (∀ q ∈ l, PySem.W.nsIn K D q.1 = some (some q.2)) → KwTo D l t r → wpAny M A r Q E s → wpAny M A t Q E s
  | [], t, r, _, e, h => by rw [show t = r from e]; exact h
  | q :: l, t, r, hl, e, h => by
    obtain ⟨β, γ, k1, k2, k3, a, e1, e2, e3⟩ := e
    have l1 : PySem.W.Looks M s.heap (nsGet D q.1 >>= k1) a := (PySem.W.looks_nsIn X (hl q (List.mem_cons_self ..))).andThen (PySem.W.Looks.of_pure e2)
    rw [e1, bind_assoc]
    exact wpAny_bind (l1.here (KwTo.run X (fun p hp => hl p (List.mem_cons_of_mem _ hp)) e3 h))
section
variable {CX : CXT} {P : Program} {w : World} {K : PySem.W.Frag} {mg : Str → Option Value} {base : Heap} {k : Nat} {f : Addr} {name qual : Str} {params : Arguments} {body : List Stmt} {scope : Scope} {dV kV doc pm cdv ct oc : Value} {an od : Option Addr}
  {osl : Array (Option Value)} {N ps ks kq : List Str}
end
/-! ### C(a, .., k = v, ..) where __init__ has *v -/
section
variable {X : Cx} {g : Wd} {W : WY} {e : Expr} {es : List Expr} {pos p : Pos} {ma mk : AM} {k n c : Nat} {f : Addr} {m : List D → MH → Res D} {x : Str} {kws : List Keyword} {ks : List Str} {gz : List D → List D}
end
end T2
namespace T2
open PySem L2
/-! ### C(*xs) -/
section
variable {X : Cx} {g : Wd} {W : WY} {a : Expr} {pos p ps0 : Pos} {m1 : EM} {k n : Nat} {f : Addr} {m : List D → MH → Res D} {x : Str} {c : Nat} {gz : List D → List D}
end
end T2
namespace T2
open PySem PySem.Spec PyProof.Rows L2
/-! ### len(set(xs)), xs a list of few tuples of numbers and texts, no two equal -/
section
variable {g : Wd} {F : List Addr} {H : Hp}
end
section
variable {X : Cx} {g : Wd} {W : WY} {pos p p2 q : Pos} {m1 : EM} {a : Expr}
end
end T2
namespace T2
open PySem L2
/-! ### lists and instances that a call hands back are frozen -/
section
variable {g : Wd} {F : List Addr} {H : Hp} {M : MH} {k : Nat}
end
end T2
namespace T2
open PySem L2
/-! ### l.count(k): numbers -/
section
variable {X : Cx} {g : Wd} {W : WY} {a b o : Expr} {pos p apos : Pos} {m1 m2 : EM}
end
end T2
namespace T2
open PySem L2
/-! ### a statement under a lock of a dict that it walks -/
section
variable {X : Cx} {g : Wd} {W : WY} {st : Stmt} {s : SM} {nf : Env2 → MH → Option Nat}
end
end T2
namespace T2
open PySem L2
/-! ### C(..) with arguments left to their defaults -/
section
variable {X : Cx} {CX : CXT} {k : Nat} {f C : Addr} {fd : FuncData} {ps : List Str} {sp : Sp} {E : L2.St → XK} {x m : Str} {p pos apos : Pos} {e o : Expr} {es : List Expr} {t : TA} {vs0 : List V} {ws0 : List Value}
end

section
variable {X : Cx} {g : Wd} {W : WY} {a b o : Expr} {pos p apos : Pos} {m1 m2 : EM} {ma : AM} {es : List Expr} {k n : Nat} {f C : Addr} {fd : FuncData} {ps : List Str} {m : List D → MH → Res D} {x mn : Str} {c : Nat} {d0 : List D} {vs0 : List V} {ws0 : List Value}
end
theorem ClsF.one {K : PySem.W.Frag} {ca : Nat → Addr} {cs : List Nat} {f : Str} {c : Nat} (h : ClsF K ca cs f) (hc : cs.contains c = true) : ClsF K ca [c] f := ⟨fun d hd => by
  have : d = c := by simpa using hd
  subst this; exact h.cl d hc, fun d hd => by
  have : d = c := by simpa using hd
  subst this; exact h.na d hc⟩
end T2
namespace T2
open PySem L2
/-! ### small steps -/
theorem ifTr {c : BM} {a b : SM} {e : Env2} {M M1 : MH} (h : c e M = .ok true M1) : sIf c a b e M = a e M1 := by rw [z_if, h, z_if_t]
theorem ifFa {c : BM} {a b : SM} {e : Env2} {M M1 : MH} (h : c e M = .ok false M1) : sIf c a b e M = b e M1 := by rw [z_if, h, z_if_f]
theorem fcal2 {f : List D → MH → Res D} {x y : D} {M : MH} : fCall 2 f [x, y] M = f [x, y] M := if_pos rfl
theorem ifFn {c : BM} {a : SM} {e : Env2} {M M1 : MH} (h : c e M = .ok false M1) : sIf c a sNil e M = .nx e M1 := ifFa h
/-! ### lists: one that never changes, or one that may -/
/-- a list is walked while other things change -/
theorem forL_forV_J {tg : TgM} {body : SM} {n : Nat} {ds : List D} {I : Nat → Env2 → MH → Prop} (hM : ∀ i e M, I i e M → M[n]? = some (.lst ds)) (hb : ∀ i x, ds[i]? = some x → ∀ e e1 M, I i e M → tg x e = some e1 → ∀ e2 M2, (body e1 M = .nx e2 M2 ∨ body e1 M = .ct e2 M2) → I (i + 1) e2 M2) : ∀ (k i : Nat) (e : Env2) (M : MH), I i e M → i + k = ds.length → forL tg body n k i e M = forV tg body (ds.drop i) e M
  | 0, i, e, M, hI, hk => by
    unfold forL
    rw [hM i e M hI]
    dsimp only
    rw [if_pos (by omega), List.drop_eq_nil_of_le (by omega)]
    rfl
  | k + 1, i, e, M, hI, hk => by
    have hi : i < ds.length := by omega
    have hx := List.getElem?_eq_getElem hi
    unfold forL
    rw [hM i e M hI]
    dsimp only
    rw [hx, drop_cons' hx]
    dsimp only
    conv => rhs; unfold forV
    cases ht : tg ds[i] e with
    | none => rfl
    | some e1 =>
      dsimp only
      cases hq : body e1 M with
      | nx e2 M2 => exact forL_forV_J hM hb k (i + 1) e2 M2 (hb i _ hx e e1 M hI ht e2 M2 (.inl hq)) (by omega)
      | ct e2 M2 => exact forL_forV_J hM hb k (i + 1) e2 M2 (hb i _ hx e e1 M hI ht e2 M2 (.inr hq)) (by omega)
      | _ => rfl
theorem for_items_J {tg : TgM} {body : SM} {m : EM} {e : Env2} {M : MH} {l : D} {ds : List D} (I : Nat → Env2 → MH → Prop) (hm : m e M = .ok l M) (h : listItems M l = some ds) (hI : I 0 e M) (hM : ∀ i e M, I i e M → listItems M l = some ds) (hb : ∀ i x, ds[i]? = some x → ∀ e e1 M, I i e M → tg x e = some e1 → ∀ e2 M2, (body e1 M = .nx e2 M2 ∨ body e1 M = .ct e2 M2) → I (i + 1) e2 M2) : sForI (iSeq m) tg body e M = forV tg body ds e M := by
  rw [z_for, z_iseq, hm]
  rcases items_ref h with rfl | ⟨n, rfl, hn⟩
  · rfl
  · rw [z_iseq_r, z_for_l hn, forL_forV_J (I := I) (fun i e M h1 => by
      have := hM i e M h1
      rcases items_ref this with h2 | ⟨k, h2, h3⟩
      · cases h2
      · cases h2; exact h3) hb ds.length 0 e M hI (by omega)]
    rfl
end T2
namespace T2
open PySem L2
/-! ### loops that keep an invariant, over values and over a list that stands in the memory -/
end T2
namespace T2
open PySem L2
/-! ### for a, b, .. in lists: each item is a list of its own -/
section
variable {X : Cx} {g : Wd} {W : WY} {a b c : Expr} {pos p : Pos} {m1 m2 : EM} {ma : AM} {es : List Expr} {b1 : BM} {s1 s2 : SM} {st : Stmt} {sts : List Stmt}
end
/-! what such a loop does -/
end T2
namespace T2
open PySem L2
/-! ### l.pop() -/
section
variable {X : Cx} {g : Wd} {W : WY} {o : Expr} {pos apos : Pos} {m1 : EM}
end
end T2
namespace T2
open PySem L2 PyProof.Rows

/-! ### len(d), list(d), dict(d) of a dict; del d[k] -/
def dLenD (ds : List D) (M : MH) : Res D := match ds with
  | [.ref n] => match M[n]? with
    | some (.dk ks _) => .ok (.int ks.length) M
    | _ => .bad
  | _ => .bad
section
variable {g : Wd} {X : Cx}
theorem sim_lenD : SimA g dLenD (fun xs H Q => ∃ a kvs, xs = [V.ref a] ∧ H a = some (.dK kvs) ∧ Q (.int kvs.length) H) := fun F M σ H W ds vs Q R r q => by
  unfold dLenD at q
  split at q
  · rename_i n
    cases r with | cons rx rr =>
    cases rr
    cases rx with | ref hn =>
    split at q
    · rename_i ks ds hm
      obtain ⟨us, hv, hl, _⟩ := dk_at R hn hm
      refine ⟨_, _, rfl, hv, ?_⟩
      rw [List.length_zip, ← hl, Nat.min_self]
      exact q.here R (.int _)
    · exact q.elim
  · exact q.elim
end
section
variable {X : Cx} {g : Wd} {W : WY} {a o i : Expr} {es : List Expr} {pos p tpos : Pos} {m1 m2 : EM} {ma : AM}
theorem de_lenD (ha : PA X (a :: es) (tA g W ma)) (hm : X.mg "len" = none) (hg : Gl X "len" := by rfl) (he : starEach (a :: es) X.env = (false, eval a X.env) :: starEach es X.env := by rfl) (hpl : (backTo pos (starEach es X.env)).any (·.1) = false := by rfl) :
    PE X (.Call (.Name "len" p) (a :: es) [] pos) (tD g W (eArgs dLenD ma)) := de_callB call_lenD sim_lenD hm PySem.boot_len ha hg (by decide) (by decide) he hpl
end
end T2
namespace T2
open PySem L2 PyProof.Rows
/-! ### l.remove(k): numbers -/
/-! ### x += i: a local whole number -/
/-! ### list(d.items()) -/
/-! ### l.extend(xs) -/
def eExt (a b : EM) : EM := fun e M => (a e M).bind fun x M1 => match x with
  | .ref n => match M1[n]? with
    | some (.lst _) => (b e M1).bind fun y M2 => match M2[n]? with
      | some (.lst ds) => (match listItems M2 y with
        | some es => if ds.length + es.length ≤ 1000 then .ok .non (M2.set n (.lst (ds ++ es))) else .bad
        | none => .bad)
      | _ => .bad
    | _ => .bad
  | _ => .bad
end T2
namespace PySem.AutoSeq1
end PySem.AutoSeq1
namespace L2
open PySem PySem.Spec PyProof.Rows
variable {X : Cx}
end L2
namespace T2
open PySem L2 PyProof.Rows
section
variable {X : Cx} {g : Wd} {W : WY} {a b o : Expr} {pos p apos cpos : Pos} {m1 m2 : EM}
theorem Paired.imp {α β : Type} {F G : α → β → Prop} : ∀ {xs : List α} {ys : List β}, (∀ x ∈ xs, ∀ y, F x y → G x y) → Paired F xs ys → Paired G xs ys
  | _, _, _, .nil => .nil
  | _, _, h, .cons a b => .cons (h _ (by simp) _ a) (Paired.imp (fun x hx => h x (by simp [hx])) b)
end
end T2
/-! list(all_rows()) -/
namespace GP
open PySem PySem.Spec PyProof.Rows GenW L2
section
variable {X : Cx} {pins : List (Addr × Obj)} {σ : L2.St} {H : Hp} {s : Shared} {f tv : Addr} {B : Around}
end
section
variable {X : Cx} {pins : List (Addr × Obj)} {σ : L2.St} {H H' : Hp} {s s' : Shared} {G : Gb} {a g i S : Nat} {f tv : Addr} {its : Array Value}
theorem ArTurn.written {o : HO} (T : ArTurn X G pins a g i H s) (hS : H S = some o) (k : ∀ b u, b ≠ S → s.heap.get? b = some u → s'.heap.get? b = some u) (hg : s'.gens = s.gens) (hH : ∀ b, b ≠ S → H b = none → H' b = none) : ArTurn X G pins a g i H' s' := by
  obtain ⟨ap, gs, T⟩ := T
  have ne : ∀ {b}, FpOk X pins H b → b ≠ S := fun {b} f z => by rw [z] at f; have := f.1; rw [hS] at this; cases this
  have fp : ∀ {b}, FpOk X pins H b → FpOk X pins H' b := fun {b} f => ⟨hH b (ne f) f.1, f.2⟩
  obtain ⟨ob, nm, qn, ho, r⟩ := T.gen
  exact ⟨ap, gs, ⟨ob, nm, qn, k a _ (ne T.ga) ho, r⟩, by rw [hg]; exact T.st, T.rdy, T.le, T.awake, fp T.ga, fun p hp => by
    obtain ⟨h1, h2, h3⟩ := T.pin p hp
    exact ⟨k _ _ (ne h2) h1, fp h2, h3⟩⟩
end
end GP
namespace T2
open PySem L2 PySem.Spec PyProof.Rows
section
variable {X : Cx} {g : Wd} {W : WY} {a b : Expr} {pos : Pos} {m1 m2 : EM}
end
end T2
namespace T2
open PySem L2
section
variable {X : Cx} {g : Wd} {W : WY} {p pos pf pc : Pos} {f tv : Addr}
end
end T2
namespace PySem.W
open PySem PySem.Calls PyProof.Rows Builtin
section
variable {M : Model} {A : Around} {E : Value → Shared → Prop} {s : Shared} {K : Frag} {x C L f : Addr} {h₀ : Heap} {m : Str → Option Value} {ox : Obj} {od : Option Obj} {v : Value}
end
section
variable {P : Program} {w : World} {A : Around} {s : Shared} {K : Frag} {x C f dx : Addr} {od : Option Obj} {us : List Value} {R : Result → Shared → Prop}
end
end PySem.W

namespace L2
open PySem PySem.Spec PyProof.Rows
section
variable {X : Cx} {CX : CXT} {k : Nat} {f C : Addr} {fd : FuncData} {ps : List Str} {sp : Sp} {E : L2.St → XK} {x : Str} {p pos : Pos} {a b e : Expr} {es : List Expr} {ta tb to : TE} {t : TA}
end
end L2
namespace T2
open PySem L2
/-! ### o[k], o[k] = v, o(..): of instances whose class says how -/
section
variable {X : Cx} {g : Wd} {W : WY} {a b o : Expr} {pos p : Pos} {m1 m2 m3 : EM} {ma : AM} {es : List Expr} {k n : Nat} {f : Addr} {fd : FuncData} {ps : List Str} {m : List D → MH → Res D} {x : Str} {c : Nat}
end
end T2
namespace T2
open PySem L2
/-! ### what walks a dict that stands still -/
def unlkE (n : Nat) (r : Res D) : Res D := match r with
  | .ok v M => (match M[n]? with
    | some (.lk ks ds) => .ok v (M.set n (.dk ks ds))
    | _ => .bad)
  | _ => .bad
/-- the expression under a lock of the dict that nf names -/
def eLockK (nf : Env2 → MH → Option Nat) (m : EM) : EM := fun e M => match nf e M with
  | some n => (match M[n]? with
    | some (.dk ks ds) => unlkE n (m e (M.set n (.lk ks ds)))
    | _ => .bad)
  | none => .bad
def nfE (m : EM) : Env2 → MH → Option Nat := fun e M => match m e M with
  | .ok (.ref n) _ => some n
  | _ => none
section
variable {X : Cx} {g : Wd} {W : WY} {a b e0 : Expr} {pos : Pos} {m m1 m2 : EM} {nf : Env2 → MH → Option Nat}
theorem de_lockK (h : PE X e0 (tD g W m)) : PE X e0 (tD g W (eLockK nf m)) :=
  pe_imp (pe_lock h) fun σ H Q ⟨F, e, M, RS, q⟩ => by
    unfold eLockK at q
    split at q
    · rename_i n hnf
      split at q
      · rename_i ks ds hm
        have hlt : n < F.length := by rw [RS.m.len]; exact (List.getElem?_eq_some_iff.mp hm).1
        obtain ⟨d, hn⟩ : ∃ d, F[n]? = some d := ⟨_, List.getElem?_eq_getElem hlt⟩
        obtain ⟨vs, hH, hl, r⟩ := dk_at RS.m hn hm
        have hdF : d ∈ F := List.mem_of_getElem? hn
        refine ⟨d, .dK (ks.zip vs), hH, trivial, fun od => ?_⟩
        obtain ⟨g1, R1⟩ := RS.m.put (o := .frz od (.dK (ks.zip vs))) (m := .lk ks ds) hn trivial (fun H' gr => .lk hl (r.mono gr RS.m.good))
        refine ⟨F, e, M.set n (.lk ks ds), RS.up g1 R1, ?_⟩
        cases hr : m e (M.set n (.lk ks ds)) with
        | ok v M2 =>
          rw [hr] at q
          unfold unlkE at q
          dsimp only at q
          split at q
          · rename_i ks' ds' hM2
            intro F3 H3 v3 g3 R3 r3
            have hn3 := pre_get g3.pre hn
            have h3 : H3 d = some (.frz od (.dK (ks.zip vs))) := g3.lock d _ upd_same (by intro z; exact z)
            obtain ⟨o', vs', h4, hl', r'⟩ := lk_at R3 hn3 hM2
            rw [h3] at h4
            have e4 := Option.some.inj h4
            injection e4 with _ e5
            injection e5 with e6
            have k3 : RelM g F3 (M2.set n (.dk ks' ds')) (upd H3 d (.dK (ks.zip vs))) := R3.unlock hn3 (by rw [e6]; exact .dk hl' r')
            exact ⟨h3, q F3 _ v3 (g3.unlock hdF hH trivial) k3 (r3.mono0 (kp_upd (List.mem_of_getElem? hn3)) R3.good)⟩
          · exact q.elim
        | exc c ns xs M2 => rw [hr] at q; exact q.elim
        | bad => rw [hr] at q; exact q.elim
      · exact q.elim
    · exact q.elim
end
end T2
/-! own iterables whose __iter__ says `return iter(self.d)`, d a dict -/
namespace L2
open PySem PySem.Spec PyProof.Rows PySem.Calls PySem.Builtin
section
variable {X : Cx} {pins : List (Addr × Obj)} {σ : St} {H : Hp} {s : Shared}
end
section
variable {X : Cx} {pins : List (Addr × Obj)} {σ : St} {H : Hp} {s : Shared}
end
end L2
namespace T2
open PySem L2
/-! ### the keys of an own object's dict, by its own __iter__ -/
section
variable {X : Cx} {g : Wd} {W : WY} {a b o e0 : Expr} {pos apos : Pos} {m m1 m2 : EM} {c : Nat} {fl : Str}
/-! ### d.pop(k), k being there -/
end
end T2
namespace T2
open PySem L2
section

section
variable {A B : Type} {e e1 : Env2} {M M1 : MH} {d x y : D} {c : Nat} {ns : List Str} {ds xs : List D} {k : Bool}
theorem y_seq {a b : SM} : sSeq a b e M = qSeq (a e M) b := Eq.trans (rfl) rfl
theorem y_seq_ct {b : SM} : qSeq (.ct e1 M1) b = .ct e1 M1 := Eq.trans (rfl) rfl
theorem y_if {c : BM} {a b : SM} : sIf c a b e M = qIf (c e M) e a b := Eq.trans (rfl) rfl
theorem y_if_t {a b : SM} : qIf (.ok true M1) e a b = a e M1 := Eq.trans (rfl) rfl
theorem y_if_f {a b : SM} : qIf (.ok false M1) e a b = b e M1 := Eq.trans (rfl) rfl
theorem y_do {m : EM} : sDo m e M = qDo e (m e M) := Eq.trans (rfl) rfl
theorem y_do_ok : qDo e (.ok d M1) = .nx e M1 := Eq.trans (rfl) rfl
theorem y_toR_rt : toR (.rt d M) = .ok d M := Eq.trans (rfl) rfl
theorem y_fn {n : Nat} {b : SM} : fnB n b ds M = toR (b (env0 n ds) M) := Eq.trans (rfl) rfl
theorem y_anil : eNil e M = .ok [] M := Eq.trans (rfl) rfl
theorem y_cons {a : EM} {b : AM} : eCons a b e M = qC1 (a e M) b e := Eq.trans (rfl) rfl
theorem y_cons1 {b : AM} : qC1 (.ok x M1) b e = qC2 x (b e M1) := Eq.trans (rfl) rfl
theorem y_cons2 : qC2 x (.ok xs M1) = .ok (x :: xs) M1 := Eq.trans (rfl) rfl
theorem y_val {m : EM} : bVal m e M = qVal (m e M) := Eq.trans (rfl) rfl
theorem y_and {a b : BM} : bAnd a b e M = qAnd (a e M) b e := Eq.trans (rfl) rfl
theorem y_and_t {b : BM} : qAnd (.ok true M1) b e = b e M1 := Eq.trans (rfl) rfl
theorem y_and_f {b : BM} : qAnd (.ok false M1) b e = .ok false M1 := Eq.trans (rfl) rfl
theorem y_or {a b : BM} : bOr a b e M = qOr (a e M) b e := Eq.trans (rfl) rfl
theorem y_or_t {b : BM} : qOr (.ok true M1) b e = .ok true M1 := Eq.trans (rfl) rfl
theorem y_or_f {b : BM} : qOr (.ok false M1) b e = b e M1 := Eq.trans (rfl) rfl
theorem y_iseq {m : EM} : iSeq m e M = qSeqI (m e M) := Eq.trans (rfl) rfl
theorem y_iseq_t : qSeqI (.ok (.tup ds) M1) = .ok (.vals ds) M1 := Eq.trans (rfl) rfl
theorem y_iseq_f : qSeqI (.ok (.fro ds) M1) = .ok (.vals ds) M1 := Eq.trans (rfl) rfl
theorem y_iseq_r {n : Nat} : qSeqI (.ok (.ref n) M1) = .ok (.live n) M1 := Eq.trans (rfl) rfl
theorem y_lc_v {tg : TgM} {tt : BM} {m : EM} {vs : List Nat} {e : Env2} {M : MH} {ds : List D} : qLc tg tt m vs e (.ok (.vals ds) M) = lcV tg tt m (wipe2 e vs) M.length ds (M ++ [.lst []]) := Eq.trans (rfl) rfl
end
end
end T2
namespace T2
open PySem L2

/-! ### operations on values, as rewriting rules that are no definitional steps -/
section
variable {i j : Int} {M : MH} {a b c d x y : D} {l ds ns' : List D} {z w : Str} {k : Bool} {cc n m : Nat} {ns : List Str} {e : Env2} {kss : List (List Key)}
end
/-! targets of loops, comprehensions -/
section
variable {e e1 : Env2} {M M1 : MH} {x y : D} {i j k : Nat} {ds : List D}
end

/-! ### a loop that goes through, step by step -/
end T2
namespace T2
open PySem L2
section
variable {e : Env2} {M : MH}

theorem y_eMake (c n : Nat) (f : List D → MH → Res D) (ma : AM) : eMake c n f ma e M = ((ma e M).bind fun ds M1 => if ds.length + 1 = n then (f (.ref M1.length :: ds) (M1 ++ [.ob c [] []])).bind fun r M2 => match r with
  | .non => .ok (.ref M1.length) M2
  | _ => .bad else .bad) := Eq.trans rfl rfl
theorem y_sPutF (cs : List Nat) (f : Str) (mo mv : EM) : sPutF cs f mo mv e M = ((mv e M).toS e fun v M1 => (mo e M1).toS e fun o M2 => match dPutF cs f o v M2 with
  | some M3 => .nx e M3
  | none => .bad) := Eq.trans rfl rfl
theorem y_sSetIx (f : D → D → D → MH → Option MH) (mo mi mv : EM) : sSetIx f mo mi mv e M = ((mv e M).toS e fun v M1 => (mo e M1).toS e fun o M2 => (mi e M2).toS e fun i M3 => match f o i v M3 with
  | some M4 => .nx e M4
  | none => .bad) := Eq.trans rfl rfl
theorem y_eDNew : eDNew  e M = (.ok (.ref M.length) (M ++ [.dk [] []])) := Eq.trans rfl rfl
theorem y_eDGet2 (mo mk mx : EM) : eDGet2 mo mk mx e M = ((mo e M).bind fun x M1 => match x with
  | .ref n => match M1[n]? with
    | some (.dk _ _) => (mk e M1).bind fun y M2 => (mx e M2).bind fun z M3 => match M3[n]?, keyOf y with
      | some (.dk ks ds), some k => .ok ((kGet ks ds k).getD z) M3
      | _, _ => .bad
    | _ => .bad
  | _ => .bad) := Eq.trans rfl rfl
theorem y_bind_ok {A B : Type} {a : A} {k : A → MH → Res B} : (Res.ok a M).bind k = k a M := Eq.trans rfl rfl
theorem y_toS_ok {d : D} {k : D → MH → SR} : (Res.ok d M).toS e k = k d M := Eq.trans rfl rfl
/-! new things at the end of what there is -/
variable {G : MH} {o o' a b c d : MO}
theorem s_0 : (M ++ o :: G).set M.length o' = M ++ o' :: G := by simp
end
theorem o_li {n : Nat} {M : MH} : listItems M (.ref n) = (match M[n]? with
  | some (.lst ds) => some ds
  | _ => none) := Eq.trans rfl rfl
theorem u_live {tg : TgM} {tt : BM} {m : EM} {vs : List Nat} {e : Env2} {q : Nat} {M : MH} : qLc tg tt m vs e (.ok (.live q) M) = (match M[q]? with
    | some (.lst ds) => lcL tg tt m (wipe2 e vs) M.length q ds.length 0 (M ++ [.lst []])
    | _ => .bad) := Eq.trans rfl rfl
theorem u_l0 {tg : TgM} {tt : BM} {m : EM} {e : Env2} {n s i : Nat} {M : MH} : lcL tg tt m e n s 0 i M = (match M[s]? with
    | some (.lst ds) => if ds.length ≤ i then .ok (.ref n) M else .bad
    | _ => .bad) := Eq.trans rfl rfl
theorem u_l1 {tg : TgM} {tt : BM} {m : EM} {e : Env2} {n s i k : Nat} {M : MH} : lcL tg tt m e n s (k + 1) i M = (match M[s]? with
    | some (.lst ds) => match ds[i]? with
      | none => .ok (.ref n) M
      | some x => (lcStep tg tt m e x M).bind fun o M1 => match pushAt n o M1 with
        | some M2 => lcL tg tt m e n s k (i + 1) M2
        | none => .bad
    | _ => .bad) := Eq.trans rfl rfl
theorem u_push0 {n : Nat} {M : MH} : pushAt n none M = some M := Eq.trans rfl rfl
/-! ### early ends -/
theorem seq_rt' {a b : SM} {e : Env2} {M M1 : MH} {d : D} (h : a e M = .rt d M1) : sSeq a b e M = .rt d M1 := by rw [z_seq, h]; rfl
theorem fn_rt' {n : Nat} {b : SM} {ds : List D} {M M1 : MH} {d : D} (h : b (env0 n ds) M = .rt d M1) : fnB n b ds M = .ok d M1 := by rw [z_fn, h]; rfl
theorem ifT_rt {c : BM} {a b : SM} {e : Env2} {M M1 M2 : MH} {d : D} (h : c e M = .ok true M1) (h2 : a e M1 = .rt d M2) : sIf c a b e M = .rt d M2 := (ifTr h).trans h2
end T2
namespace T2
open PySem L2
/-! rewriting rules (no definitional steps) for T13; printed by mkw2.py -/
section
variable {e : Env2} {M : MH}

end
end T2
namespace T2
open PySem L2
/-! ### dicts with whole numbers as keys: any values -/
structure Nd where
  n : Int
  v : D
/-! facts of the dict at p -/
section
variable {M : MH} {p : Nat} {es : List Nd} {n : Int}
end

/-! ### memory: what is elsewhere stays -/
structure Fr (S : List Nat) (M M' : MH) : Prop where
  len : M.length ≤ M'.length
  keep : ∀ (i : Nat) (o : MO), M[i]? = some o → i ∉ S → M'[i]? = some o
theorem Fr.refl {S : List Nat} {M : MH} : Fr S M M := ⟨Nat.le_refl _, fun _ _ h _ => h⟩
theorem Fr.trans {S : List Nat} {M M1 M2 : MH} (a : Fr S M M1) (b : Fr S M1 M2) : Fr S M M2 := ⟨Nat.le_trans a.len b.len, fun i o h n => b.keep i o (a.keep i o h n) n⟩
theorem Fr.mono {S T : List Nat} {M M1 : MH} (a : Fr S M M1) (h : ∀ i ∈ S, i ∈ T ∨ M.length ≤ i) : Fr T M M1 := ⟨a.len, fun i o hi n => a.keep i o hi fun z => (h i z).elim n fun q => Nat.lt_irrefl _ (Nat.lt_of_lt_of_le (List.getElem?_eq_some_iff.mp hi).1 q)⟩
theorem Fr.set {S : List Nat} {M : MH} {n : Nat} {o : MO} (h : n ∈ S) : Fr S M (M.set n o) := ⟨by simp, fun i u hi n' => by rw [List.getElem?_set_ne (fun z => n' (by rw [← z]; exact h))]; exact hi⟩
theorem Fr.app {S : List Nat} {M G : MH} : Fr S M (M ++ G) := ⟨by simp, fun i o h _ => by rw [List.getElem?_append_left (List.getElem?_eq_some_iff.mp h).1]; exact h⟩
theorem at_app {M G : MH} {i : Nat} {o : MO} (h : M[i]? = some o) : (M ++ G)[i]? = some o := by rw [List.getElem?_append_left (List.getElem?_eq_some_iff.mp h).1]; exact h
theorem at_lt {M : MH} {i : Nat} {o : MO} (h : M[i]? = some o) : i < M.length := (List.getElem?_eq_some_iff.mp h).1
/-! ### the rewriting rules -/
section
variable {e : Env2} {M : MH}
theorem y_eExt (a b : EM) : eExt a b e M = ((a e M).bind fun x M1 => match x with
  | .ref n => match M1[n]? with
    | some (.lst _) => (b e M1).bind fun y M2 => match M2[n]? with
      | some (.lst ds) => (match listItems M2 y with
        | some es => if ds.length + es.length ≤ 1000 then .ok .non (M2.set n (.lst (ds ++ es))) else .bad
        | none => .bad)
      | _ => .bad
    | _ => .bad
  | _ => .bad) := Eq.trans rfl rfl
end
end T2
namespace T2
open PySem L2
/-! ### an expression that changes nothing: its value is frozen, what it has made beside is forgotten -/
end T2
namespace T2
open PySem L2
/-! ### single steps as lemmas (for terms instead of rewriting) -/
namespace St
section
variable {e : Env2} {M M1 M2 M3 : MH}
theorem bin {f : D → D → MH → Res D} {a c : EM} {x y z : D} (h1 : a e M = .ok x M1) (h2 : c e M1 = .ok y M2) (h3 : f x y M2 = .ok z M3) : eBin f a c e M = .ok z M3 := by
  unfold eBin
  rw [h1, Res.bind_ok, h2, Res.bind_ok, h3]
theorem un {f : D → MH → Res D} {a : EM} {x z : D} (h1 : a e M = .ok x M1) (h3 : f x M1 = .ok z M2) : eUn f a e M = .ok z M2 := by
  unfold eUn
  rw [h1, Res.bind_ok, h3]
theorem cons {a : EM} {r : AM} {d : D} {ds : List D} (h1 : a e M = .ok d M1) (h2 : r e M1 = .ok ds M2) : eCons a r e M = .ok (d :: ds) M2 := by rw [y_cons, h1, y_cons1, h2, y_cons2]
theorem nil : eNil e M = .ok [] M := y_anil
theorem call {n : Nat} {m : List D → MH → Res D} {ma : AM} {ds : List D} {r : Res D} (h : ma e M = .ok ds M1) (hn : ds.length = n) (hr : m ds M1 = r) : eCall n m ma e M = r := by
  unfold eCall eArgs
  rw [h, Res.bind_ok, ← hr]
  exact if_pos hn
theorem args {f : List D → MH → Res D} {ma : AM} {ds : List D} {r : Res D} (h : ma e M = .ok ds M1) (hr : f ds M1 = r) : eArgs f ma e M = r := by
  unfold eArgs
  rw [h, Res.bind_ok, hr]
theorem fro {a : AM} {ds : List D} (h : a e M = .ok ds M1) (hl : ds.length ≤ 1000 := by simp) : eFro a e M = .ok (.fro ds) M1 := by
  unfold eFro eArgs
  rw [h, Res.bind_ok]
  exact if_pos hl
theorem tup {a : AM} {ds : List D} (h : a e M = .ok ds M1) (hl : ds.length ≤ 1000 := by simp) : eTup a e M = .ok (.tup ds) M1 := by
  unfold eTup eArgs
  rw [h, Res.bind_ok]
  exact if_pos hl
theorem lst {a : AM} {ds : List D} (h : a e M = .ok ds M1) (hl : ds.length ≤ 1000 := by simp) : eLst a e M = .ok (.ref M1.length) (M1 ++ [.lst ds]) := by
  unfold eLst eArgs
  rw [h, Res.bind_ok]
  exact if_pos hl
theorem val {m : EM} {b : Bool} (h : m e M = .ok (.bl b) M1) : bVal m e M = .ok b M1 := by
  rw [y_val, h]
  rfl
theorem not {m : BM} {b : Bool} (h : m e M = .ok b M1) : bNot m e M = .ok (!b) M1 := by
  unfold bNot
  rw [h]
  rfl
theorem app {n : Nat} {ds : List D} {y : D} {mo ma : EM} (h1 : mo e M = .ok (.ref n) M) (h2 : ∃ ds0, M[n]? = some (.lst ds0)) (h3 : ma e M = .ok y M2) (h4 : M2[n]? = some (.lst ds)) (h5 : ds.length < 1000) : eApp mo ma e M = .ok .non (M2.set n (MO.lst (ds ++ [y]))) := app_run h1 h2 h3 h4 h5
theorem mk {c n : Nat} {f : List D → MH → Res D} {ma : AM} {ds : List D} (h : ma e M = .ok ds M1) (hn : ds.length + 1 = n) (hr : f (.ref M1.length :: ds) (M1 ++ [.ob c [] []]) = .ok .non M2) : eMake c n f ma e M = .ok (.ref M1.length) M2 := by
  rw [y_eMake, h, Res.bind_ok, if_pos hn, hr, Res.bind_ok]
theorem bandF {c d : BM} (h1 : c e M = .ok false M1) : bAnd c d e M = .ok false M1 := by rw [y_and, h1, y_and_f]
theorem bandT {c d : BM} {r : Res Bool} (h1 : c e M = .ok true M1) (h2 : d e M1 = r) : bAnd c d e M = r := by rw [y_and, h1, y_and_t, h2]
theorem borT {c d : BM} (h1 : c e M = .ok true M1) : bOr c d e M = .ok true M1 := by rw [y_or, h1, y_or_t]
theorem borF {c d : BM} {r : Res Bool} (h1 : c e M = .ok false M1) (h2 : d e M1 = r) : bOr c d e M = r := by rw [y_or, h1, y_or_f, h2]
/-! statements -/
theorem seq {a b : SM} {e1 : Env2} {r : SR} (h : a e M = .nx e1 M1) (h2 : b e1 M1 = r) : sSeq a b e M = r := seq_run h h2
theorem set {m : EM} {d : D} {i : Nat} (h : m e M = .ok d M1) : sSet i m e M = .nx (e.set i (some d)) M1 := set_nx h
theorem sdo {m : EM} {d : D} (h : m e M = .ok d M1) : sDo m e M = .nx e M1 := by rw [y_do, h, y_do_ok]
theorem ifT {c : BM} {a b : SM} {r : SR} (h : c e M = .ok true M1) (h2 : a e M1 = r) : sIf c a b e M = r := by rw [y_if, h, y_if_t, h2]
theorem ifF {c : BM} {a b : SM} {r : SR} (h : c e M = .ok false M1) (h2 : b e M1 = r) : sIf c a b e M = r := by rw [y_if, h, y_if_f, h2]
theorem ret {m : EM} {d : D} (h : m e M = .ok d M1) : sRet m e M = .rt d M1 := ret_rt h
theorem fn {n : Nat} {b : SM} {ds : List D} {d : D} (h : b (env0 n ds) M = .rt d M1) : fnB n b ds M = .ok d M1 := by rw [y_fn, h, y_toR_rt]
theorem setIx {f : D → D → D → MH → Option MH} {mo mi mv : EM} {v o i : D} {M4 : MH} (hv : mv e M = .ok v M1) (ho : mo e M1 = .ok o M2) (hi : mi e M2 = .ok i M3) (hf : f o i v M3 = some M4) : sSetIx f mo mi mv e M = .nx e M4 := by
  rw [y_sSetIx, hv, y_toS_ok, ho, y_toS_ok, hi, y_toS_ok, hf]
theorem putF {cs : List Nat} {f : Str} {mo mv : EM} {v o : D} (hv : mv e M = .ok v M1) (ho : mo e M1 = .ok o M2) (hf : dPutF cs f o v M2 = some M3) : sPutF cs f mo mv e M = .nx e M3 := by
  rw [y_sPutF, hv, y_toS_ok, ho, y_toS_ok, hf]
theorem ext {a b : EM} {n : Nat} {y : D} {ds0 ds es : List D} (h1 : a e M = .ok (.ref n) M1) (h2 : M1[n]? = some (.lst ds0)) (h3 : b e M1 = .ok y M2) (h4 : M2[n]? = some (.lst ds)) (h5 : listItems M2 y = some es) (h6 : ds.length + es.length ≤ 1000) : eExt a b e M = .ok .non (M2.set n (.lst (ds ++ es))) := by
  rw [y_eExt, h1, y_bind_ok]
  dsimp only
  rw [h2]
  dsimp only
  rw [h3, y_bind_ok, h4]
  dsimp only
  rw [h5]
  dsimp only
  rw [if_pos h6]
/-! an object made at the memory's end -/
/-! one turn of a for -/
theorem fvN {tg : TgM} {b : SM} {x : D} {xs : List D} {e1 e2 : Env2} {r : SR} (ht : tg x e = some e1) (hb : b e1 M = .nx e2 M1) (h : forV tg b xs e2 M1 = r) : forV tg b (x :: xs) e M = r := by
  unfold forV
  rw [ht]
  dsimp only
  rw [hb]
  exact h
theorem fvR {tg : TgM} {b : SM} {x : D} {xs : List D} {e1 : Env2} {d : D} (ht : tg x e = some e1) (hb : b e1 M = .rt d M1) : forV tg b (x :: xs) e M = .rt d M1 := by
  unfold forV
  rw [ht]
  dsimp only
  rw [hb]
end
end St
theorem Fr.ext {M M' : MH} (h : Fr [] M M') : ∃ G, M' = M ++ G := by
  refine ⟨M'.drop M.length, ?_⟩
  conv => lhs; rw [← List.take_append_drop M.length M']
  congr 1
  refine List.ext_getElem? fun i => ?_
  rw [List.getElem?_take]
  by_cases hi : i < M.length
  · rw [if_pos hi]
    have := h.keep i M[i] (List.getElem?_eq_getElem hi) (by simp)
    rw [this, List.getElem?_eq_getElem hi]
  · rw [if_neg hi, List.getElem?_eq_none (by omega)]
theorem Fr.box {o o' : MO} {T M' : MH} (h : Fr [0] (o :: T) M') (h0 : M'[0]? = some o') : ∃ G, M' = o' :: (T ++ G) := by
  cases M' with
  | nil => simp at h0
  | cons x T' =>
    rw [List.getElem?_cons_zero] at h0
    cases h0
    have f : Fr [] T T' := ⟨by have := h.len; simp at this; exact this, fun i u hi _ => by
      have := h.keep (i + 1) u (by rw [List.getElem?_cons_succ]; exact hi) (by simp)
      rw [List.getElem?_cons_succ] at this
      exact this⟩
    obtain ⟨G, rfl⟩ := f.ext
    exact ⟨G, rfl⟩
/-- one after the other: the second may also change what is new -/
theorem Fr.seq {S S' : List Nat} {M M1 M2 : MH} (a : Fr S M M1) (b : Fr S' M1 M2) (h : ∀ i ∈ S', i ∈ S ∨ M.length ≤ i) : Fr S M M2 :=
  ⟨Nat.le_trans a.len b.len, fun i o hi n => b.keep i o (a.keep i o hi n) fun z => (h i z).elim n fun q => Nat.lt_irrefl _ (Nat.lt_of_lt_of_le (List.getElem?_eq_some_iff.mp hi).1 q)⟩
/-- what stood behind the end is new -/
theorem Fr.new {S : List Nat} {M M1 : MH} (a : Fr S M M1) (h : ∀ i ∈ S, M.length ≤ i) : Fr [] M M1 := a.mono fun i hi => .inr (h i hi)
/-! ### comprehensions whose parts change nothing: any target, any test -/
theorem lcV_all {α : Type} {tg : TgM} {tt : BM} {m : EM} {e : Env2} {M0 : MH} {f : α → D} {g : α → Option D} : ∀ (xs : List α) (acc : List D), (∀ x ∈ xs, ∀ acc, lcStep tg tt m e (f x) (M0 ++ [.lst acc]) = .ok (g x) (M0 ++ [.lst acc])) → acc.length + xs.length ≤ 1000 →
    lcV tg tt m e M0.length (xs.map f) (M0 ++ [.lst acc]) = .ok (.ref M0.length) (M0 ++ [.lst (acc ++ xs.filterMap g)])
  | [], acc, _, _ => by rw [List.filterMap_nil, List.append_nil]; rfl
  | x :: xs, acc, h, hl => by
    rw [List.map_cons]
    unfold lcV
    rw [h x List.mem_cons_self acc, Res.bind_ok]
    rw [List.length_cons] at hl
    cases hg : g x with
    | none =>
      have ih := lcV_all (M0 := M0) xs acc (fun y hy => h y (List.mem_cons_of_mem _ hy)) (by omega)
      rw [List.filterMap_cons, hg]
      exact ih
    | some y =>
      have hp : pushAt M0.length (some y) (M0 ++ [.lst acc]) = some (M0 ++ [.lst (acc ++ [y])]) := by
        rw [push_ok (acc := acc) (by simp) (by omega)]
        simp
      rw [hp]
      have ih := lcV_all (M0 := M0) xs (acc ++ [y]) (fun y hy => h y (List.mem_cons_of_mem _ hy)) (by simp; omega)
      rw [List.filterMap_cons, hg]
      dsimp only
      rw [ih, List.append_assoc]
      rfl
theorem lcL_all {α : Type} {tg : TgM} {tt : BM} {m : EM} {e : Env2} {M0 : MH} {s : Nat} {f : α → D} {g : α → Option D} {zs : List α} (hs : M0[s]? = some (.lst (zs.map f))) : ∀ (xs ys : List α) (acc : List D), zs = ys ++ xs → (∀ x ∈ xs, ∀ acc, lcStep tg tt m e (f x) (M0 ++ [.lst acc]) = .ok (g x) (M0 ++ [.lst acc])) → acc.length + xs.length ≤ 1000 →
    lcL tg tt m e M0.length s xs.length ys.length (M0 ++ [.lst acc]) = .ok (.ref M0.length) (M0 ++ [.lst (acc ++ xs.filterMap g)])
  | [], ys, acc, hz, _, _ => by
    rw [List.filterMap_nil, List.append_nil, List.length_nil, u_l0, at_app hs]
    dsimp only
    rw [if_pos (by rw [hz]; simp)]
  | x :: xs, ys, acc, hz, h, hl => by
    rw [List.length_cons, u_l1, at_app hs]
    dsimp only
    have hx : (zs.map f)[ys.length]? = some (f x) := by rw [hz]; simp
    rw [hx]
    dsimp only
    rw [h x List.mem_cons_self acc, Res.bind_ok]
    rw [List.length_cons] at hl
    cases hg : g x with
    | none =>
      have ih := lcL_all (M0 := M0) hs xs (ys ++ [x]) acc (by rw [hz]; simp) (fun y hy => h y (List.mem_cons_of_mem _ hy)) (by omega)
      rw [List.filterMap_cons, hg, u_push0]
      rw [List.length_append] at ih
      exact ih
    | some y =>
      have hp : pushAt M0.length (some y) (M0 ++ [.lst acc]) = some (M0 ++ [.lst (acc ++ [y])]) := by
        rw [push_ok (acc := acc) (by simp) (by omega)]
        simp
      rw [hp]
      have ih := lcL_all (M0 := M0) hs xs (ys ++ [x]) (acc ++ [y]) (by rw [hz]; simp) (fun y hy => h y (List.mem_cons_of_mem _ hy)) (by simp; omega)
      rw [List.filterMap_cons, hg]
      dsimp only
      rw [List.length_append] at ih
      rw [List.append_assoc] at ih
      exact ih
/-- a comprehension over a list or a tuple, however it stands -/
theorem lc_all {α : Type} {mo : EM} {tg : TgM} {tt : BM} {m : EM} {vs : List Nat} {e : Env2} {M0 M : MH} {l : D} {f : α → D} {g : α → Option D} {xs : List α} (hi : mo e M0 = .ok l M) (hs : T2.items M l = some (xs.map f))
    (h : ∀ x ∈ xs, ∀ acc, lcStep tg tt m (wipe2 e vs) (f x) (M ++ [.lst acc]) = .ok (g x) (M ++ [.lst acc])) (hl : xs.length ≤ 1000) : eLc (iSeq mo) tg tt m vs e M0 = .ok (.ref M.length) (M ++ [.lst (xs.filterMap g)]) := by
  rw [z_lc, y_iseq, hi]
  have hc : (l = .tup (xs.map f) ∨ l = .fro (xs.map f)) ∨ ∃ n, l = .ref n ∧ M[n]? = some (.lst (xs.map f)) := by
    unfold T2.items at hs
    split at hs
    all_goals first
      | (cases hs; done)
      | (cases hs; exact .inl (.inl rfl))
      | (cases hs; exact .inl (.inr rfl))
      | (split at hs <;> first | (cases hs; done) | (rename_i hm; cases hs; exact .inr ⟨_, rfl, hm⟩))
      | skip
  rcases hc with (rfl | rfl) | ⟨n, rfl, hn⟩
  · have := lcV_all (M0 := M) xs [] h (by simpa using hl)
    rw [y_iseq_t, y_lc_v]; simpa using this
  · have := lcV_all (M0 := M) xs [] h (by simpa using hl)
    rw [y_iseq_f, y_lc_v]; simpa using this
  · rw [y_iseq_r, u_live, hn]
    dsimp only
    have := lcL_all (M0 := M) hn xs [] [] rfl h (by simpa using hl)
    simp only [List.length_map]
    simpa using this
theorem fm_map {α β : Type} {g : α → β} {xs : List α} : xs.filterMap (fun x => some (g x)) = xs.map g := by
  rw [← List.filterMap_eq_map]
  rfl
theorem rng_map {n : Nat} : rangeD 0 n = (List.range n).map fun i => D.int (i : Nat) := by
  unfold rangeD
  exact List.map_congr_left fun i _ => by rw [Int.zero_add]
theorem fm_if {α β : Type} {p : α → Bool} {g : α → β} {xs : List α} : xs.filterMap (fun x => if p x = true then some (g x) else none) = (xs.filter p).map g := by
  induction xs with
  | nil => rfl
  | cons x xs ih =>
    rw [List.filterMap_cons, List.filter_cons]
    cases h : p x
    · simp only [Bool.false_eq_true, if_false]; exact ih
    · simp only [if_true, List.map_cons]; rw [ih]
/-- each item turned -/
theorem lc_each {α : Type} {mo : EM} {tg : TgM} {m : EM} {vs : List Nat} {e : Env2} {M0 M : MH} {l : D} {f g : α → D} {xs : List α} (hi : mo e M0 = .ok l M) (hs : T2.items M l = some (xs.map f))
    (h : ∀ x ∈ xs, ∀ acc, lcStep tg bYes m (wipe2 e vs) (f x) (M ++ [.lst acc]) = .ok (some (g x)) (M ++ [.lst acc])) (hl : xs.length ≤ 1000) : eLc (iSeq mo) tg bYes m vs e M0 = .ok (.ref M.length) (M ++ [.lst (xs.map g)]) := by
  rw [← fm_map]
  exact lc_all (g := fun x => some (g x)) hi hs h hl
/-! ### data without places: frozen, it is what it was -/
mutual
theorem fz_low {rf : Nat → Option D} : ∀ {d : D}, D.low 0 d → fzA rf d = some d
  | .ref n, h => absurd h (Nat.not_lt_zero n)
  | .tup ds, h => by unfold fzA; rw [fzs_low (ds := ds) h]; rfl
  | .fro ds, h => by unfold fzA; rw [fzs_low (ds := ds) h]; rfl
  | .ins c ns ds, h => by unfold fzA; rw [fzs_low (ds := ds) h]; rfl
  | .non, _ => rfl
  | .bl _, _ => rfl
  | .int _, _ => rfl
  | .str _, _ => rfl
  | .ty _, _ => rfl
  | .cls _, _ => rfl
  | .obj _, _ => rfl
  | .tk _, _ => rfl
theorem fzs_low {rf : Nat → Option D} : ∀ {ds : List D}, D.lows 0 ds → fzAs rf ds = some ds
  | [], _ => rfl
  | d :: ds, h => by
    unfold fzAs
    rw [fz_low (d := d) h.1, fzs_low (ds := ds) h.2]
end
theorem lows_of {k : Nat} : ∀ {ds : List D}, (∀ a ∈ ds, D.low k a) → D.lows k ds
  | [], _ => trivial
  | d :: ds, h => ⟨h d List.mem_cons_self, lows_of fun a ha => h a (List.mem_cons_of_mem _ ha)⟩
theorem low_pd : ∀ {k m : Nat} {x : D}, Pd k x → D.low m x
  | 0, _, _, h => h.elim
  | k + 1, m, x, h => by
    rcases h with rfl | ⟨b, rfl⟩ | ⟨i, rfl⟩ | ⟨s, rfl, ho⟩ | ⟨xs, rfl, hl, ha⟩
    · exact trivial
    · exact trivial
    · exact trivial
    · exact trivial
    · exact lows_of (ds := xs) fun a h => low_pd (ha a h)
theorem low_fro {k : Nat} {xs : List D} (h : ∀ a ∈ xs, D.low k a) : D.low k (.fro xs) := lows_of (ds := xs) h
/-- a new list, frozen -/
theorem fz_list {M : MH} {k f n : Nat} {ds ds' : List D} (hn : k ≤ n) (h : M[n]? = some (.lst ds)) (hd : fzAs (rfz M k f) ds = some ds') : fzA (rfz M k (f + 1)) (.ref n) = some (.fro ds') := by
  show rfz M k (f + 1) n = _
  unfold rfz
  rw [if_neg (by omega), h]
  dsimp only
  rw [hd]
  rfl
theorem o_itF {l : List D} {M : MH} : T2.items M (.fro l) = some l := Eq.trans rfl rfl
/-! lists in the memory -/
theorem row_li {M : MH} {p : Nat} {ds : List D} (h : M[p]? = some (.lst ds)) : listItems M (.ref p) = some ds := by rw [o_li, h]
theorem row_it {M : MH} {p : Nat} {ds : List D} (h : M[p]? = some (.lst ds)) : T2.items M (.ref p) = some ds := by
  unfold T2.items
  dsimp only
  rw [h]
theorem row_ix {M : MH} {p i : Nat} {ds : List D} {x : D} (h : M[p]? = some (.lst ds)) (hx : ds[i]? = some x) : dIxA (.ref p) (.int (i : Nat)) M = .ok x M := SeqOf.ix (t := "list") (.inr ⟨rfl, row_li h⟩) hx
end T2
namespace T2
open PySem L2 PySem.Spec PyProof.Rows
/-! ### dicts keyed by tuples: what an expression or a statement does with one -/
/-- what stands under the key y in the dict at a -/
def PGet (K : PySem.W.Frag) (H : Hp) (a : Addr) (y : V) (o : Option V) : Prop := ∃ xs vs k b, RD K H a xs vs ∧ y = .ref b ∧ NKey K H k (.ref b) ∧ NoTx k ∧ rvGet xs vs k = o
/-- v is stored under the key y -/
def PPut (K : PySem.W.Frag) (H : Hp) (a : Addr) (y v : V) (Q : Hp → Prop) : Prop := ∃ xs vs k b φ, H a = some (.ext φ) ∧ RD K H a xs vs ∧ y = .ref b ∧ NKey K H k (.ref b) ∧ NoTx k ∧ xs.length < sizeLine ∧
  ∀ xs' vs', RD K (upd H a (.ext (RowsAt a xs'))) a xs' vs' → xs'.map (·.1) = (if (rvGet xs vs k).isSome then xs.map (·.1) else xs.map (·.1) ++ [k]) → vs' = (if (rvGet xs vs k).isSome then rvPut xs vs k v else vs ++ [v]) → Q (upd H a (.ext (RowsAt a xs')))
def rPGet (K : PySem.W.Frag) : R2 := fun x y H Q => ∃ a v, x = .ref a ∧ PGet K H a y (some v) ∧ Q v H
def rPHas (K : PySem.W.Frag) (f : Bool → Bool) : R2 := fun y x H Q => ∃ a o, x = .ref a ∧ PGet K H a y o ∧ Q (.bl (f o.isSome)) H
/-- the builtin m of dicts does R -/
def DmR (X : Cx) (id : String) (R : Addr → List V → Hp → VK → Prop) : Prop := ∀ (pins : List (Addr × Obj)) (s : Shared) (σ : L2.St) (H : Hp) (a : Addr) (vs : List V) (us : List Value) (Q : VK), L2.Inv X pins σ H s → Vals vs us → R a vs H Q → wpAny (model X.prog X.w) X.A (call (.builtin id) (.ref a :: us)) (EP X pins σ Q) X.xe s
/-- the call's form -/
structure MM (X : Cx) (o : Expr) (m : Str) (apos : Pos) (es : List Expr) (cpos : Pos) : Prop where
  base : attributeBase o m X.env (eval o X.env) = eval o X.env
  few : ((backTo cpos (starEach es X.env)).all (fun x => !x.1) && (backToKw cpos (keywordEach [] X.env)).all (fun x => x.1.isSome) && decide (es.length + ([] : List Keyword).length + (if ([] : List Keyword).isEmpty then 0 else 1) < 30)) = true
  line : (apos.endLine == cpos.line) = true
  plain : (backTo cpos (starEach es X.env)).any (·.1) = false
theorem args_run {M : Model} {A : Around} {E : Value → Shared → Prop} {s : Shared} {f : Value} {Q : Args → Shared → Prop} : ∀ {l : List (Bool × Sem Value)}, l ≠ [] → l.any (·.1) = false → wpAny M A (spliced l) (fun us s' => Q ⟨us, []⟩ s') E s → wpAny M A (evalArgs f true l []) Q E s
  | [], n, _, _ => absurd rfl n
  | (false, _) :: _, _, _, w => Calls.evalArgs_plain w
  | (true, _) :: _, _, h, _ => nomatch h
section
variable {X : Cx} {pins : List (Addr × Obj)} {σ : L2.St} {H : Hp} {s : Shared} {a ad : Addr} {y d : V} {u r : Value} {o : Option V} {A : Around} {E : Value → Shared → Prop} {ea eb : Expr} {ta tb : TE} {op : CmpOp} {rr : R2}
/-- the dict's object: a plain one, not the modules' -/
theorem RD.plain {xs : List (NK × Addr × Value)} {vs : List V} (D : RD X.K H ad xs vs) (I : Inv X pins σ H s) : (ad == sysModules) = false ∧ ∃ ob, s.heap.get? ad = some ob ∧ ob.cls = .type "dict" ∧ ob.dict = none :=
  have ⟨_, far, _, ob, _, _, e, c, _⟩ := D.rows I
  ⟨far, ob, e, c.1, c.2.1⟩
theorem RD.isDict {xs : List (NK × Addr × Value)} {vs : List V} (D : RD X.K H ad xs vs) (I : Inv X pins σ H s) : s.TypeIs (.ref ad) "dict" :=
  have ⟨_, ob, e, c, _⟩ := D.plain I
  ⟨ob, e, c⟩
/-- two expressions, one behind the other, and what is then to be shown -/
theorem two_run (ha : PE X ea ta) (hb : PE X eb tb) (I : Inv X pins σ H s) {R : V → V → Hp → Prop} (h : ta σ H fun x H1 => tb σ H1 fun y H2 => R x y H2) {P : Value → Value → Shared → Prop}
    (k : ∀ v u s2 x y H2, Inv X pins σ H2 s2 → RelV x v → RelV y u → R x y H2 → P v u s2) :
    wpAny (model X.prog X.w) X.A (eval ea X.env) (fun v s1 => wpAny (model X.prog X.w) X.A (eval eb X.env) (fun u s2 => P v u s2) X.xe s1) X.xe s :=
  thn (ha.run pins s σ H _ I h) fun v s1 w => by
    obtain ⟨x, H1, J, rx, w⟩ := w
    exact thn (hb.run pins s1 σ H1 _ J w) fun u s2 ⟨y, H2, J2, ry, w2⟩ => k v u s2 x y H2 J2 rx ry w2
/-- a comparison that is an operation on two values -/
theorem pc_op (h : OpR X (compareOp op) rr) (ha : PE X ea ta) (hb : PE X eb tb) : PC X op ea eb (tOp rr ta tb) :=
  ⟨fun pins s σ H Q I q => two_run ha hb I q fun v u s2 x y H2 J rx ry w => h pins s2 σ H2 x y v u Q J rx ry w⟩
theorem op_pget (hu : X.A.in1.units + 8 < cLine) : OpR X getItem (rPGet X.K) := by
  rintro pins s σ H x y v u Q I rx ry ⟨a, w, rfl, ⟨xs, vs, k, b, D, rfl, kt, nk, l⟩, q⟩
  cases rx; cases ry
  exact r_getItem hu I D kt nk l fun w' s' J rw' => ⟨w, H, J, rw', q⟩
theorem op_phas (hu : X.A.in1.units + 8 < cLine) : OpR X (compareOp .In) (rPHas X.K id) := by
  rintro pins s σ H y x v u Q I ry rx ⟨a, o, rfl, ⟨xs, vs, k, b, D, rfl, kt, nk, rfl⟩, q⟩
  cases rx; cases ry
  exact r_in hu I D kt nk fun s' J => ⟨V.bl _, H, J, rfl, q⟩
end
section
variable {X : Cx} {o i e f : Expr} {pos apos cpos : Pos} {td ty tx : TE}
theorem pe_pget (hu : X.A.in1.units + 8 < cLine) (ho : PE X o td) (hi : PE X i ty) (hs : NoSl i) : PE X (.Subscript o i pos) (tOp (rPGet X.K) td ty) :=
  ⟨fun pins s σ H Q I h => subD_of PySem.F.slot_dict_getitem.lookup hs (two_run ho hi I h fun v u s2 x y H2 J rx ry w => ⟨by
    obtain ⟨a, _, rfl, ⟨_, _, _, _, D, _⟩, _⟩ := w
    cases rx
    exact D.isDict J, op_pget hu pins s2 σ H2 x y v u Q J rx ry w⟩)⟩
theorem pc_pin (hu : X.A.in1.units + 8 < cLine) (hi : PE X i ty) (ho : PE X o td) : PC X .In i o (tOp (rPHas X.K id) ty td) := pc_op (op_phas hu) hi ho
end
end T2
namespace T2
open PySem L2
/-! ### dicts keyed by tuples, at D -/
mutual
def keyN : D → Option NK
  | .non => some .none
  | .int i => some (.num i)
  | .tup ds => (keyNs ds).map .tup
  | _ => none
def keyNs : List D → Option (List NK)
  | [] => some []
  | d :: ds => (keyN d).bind fun k => (keyNs ds).map fun ks => k :: ks
end
mutual
def keyV : NK → D
  | .none => .non
  | .num i => .int i
  | .text x => .str x
  | .tup ks => .tup (keyVs ks)
def keyVs : List NK → List D
  | [] => []
  | k :: ks => keyV k :: keyVs ks
end
def keyP (d : D) : Option NK := match d with
  | .tup ds => match keyNs ds with
    | some ks => if (NestedKey.tup ks).depth ≤ 8 then some (.tup ks) else none
    | none => none
  | _ => none
section
variable {g : Wd} {F : List Addr} {H : Hp}
mutual
theorem keyN_rep : ∀ {d : D} {v : V} {k : NK}, Rep g F H d v → keyN d = some k → NKey g.K H k v ∧ noTx k = true
  | .non, _, k, r, h => by
    unfold keyN at h; cases h; cases r
    exact ⟨.none, by unfold noTx; rfl⟩
  | .int i, _, k, r, h => by
    unfold keyN at h; cases h; cases r
    exact ⟨.num i, by unfold noTx; rfl⟩
  | .tup ds, _, k, r, h => by
    unfold keyN at h
    obtain ⟨ks, hk, rfl⟩ := Option.map_eq_some_iff.mp h
    cases r with
    | tup hs r =>
      obtain ⟨n, t⟩ := keyNs_rep r hk
      exact ⟨.tup hs n, by unfold noTx; exact t⟩
  | .bl _, _, k, r, h => by unfold keyN at h; cases h
  | .str _, _, k, r, h => by unfold keyN at h; cases h
  | .ty _, _, k, r, h => by unfold keyN at h; cases h
  | .cls _, _, k, r, h => by unfold keyN at h; cases h
  | .ref _, _, k, r, h => by unfold keyN at h; cases h
  | .obj _, _, k, r, h => by unfold keyN at h; cases h
  | .tk _, _, k, r, h => by unfold keyN at h; cases h
  | .fro _, _, k, r, h => by unfold keyN at h; cases h
  | .ins _ _ _, _, k, r, h => by unfold keyN at h; cases h
theorem keyNs_rep : ∀ {ds : List D} {vs : List V} {ks : List NK}, Reps g F H ds vs → keyNs ds = some ks → NKeys g.K H ks vs ∧ noTxs ks = true
  | [], _, ks, r, h => by
    unfold keyNs at h; cases h; cases r
    exact ⟨.nil, by unfold noTxs; rfl⟩
  | d :: ds, _, ks, r, h => by
    unfold keyNs at h
    obtain ⟨k, hk, h⟩ := Option.bind_eq_some_iff.mp h
    obtain ⟨ks', hks, rfl⟩ := Option.map_eq_some_iff.mp h
    cases r with
    | cons r t =>
      obtain ⟨n1, t1⟩ := keyN_rep r hk
      obtain ⟨n2, t2⟩ := keyNs_rep t hks
      exact ⟨.cons n1 n2, by unfold noTxs; rw [t1, t2]; rfl⟩
end
theorem keyP_rep {d : D} {v : V} {k : NK} (r : Rep g F H d v) (h : keyP d = some k) : ∃ b, v = .ref b ∧ NKey g.K H k (.ref b) ∧ NoTx k := by
  unfold keyP at h
  split at h
  · rename_i ds
    split at h
    · rename_i ks hk
      split at h
      · rename_i hd
        cases h
        cases r with
        | tup hs r =>
          obtain ⟨n, t⟩ := keyNs_rep r hk
          exact ⟨_, rfl, .tup hs n, by unfold noTx; exact t, hd⟩
      · cases h
    · cases h
  · cases h
mutual
theorem keyV_rep : ∀ {k : NK} {v : V}, NKey g.K H k v → Rep g F H (keyV k) v
  | _, _, .none => by unfold keyV; exact .non
  | _, _, .num i => by unfold keyV; exact .int i
  | _, _, .text x => by unfold keyV; exact .str x
  | _, _, .tup h r => by unfold keyV; exact .tup h (keyVs_rep r)
theorem keyVs_rep : ∀ {ks : List NK} {vs : List V}, NKeys g.K H ks vs → Reps g F H (keyVs ks) vs
  | _, _, .nil => by unfold keyVs; exact .nil
  | _, _, .cons h t => by unfold keyVs; exact .cons (keyV_rep h) (keyVs_rep t)
end
def pOf (M : MH) (n : Nat) : Option (List NK × List D) := match M[n]? with
  | some (.dp ks ds) => some (ks, ds)
  | some (.lp ks ds) => some (ks, ds)
  | _ => none
theorem p_at {M : MH} {n : Nat} {ad : Addr} {ks : List NK} {ds : List D} (R : RelM g F M H) (hn : F[n]? = some ad) (hm : pOf M n = some (ks, ds)) : ∃ xs vs, RD g.K H ad xs vs ∧ xs.map (·.1) = ks ∧ Reps g F H ds vs := by
  unfold pOf at hm
  split at hm
  · rename_i ks' ds' h
    cases hm
    obtain ⟨o, e, r⟩ := R.obj n ad _ hn h
    cases r with | dp hk kt vl r => exact ⟨_, _, ⟨⟨_, .inl e⟩, kt, vl⟩, hk, r⟩
  · rename_i ks' ds' h
    cases hm
    obtain ⟨o, e, r⟩ := R.obj n ad _ hn h
    cases r with | lp hk kt vl r => exact ⟨_, _, ⟨⟨_, .inr ⟨_, e⟩⟩, kt, vl⟩, hk, r⟩
  · cases hm
theorem dp_at {M : MH} {n : Nat} {ad : Addr} {ks : List NK} {ds : List D} (R : RelM g F M H) (hn : F[n]? = some ad) (hm : M[n]? = some (.dp ks ds)) : ∃ a' xs vs, H ad = some (.ext (RowsAt a' xs)) ∧ RD g.K H ad xs vs ∧ xs.map (·.1) = ks ∧ Reps g F H ds vs := by
  obtain ⟨o, e, r⟩ := R.obj n ad _ hn hm
  cases r with | dp hk kt vl r => exact ⟨_, _, _, e, ⟨⟨_, .inl e⟩, kt, vl⟩, hk, r⟩
theorem rv_rep {k : NK} : ∀ {xs : List (NK × Addr × Value)} {ds : List D} {vs : List V}, Reps g F H ds vs → (match kGet (xs.map (·.1)) ds k with
    | some d => ∃ v, rvGet xs vs k = some v ∧ Rep g F H d v
    | none => rvGet xs vs k = none)
  | [], _, _, _ => by simp [kGet, rvGet]
  | _ :: _, _, _, .nil => by simp [kGet, rvGet]
  | x :: xs, _, _, .cons (d := d) (v := v) (ds := ds) (vs := vs) r t => by
    unfold kGet rvGet
    rw [List.map_cons, List.zip_cons_cons, List.find?_cons]
    by_cases hn : x.1 = k
    · simp only [hn, decide_true, if_true]
      exact ⟨_, rfl, r⟩
    · simp only [hn, decide_false, if_false]
      exact rv_rep t
end
/-- x[y] of such a dict -/
def dIxP (x y : D) (M : MH) : Res D := match x with
  | .ref n => match pOf M n, keyP y with
    | some (ks, ds), some k => (match kGet ks ds k with
      | some d => .ok d M
      | none => .bad)
    | _, _ => .bad
  | _ => .bad
def inP (x y : D) (M : MH) : Option Bool := match y with
  | .ref n => match pOf M n, keyP x with
    | some (ks, ds), some k => some (kGet ks ds k).isSome
    | _, _ => none
  | _ => none
def dInP (x y : D) (M : MH) : Res D := match inP x y M with
  | some b => .ok (.bl b) M
  | none => .bad
section
variable {X : Cx} {g : Wd} {W : WY} {a b o : Expr} {pos p apos : Pos} {m1 m2 m3 : EM}
theorem bin_then {f : D → D → MH → Res D} {σ : L2.St} {H : Hp} {Q : VK} {R : V → V → Hp → Prop} (q : tD g W (eBin f m1 m2) σ H Q)
    (k : ∀ (F2 : List Addr) (M2 : MH) (H2 : Hp) (x y : D) (vx vy : V), RelM g F2 M2 H2 → Rep g F2 H2 x vx → Rep g F2 H2 y vy → post g rD W.w F2 σ H2 (f x y M2) Q → R vx vy H2) : tD g W m1 σ H fun vx H1 => tD g W m2 σ H1 fun vy H2 => R vx vy H2 := by
  obtain ⟨F, e, M, RS, q⟩ := q
  refine ⟨F, e, M, RS, ?_⟩
  unfold eBin at q
  cases h1 : m1 e M with
  | bad => rw [h1] at q; exact q.elim
  | exc c ns ds M1 => rw [h1] at q; exact q
  | ok x M1 =>
    rw [h1] at q
    dsimp only [Res.bind] at q
    intro F1 H1 vx g1 R1 rx
    refine ⟨F1, e, M1, RS.up g1 R1, ?_⟩
    cases h2 : m2 e M1 with
    | bad => rw [h2] at q; exact q.elim
    | exc c ns ds M2 => rw [h2] at q; exact q.up g1
    | ok y M2 =>
      rw [h2] at q
      dsimp only [Res.bind] at q
      intro F2 H2 vy g2 R2 ry
      exact k F2 M2 H2 x y vx vy R2 (rx.mono g2 R1.good) ry (q.up (g1.trans g2))
theorem de_ixP (hK : g.K = X.K) (hu : X.A.in1.units + 8 < cLine) (ha : PE X a (tD g W m1)) (hb : PE X b (tD g W m2)) (hs : NoSl b := by intro _ _; rfl) : PE X (.Subscript a b pos) (tD g W (eBin dIxP m1 m2)) :=
  pe_imp (pe_pget hu ha hb hs) fun σ H Q q => bin_then q fun F2 M2 H2 x y vx vy R2 rx ry q => by
    unfold dIxP at q
    split at q
    · rename_i n
      split at q
      · rename_i ks ds k hp hk
        split at q
        · rename_i d hg
          cases rx with | ref hn =>
          obtain ⟨xs, vs, D, rfl, r⟩ := p_at R2 hn hp
          obtain ⟨b, rfl, kt, nk⟩ := keyP_rep ry hk
          have h := rv_rep (k := k) (xs := xs) r
          rw [hg] at h
          obtain ⟨v, h1, h2⟩ := h
          rw [hK] at D kt
          exact ⟨_, v, rfl, ⟨xs, vs, k, b, D, rfl, kt, nk, h1⟩, q.here R2 h2⟩
        · exact q.elim
      · exact q.elim
    · exact q.elim
theorem inP_at {F2 : List Addr} {M2 : MH} {H2 : Hp} {x y : D} {vx vy : V} {c : Bool} (R2 : RelM g F2 M2 H2) (rx : Rep g F2 H2 x vx) (ry : Rep g F2 H2 y vy) (h : inP x y M2 = some c) : ∃ ad ov, vy = .ref ad ∧ PGet g.K H2 ad vx ov ∧ ov.isSome = c := by
  unfold inP at h
  split at h
  · rename_i n
    split at h
    · rename_i ks ds k hp hk
      cases h
      cases ry with | ref hn =>
      obtain ⟨xs, vs, D, rfl, r⟩ := p_at R2 hn hp
      obtain ⟨b, rfl, kt, nk⟩ := keyP_rep rx hk
      refine ⟨_, rvGet xs vs k, rfl, ⟨xs, vs, k, b, D, rfl, kt, nk, rfl⟩, ?_⟩
      have h := rv_rep (k := k) (xs := xs) r
      cases hg : kGet (xs.map (·.1)) ds k with
      | none => rw [hg] at h; rw [h]; rfl
      | some d => rw [hg] at h; obtain ⟨v, h1, _⟩ := h; rw [h1]; rfl
    · cases h
  · cases h
theorem de_inP (hK : g.K = X.K) (hu : X.A.in1.units + 8 < cLine) (ha : PE X a (tD g W m1)) (hb : PE X b (tD g W m2)) (hm : behindInMarks .In b = false := by rfl) : PE X (.Compare a [.In] [b] pos) (tD g W (eBin dInP m1 m2)) :=
  pe_imp (pe_cmp (pc_pin hu ha hb) hm) fun σ H Q q => bin_then q fun F2 M2 H2 x y vx vy R2 rx ry q => by
    unfold dInP at q
    split at q
    · rename_i c hc
      obtain ⟨ad, ov, rfl, pg, rfl⟩ := inP_at R2 rx ry hc
      rw [hK] at pg
      exact ⟨ad, ov, rfl, pg, q.here R2 (.bl _)⟩
    · exact q.elim
end
end T2
namespace T2
open PySem L2
/-! ### stores into dicts keyed by tuples -/
def rSetP (K : PySem.W.Frag) : TSet := fun o i v H Q => ∃ a, o = .ref a ∧ PPut K H a i v Q
def dSetP (o i x : D) (M : MH) : Option MH := match o with
  | .ref n => match M[n]? with
    | some (.dp ks ds) => (match keyP i with
      | some k => if ds.length ≤ 1000 then some (M.set n (.dp (kPutD k x ks ds).1 (kPutD k x ks ds).2)) else none
      | none => none)
    | _ => none
  | _ => none
theorem rvGet_mem {k : NK} : ∀ {xs : List (NK × Addr × Value)} {vs : List V}, xs.length = vs.length → ((rvGet xs vs k).isSome = true ↔ k ∈ xs.map (·.1))
  | [], [], _ => by simp [rvGet]
  | x :: xs, v :: vs, h => by
    unfold rvGet
    rw [List.map_cons, List.mem_cons]
    by_cases e : x.1 = k
    · rw [if_pos e]
      exact ⟨fun _ => .inl e.symm, fun _ => rfl⟩
    · rw [if_neg e, rvGet_mem (by simpa using h)]
      exact ⟨.inr, fun h => h.resolve_left fun z => e z.symm⟩
  | [], _ :: _, h => by cases h
  | _ :: _, [], h => by cases h
section
variable {g : Wd} {F : List Addr} {H H' : Hp} {X : Cx} {W : WY} {a b o f i : Expr} {pos p apos pos' : Pos} {m1 m2 m3 : EM}
theorem rvPut_rep {k : NK} {d : D} {v : V} (r : Rep g F H d v) : ∀ {xs : List (NK × Addr × Value)} {ds : List D} {vs : List V}, xs.length = vs.length → Reps g F H ds vs → Reps g F H (List.zipWith (fun k' y => if k' = k then d else y) (xs.map (·.1)) ds) (rvPut xs vs k v)
  | [], _, [], _, .nil => by unfold rvPut; exact .nil
  | x :: xs, _, _ :: _, h, .cons h1 t => by
    unfold rvPut
    rw [List.map_cons, List.zipWith_cons_cons]
    refine .cons ?_ (rvPut_rep r (by simpa using h) t)
    split
    · exact r
    · exact h1
theorem sqT_off {ad : Addr} {φ ψ : Heap → Prop} (e : H ad = some (.ext φ)) {c : Addr} {ys : List V} (h : SqT g.K (upd H ad (.ext ψ)) c ys) : SqT g.K H c ys := by
  have ne : ∀ {u : HO}, upd H ad (.ext ψ) c = some u → (∀ p, u ≠ .ext p) → H c = some u := fun {u} h nx => by
    by_cases z : c = ad
    · rw [z, upd_same] at h
      exact absurd (Option.some.inj h).symm (nx ψ)
    · rw [upd_ne z] at h; exact h
  rcases h with (h | ⟨ob, h⟩) | h
  · exact .inl (.inl (ne h fun p z => by cases z))
  · exact .inl (.inr ⟨ob, ne h fun p z => by cases z⟩)
  · exact .inr h
theorem sim_setP : Sim3 g dSetP (rSetP g.K) := fun F M M' H o i x vo vi vx Q R ro ri rx h k => by
  unfold dSetP at h
  split at h
  · rename_i n
    cases ro with | ref hn =>
    rename_i ad
    split at h
    · rename_i ks ds hm
      obtain ⟨a', xs, vs, e, D, rfl, r⟩ := dp_at R hn hm
      split at h
      · rename_i ky hk
        split at h
        · rename_i hz
          cases h
          obtain ⟨b, rfl, kt, nk⟩ := keyP_rep ri hk
          have hv : xs.length = vs.length := by have := D.vl.length; rw [List.length_map] at this; exact this.symm
          refine ⟨ad, rfl, xs, vs, ky, b, _, e, D, rfl, kt, nk, ?_, fun xs' vs' D' hk' hv' => ?_⟩
          · have := r.length
            exact Nat.lt_of_lt_of_le (by omega : _ < 1002) (by decide)
          · obtain ⟨g1, R1⟩ := R.put (o := .ext (RowsAt ad xs')) (m := .dp (kPutD ky x (xs.map (·.1)) ds).1 (kPutD ky x (xs.map (·.1)) ds).2) hn ⟨_, _, rfl⟩ (fun H' gr => by
              refine .dp (xs := xs') (vs := vs') ?_ (fun y hy => ((D'.kt y hy).mono fun c ys h => sqT_off e h).mono fun c ys h => sqT_mono gr R.good h) D'.vl ?_
              · rw [hk']
                unfold kPutD
                by_cases hx : ky ∈ xs.map (·.1)
                · rw [if_pos hx, if_pos ((rvGet_mem hv).mpr hx)]
                · rw [if_neg hx, if_neg fun z => hx ((rvGet_mem hv).mp z)]
              · rw [hv']
                unfold kPutD
                by_cases hx : ky ∈ xs.map (·.1)
                · rw [if_pos hx, if_pos ((rvGet_mem hv).mpr hx)]
                  exact rvPut_rep (rx.mono gr R.good) hv (r.mono gr R.good)
                · rw [if_neg hx, if_neg fun z => hx ((rvGet_mem hv).mp z)]
                  exact (r.mono gr R.good).append (.cons (rx.mono gr R.good) .nil)) (by rw [e]; trivial)
            exact k _ g1 R1
        · cases h
      · cases h
    · cases h
  · cases h
/-- d.m(..), d a dict keyed by tuples -/
def eDm (f : Nat → List D → MH → Res D) (mo : EM) (ma : AM) : EM := fun e M => (mo e M).bind fun x M1 => match x with
  | .ref n => (match pOf M1 n with
    | some _ => (ma e M1).bind fun ds M2 => f n ds M2
    | none => .bad)
  | _ => .bad
end
end T2
namespace T2
open PySem L2 PySem.Spec PyProof.Rows
/-! ### `for k in d`, d a dict keyed by tuples that stands still -/
section
variable {X : Cx} {pins : List (Addr × Obj)} {σ : L2.St} {H : Hp} {s : Shared} {d a' it : Addr} {o : Obj} {xs : List (NK × Addr × Value)}
/-- the object of such a dict: its entries bear the tuples as keys -/
theorem frzP_at (I : L2.Inv X pins σ H s) (h : H d = some (.frz o (.ext (RowsAt a' xs)))) :
    (d == sysModules) = false ∧ s.heap.get? d = some o ∧ o.ExactDict ∧ ∃ (es : Array DictEntry) (ep : Nat), o.data = .dict es ep ∧ es.size = xs.length ∧
      ∀ (i : Nat) (x : NK × Addr × Value), xs[i]? = some x → ∃ en : DictEntry, es[i]? = some en ∧ en.key = .ref x.2.1 := by
  have ⟨at_, z⟩ : ObjOk X.prog X.w H s.heap d (.frz o (.ext (RowsAt a' xs))) := I.hok d _ h
  cases rows_addr z
  obtain ⟨⟨_, far, _, o', es, ep, there, plain, data, ents, _⟩, _⟩ := z
  cases at_.symm.trans there
  have len : es.size = xs.length := by simpa using congrArg List.length ents
  refine ⟨far, at_, plain, es, ep, data, len, fun i x e => ⟨rEnt x, ?_, rfl⟩⟩
  rw [← Array.getElem?_toList, ents, List.getElem?_map, e]
  rfl
/-- the walker's own object has moved on, all else is as it was -/
theorem moved {h' : Heap} (I : L2.Inv X pins σ H s) (f : FpOk X pins H it) (k : ∀ b ob, b ≠ it → s.heap.get? b = some ob → h'.get? b = some ob) : L2.Inv X pins σ H { s with heap := h' } :=
  have ⟨n, x1, _, x3, x4, x5⟩ := f
  I.turned (t' := s.toks) k n x1 x3 x4 x5
end
def Itp (d a' : Addr) (o : Obj) (xs : List (NK × Addr × Value)) : It :=
  ⟨fun i H => H d = some (.frz o (.ext (RowsAt a' xs))) ∧ i < xs.length, fun i H x H' => H' = H ∧ ∃ y, xs[i]? = some y ∧ x = .ref y.2.1, fun i H => H d = some (.frz o (.ext (RowsAt a' xs))) ∧ xs.length ≤ i⟩
section
variable {P : Program} {w : World} {K : PySem.W.Frag} {tg : Expr} {d a' it : Addr} {o : Obj} {es : Array DictEntry} {ep n : Nat} {φ : HO} {J : It}
/-- a key iterator over a dict that stands still, whatever the keys: what J says goes by the entries -/
theorem turn_dk (data : o.data = .dict es ep) (len : es.size = n) (go : ∀ i H, J.go i H → H d = some (.frz o φ) ∧ ∃ en y, es[i]? = some en ∧ RelV y en.key ∧ J.yld i H y H) (stop : ∀ i H, J.stop i H → H d = some (.frz o φ) ∧ n ≤ i)
    (at_ : ∀ {X : Cx} {pins : List (Addr × Obj)} {σ : L2.St} {H : Hp} {s : Shared}, X.prog = P → X.w = w → L2.Inv X pins σ H s → H d = some (.frz o φ) → s.heap.get? d = some o) :
    Turn P w K tg J [it] it (fun i h => h.IsKeyIter it d i n ep) where
  mem := List.mem_singleton_self it
  obj := by
    rintro i h ⟨ob, e, _, c⟩ b hb
    rw [List.mem_singleton.mp hb]
    exact ⟨ob, e, fun v z => nomatch c.symm.trans z⟩
  keep := fun _ _ _ st k => st.at (k it (List.mem_singleton_self it))
  item := fun X hP hw hK hc i pins s σ H E I hf st hg => by
    have mine := hf it (List.mem_singleton_self it)
    obtain ⟨hd, en, y, hen, ry, gives⟩ := go i H hg
    have there := at_ hP hw I hd
    subst hP hw
    refine next_key_item st there data len hen fun h' st' same => ⟨en.key, rfl, ?_⟩
    have J' := moved I mine fun b ob nb e => (same.2 b nb).trans e
    obtain ⟨oi, e, c, dd⟩ := id st'
    exact go_of (s := { s with heap := h' }) e c dd (by decide) ⟨y, H, J', ry, gives, st', fun b hb => (hf b hb).1⟩
  done := fun X hP hw hK hc i pins s σ H E I hf st hg => by
    have mine := hf it (List.mem_singleton_self it)
    obtain ⟨hd, ge⟩ := stop i H hg
    have there := at_ hP hw I hd
    subst hP hw
    exact next_key_end (I.ok.hd hc) st there data len ge fun h' keep => ⟨rfl, moved I mine keep⟩
  self := fun A i s Q E st h => wpAny_pyIter_slot st.typeIs PySem.F.slot_dict_keyiterator_iter (wpAny_call_entry PySem.F.slot_dict_keyiterator_iter st.typeIs PySem.F.entry_dict_keyiterator_iter
    (wpAny_bind (wpAny_of_eq rfl (wpAny_pure ⟨_, rfl, "dict_keyiterator", _, st.typeIs, PySem.F.slot_dict_keyiterator_next.lookup, h⟩))) (PySem.F.args_dict_keyiterator_iter_1 _))
end
def iKeysP (td : TE) : TI := fun σ H R => td σ H fun x H1 => ∃ d o a' xs, x = .ref d ∧ H1 d = some (.frz o (.ext (RowsAt a' xs))) ∧ R (Itp d a' o xs) H1
theorem pi_keysP {X : Cx} {tg e : Expr} {td : TE} (he : PE X e td) : PI X tg e (iKeysP td) :=
  ⟨fun pins s σ H R I h => thn (he.run pins s σ H _ I h) fun u s1 ⟨x, H1, J, rx, d, o, a', xs, ex, hd, q⟩ => by
    subst ex
    cases rx
    obtain ⟨far, there, plain, es, ep, data, len, ent⟩ := frzP_at J hd
    refine iter_keys far there plain data (pi_one (tk := s1.toks) J _ (turn_dk (J := Itp d a' o xs) (φ := .ext (RowsAt a' xs)) data len (fun i H2 g => ⟨g.1, ?_⟩) (fun i H2 g => g) fun hP hw I2 h2 => (frzP_at I2 h2).2.1) ⟨_, Heap.get?_push_size _ rfl, rfl, by rw [len]; rfl⟩ q)
    obtain ⟨en, e1, e2⟩ := ent i _ (List.getElem?_eq_getElem g.2)
    exact ⟨en, .ref (xs[i]'g.2).2.1, e1, e2, rfl, _, List.getElem?_eq_getElem g.2, rfl⟩⟩
end T2
namespace T2
open PySem L2
/-! ### `for k in d` over such a dict, at D -/
def unlkP (n : Nat) (r : SR) : SR := match r with
  | .nx e M => (match M[n]? with
    | some (.lp ks ds) => .nx e (M.set n (.dp ks ds))
    | _ => .bad)
  | .rt d M => (match M[n]? with
    | some (.lp ks ds) => .rt d (M.set n (.dp ks ds))
    | _ => .bad)
  | _ => .bad
def sForP (i : Nat) (tg : TgM) (body : SM) : SM := fun e M => match e[i]? with
  | some (some (.ref n)) => (match M[n]? with
    | some (.dp ks ds) => unlkP n (forV tg body (ks.map keyV) e (M.set n (.lp ks ds)))
    | _ => .bad)
  | _ => .bad
theorem lp_at {g : Wd} {F : List Addr} {H : Hp} {M : MH} {n : Nat} {ad : Addr} {ks : List NK} {ds : List D} (R : RelM g F M H) (hn : F[n]? = some ad) (hm : M[n]? = some (.lp ks ds)) : ∃ (o : Obj) (a' : Addr) (xs : List (NK × Addr × Value)), H ad = some (.frz o (.ext (RowsAt a' xs))) ∧ ObjR g F H (.dp ks ds) (.ext (RowsAt a' xs)) := by
  obtain ⟨o, e, r⟩ := R.obj n ad _ hn hm
  cases r with | lp hk kt vl r => exact ⟨_, _, _, e, .dp hk kt vl r⟩
theorem itV_keysP {g : Wd} {F : List Addr} {H : Hp} {d a' : Addr} {od : Obj} {xs : List (NK × Addr × Value)} (hd : H d = some (.frz od (.ext (RowsAt a' xs)))) (kt : ∀ x ∈ xs, NKey g.K H x.1 (.ref x.2.1)) (G : Good F H) : ItV g (Itp d a' od xs) F H ((xs.map (·.1)).map keyV) where
  go := fun F' H' i gr hi => ⟨gr.lock d _ hd (by intro z; exact z), by rw [List.length_map, List.length_map] at hi; exact hi⟩
  yld := fun F' H' i x H2 gr hi hy => by
    obtain ⟨rfl, y, hy, rfl⟩ := hy
    refine ⟨fun _ _ z => z, keyV y.1, ?_, (keyV_rep (kt y (List.mem_of_getElem? hy))).mono gr G⟩
    rw [List.getElem?_map, List.getElem?_map, hy]
    rfl
  stop := fun F' H' i gr hi => ⟨gr.lock d _ hd (by intro z; exact z), by rw [List.length_map, List.length_map] at hi; exact hi⟩
section
variable {X : Cx} {g : Wd} {W : WY} {sts : List Stmt} {s1 : SM} {pos p : Pos}
theorem ds_forP (i : Nat) {x : Str} {tgE : Expr} {gt : TG} {tg : TgM} (px : ∀ σ, Pin W.p.xs σ) (po : PassesOwn (model X.prog X.w) X.A X.env X.xe) (hc : X.calm = true) (hv : PE X (.Name x p) (tVar i)) (hg : PG X tgE gt) (ts : TgSim g tg gt) (hb : PSs X sts (tS g W s1))
    (hs : ∀ z, foldedSetIterable (.Name x p) X.env z = pure z := by intro _; rfl) : PS X (.For tgE (.Name x p) sts [] pos) (tS g W (sForP i tg s1)) :=
  ps_imp (ps_lock (ps_for po hc (pi_keysP hv) hg hb hs)) fun E σ H ⟨F, e, M, RS, q⟩ => by
    unfold sForP at q
    split at q
    · rename_i n he
      obtain ⟨v, hσ, rv⟩ := RS.e.get he
      cases rv with | ref hn =>
      rename_i d
      split at q
      · rename_i ks ds hm
        obtain ⟨a', xs, vs, hH, DD, rfl, r⟩ := dp_at RS.m hn hm
        have hdF : d ∈ F := List.mem_of_getElem? hn
        refine ⟨d, .ext (RowsAt a' xs), hH, trivial, fun od => ⟨.ref d, hσ, d, od, a', xs, rfl, upd_same, ?_⟩⟩
        obtain ⟨g1, R1⟩ := RS.m.put (o := .frz od (.ext (RowsAt a' xs))) (m := .lp (xs.map (·.1)) ds) hn trivial (fun H' gr => .lp rfl (fun y hy => (DD.kt y hy).mono fun _ _ h => sqT_mono gr RS.m.good h) DD.vl (r.mono gr RS.m.good)) (by rw [hH]; trivial)
        refine forV_run px (RS.up g1 R1) (itV_keysP upd_same (fun y hy => (DD.kt y hy).mono fun _ _ h => sqT_mono g1 RS.m.good h) R1.good) ts ?_
        have key : ∀ (F3 : List Addr) (H3 : Hp) (M2 : MH) (ks' : List NK) (ds' : List D), Grow F (upd H d (.frz od (.ext (RowsAt a' xs)))) F3 H3 → RelM g F3 M2 H3 → M2[n]? = some (.lp ks' ds') → H3 d = some (.frz od (.ext (RowsAt a' xs))) ∧ Grow F H F3 (upd H3 d (.ext (RowsAt a' xs))) ∧ RelM g F3 (M2.set n (.dp ks' ds')) (upd H3 d (.ext (RowsAt a' xs))) ∧ (∀ b o, H3 b = some o → b ∉ F3 → upd H3 d (.ext (RowsAt a' xs)) b = some o) := by
          intro F3 H3 M2 ks' ds' g3 R3 hM2
          have hn3 := pre_get g3.pre hn
          have h3 : H3 d = some (.frz od (.ext (RowsAt a' xs))) := g3.lock d _ upd_same (by intro z; exact z)
          obtain ⟨o', a2, xs2, h4, r'⟩ := lp_at R3 hn3 hM2
          rw [h3] at h4
          have e4 := Option.some.inj h4
          injection e4 with _ e5
          refine ⟨h3, g3.unlock hdF hH trivial, R3.unlock hn3 (by rw [e5]; exact r'), kp_upd (List.mem_of_getElem? hn3)⟩
        cases hr : forV tg s1 ((xs.map (·.1)).map keyV) e (M.set n (.lp (xs.map (·.1)) ds)) with
        | nx e2 M2 =>
          rw [hr] at q
          unfold unlkP at q
          dsimp only at q
          split at q
          · rename_i ks' ds' hM2
            intro F3 H3 σ3 g3 R3 E3 X3
            obtain ⟨k1, k2, k3, k4⟩ := key F3 H3 M2 ks' ds' g3 R3 hM2
            exact ⟨k1, q F3 _ σ3 k2 k3 (E3.mono0 k4 R3.good) X3⟩
          · exact q.elim
        | rt d2 M2 =>
          rw [hr] at q
          unfold unlkP at q
          dsimp only at q
          split at q
          · rename_i ks' ds' hM2
            intro F3 H3 v3 g3 R3 r3
            obtain ⟨k1, k2, k3, k4⟩ := key F3 H3 M2 ks' ds' g3 R3 hM2
            exact ⟨k1, q F3 _ v3 k2 k3 (r3.mono0 k4 R3.good)⟩
          · exact q.elim
        | bk e2 M2 => rw [hr] at q; exact q.elim
        | ct e2 M2 => rw [hr] at q; exact q.elim
        | ex c ns xs e2 M2 => rw [hr] at q; exact q.elim
        | bad => rw [hr] at q; exact q.elim
      · exact q.elim
    · exact q.elim
end
end T2
namespace T2
open PySem L2
/-! ### `for k in d` where d may be walked already -/
def sForQ (i : Nat) (tg : TgM) (body : SM) : SM := fun e M => match e[i]? with
  | some (some (.ref n)) => (match M[n]? with
    | some (.lp ks ds) => forV tg body (ks.map keyV) e M
    | _ => sForP i tg body e M)
  | _ => .bad
theorem lp_at2 {g : Wd} {F : List Addr} {H : Hp} {M : MH} {n : Nat} {ad : Addr} {ks : List NK} {ds : List D} (R : RelM g F M H) (hn : F[n]? = some ad) (hm : M[n]? = some (.lp ks ds)) : ∃ (o : Obj) (a' : Addr) (xs : List (NK × Addr × Value)), H ad = some (.frz o (.ext (RowsAt a' xs))) ∧ xs.map (·.1) = ks ∧ ∀ x ∈ xs, NKey g.K H x.1 (.ref x.2.1) := by
  obtain ⟨o, e, r⟩ := R.obj n ad _ hn hm
  cases r with | lp hk kt vl r => exact ⟨_, _, _, e, hk, kt⟩
section
variable {X : Cx} {g : Wd} {W : WY} {sts : List Stmt} {s1 : SM} {pos p : Pos}
theorem ds_forQ (i : Nat) {x : Str} {tgE : Expr} {gt : TG} {tg : TgM} (px : ∀ σ, Pin W.p.xs σ) (po : PassesOwn (model X.prog X.w) X.A X.env X.xe) (hc : X.calm = true) (hv : PE X (.Name x p) (tVar i)) (hg : PG X tgE gt) (ts : TgSim g tg gt) (hb : PSs X sts (tS g W s1))
    (hs : ∀ z, foldedSetIterable (.Name x p) X.env z = pure z := by intro _; rfl) : PS X (.For tgE (.Name x p) sts [] pos) (tS g W (sForQ i tg s1)) :=
  ps_imp (ps_or (ds_forP i px po hc hv hg ts hb hs) (ps_for po hc (pi_keysP hv) hg hb hs)) fun E σ H ⟨F, e, M, RS, q⟩ => by
    unfold sForQ at q
    split at q
    · rename_i n he
      split at q
      · rename_i ks ds hm
        obtain ⟨v, hσ, rv⟩ := RS.e.get he
        cases rv with | ref hn =>
        rename_i d
        obtain ⟨o, a', xs, hH, rfl, kt⟩ := lp_at2 RS.m hn hm
        exact .inr ⟨.ref d, hσ, d, o, a', xs, rfl, hH, forV_run px RS (itV_keysP hH kt RS.m.good) ts q⟩
      · exact .inl ⟨F, e, M, RS, q⟩
    · exact q.elim
end
end T2
namespace T2
open PySem L2
/-! ### d.setdefault(k, v) -/
section
variable {X : Cx} {pins : List (Addr × Obj)} {σ : L2.St} {H : Hp} {s : Shared} {a b : Addr} {y v : V} {u r : Value} {A : Around} {E : Value → Shared → Prop} {xs : List (NK × Addr × Value)} {vs : List V} {k : NK}
end
end T2
namespace T2
open PySem L2 PyProof.Rows
/-! ### d.setdefault(k, v), as an expression -/
section
variable {X : Cx} {g : Wd} {W : WY} {o : Expr} {pos apos : Pos} {m1 : EM}
end
end T2
namespace T2
open PySem L2
/-! ### a dict keyed by tuples as what a comprehension walks -/
def unlkEP (n : Nat) (r : Res D) : Res D := match r with
  | .ok v M => (match M[n]? with
    | some (.lp ks ds) => .ok v (M.set n (.dp ks ds))
    | _ => .bad)
  | _ => .bad
/-- the expression under a lock of the dict that nf names; locked already: as it is -/
def eLockP (nf : Env2 → MH → Option Nat) (m : EM) : EM := fun e M => match nf e M with
  | some n => (match M[n]? with
    | some (.dp ks ds) => unlkEP n (m e (M.set n (.lp ks ds)))
    | some (.lp _ _) => m e M
    | _ => .bad)
  | none => .bad
def iKeysPD (m : EM) : Env2 → MH → Res IV := fun e M => (m e M).bind fun x M1 => match x with
  | .ref n => (match M1[n]? with
    | some (.lp ks _) => .ok (.vals (ks.map keyV)) M1
    | _ => .bad)
  | _ => .bad
section
variable {X : Cx} {g : Wd} {W : WY} {a b e0 : Expr} {pos : Pos} {m m1 m2 : EM} {nf : Env2 → MH → Option Nat}
theorem itSim_keysP : ItSim g W (iKeysPD m) (iKeysP (tD g W m)) := fun σ H F e M R RS q => by
  unfold iKeysPD at q
  cases hm : m e M with
  | bad => rw [hm] at q; exact q.elim
  | exc c ns ds M1 =>
    refine ⟨F, e, M, RS, ?_⟩
    rw [hm]
    rw [hm] at q
    exact q
  | ok x M1 =>
    rw [hm] at q
    refine ⟨F, e, M, RS, ?_⟩
    rw [hm]
    intro F1 H1 v g1 R1 rx
    cases x with
    | ref n =>
      dsimp only [Res.bind] at q
      cases rx with | ref hn =>
      rename_i d
      split at q
      · rename_i ds M2 hq
        split at hq
        · rename_i ks ds0 hM
          cases hq
          obtain ⟨o, a', xs, hd, rfl, kt⟩ := lp_at2 R1 hn hM
          exact ⟨d, o, a', xs, rfl, hd, q F1 H1 _ g1 R1 (itV_keysP hd kt R1.good)⟩
        · cases hq
      · rename_i n2 M2 hq
        split at hq
        · cases hq
        · cases hq
      · rename_i c ns ds M2 hq
        split at hq
        · cases hq
        · cases hq
      · exact q.elim
    | _ => exact q.elim
theorem de_lockP (h : PE X e0 (tD g W m)) : PE X e0 (tD g W (eLockP nf m)) :=
  pe_imp (pe_or (pe_lock h) h) fun σ H Q ⟨F, e, M, RS, q⟩ => by
    unfold eLockP at q
    split at q
    · rename_i n hnf
      split at q
      · rename_i ks ds hm
        left
        have hlt : n < F.length := by rw [RS.m.len]; exact (List.getElem?_eq_some_iff.mp hm).1
        obtain ⟨d, hn⟩ : ∃ d, F[n]? = some d := ⟨_, List.getElem?_eq_getElem hlt⟩
        obtain ⟨a', xs, vs, hH, DD, rfl, r⟩ := dp_at RS.m hn hm
        have hdF : d ∈ F := List.mem_of_getElem? hn
        refine ⟨d, .ext (RowsAt a' xs), hH, trivial, fun od => ?_⟩
        obtain ⟨g1, R1⟩ := RS.m.put (o := .frz od (.ext (RowsAt a' xs))) (m := .lp (xs.map (·.1)) ds) hn trivial (fun H' gr => .lp rfl (fun y hy => (DD.kt y hy).mono fun _ _ h => sqT_mono gr RS.m.good h) DD.vl (r.mono gr RS.m.good)) (by rw [hH]; trivial)
        refine ⟨F, e, M.set n (.lp (xs.map (·.1)) ds), RS.up g1 R1, ?_⟩
        cases hr : m e (M.set n (.lp (xs.map (·.1)) ds)) with
        | ok v M2 =>
          rw [hr] at q
          unfold unlkEP at q
          dsimp only at q
          split at q
          · rename_i ks' ds' hM2
            intro F3 H3 v3 g3 R3 r3
            have hn3 := pre_get g3.pre hn
            have h3 : H3 d = some (.frz od (.ext (RowsAt a' xs))) := g3.lock d _ upd_same (by intro z; exact z)
            obtain ⟨o', a2, xs2, h4, r'⟩ := lp_at R3 hn3 hM2
            rw [h3] at h4
            have e4 := Option.some.inj h4
            injection e4 with _ e5
            have k3 : RelM g F3 (M2.set n (.dp ks' ds')) (upd H3 d (.ext (RowsAt a' xs))) := R3.unlock hn3 (by rw [e5]; exact r')
            exact ⟨h3, q F3 _ v3 (g3.unlock hdF hH trivial) k3 (r3.mono0 (kp_upd (List.mem_of_getElem? hn3)) R3.good)⟩
          · exact q.elim
        | exc c ns xs M2 => rw [hr] at q; exact q.elim
        | bad => rw [hr] at q; exact q.elim
      · exact .inr ⟨F, e, M, RS, q⟩
      · exact q.elim
    · exact q.elim
end
end T2
namespace T2
open PySem L2
theorem hu8 {A : Around} {k : Nat} (hr : Room k A) : A.in1.units + 8 < cLine := by
  have h := hr.un
  have e : A.in1.units = A.units + 1 := by first | rfl | simp [Around.in1, Around.units]
  omega
end T2
namespace T2
open PySem L2
/-! ### `k in d`, d a dict with texts or whole numbers as keys that may stand still -/
section
variable {X : Cx} {g : Wd} {W : WY} {a b : Expr} {pos : Pos} {m1 m2 : EM}
end
end T2
namespace T2
open PySem PySem.Spec L2 PyProof.Rows

/-! ### a comprehension that an exception leaves -/
section
variable {M : Model} {A : Around} {E : Value → Shared → Prop} {s : Shared} {env : Env}
end

section
variable {Z : Obj → Prop} {base base' : Heap} {l : List Env} {a : Addr} {L C : Addr} {h h' : Heap}
end
end T2
namespace T2
open PySem PySem.Spec L2 PyProof.Rows
section
variable {M : Model} {A : Around} {E : Value → Shared → Prop} {s : Shared} {Z : Obj → Prop} {base : Heap} {env : Env} {outer l : List Env} {L e : Addr}
end
section
variable {X : Cx}
end
end T2
namespace T2
open PySem PySem.Spec L2 PyProof.Rows
section
variable {X : Cx} {W : WX}
end
/-! ### as data -/
section
variable {X : Cx} {g : Wd} {W : WY} {pos : Pos} {m : EM} {tt : BM}
variable {elt tgE iter : Expr} {ifs : List Expr} {scope : Scope} {own : List (Str × Nat)}
end
end T2
namespace T2
open PySem L2
/-! ### for a, b in xs within a comprehension -/
theorem gNs_own {vs : List Nat} {W : L2.St} : ∀ (is : List Nat), (∀ i ∈ is, i ∈ vs) → ∀ (xs : List V) (σ : L2.St) (H : Hp) (Q : L2.St → Hp → Prop), wipe σ vs = W → gNs is xs σ H Q → gNs is xs σ H fun σ2 H2 => wipe σ2 vs = W ∧ Q σ2 H2
  | [], _, xs, σ, H, Q, hw, h => ⟨h.1, hw, h.2⟩
  | i :: is, hi, xs, σ, H, Q, hw, h => by
    obtain ⟨v, r, rfl, q⟩ := h
    exact ⟨v, r, rfl, gNs_own is (fun j hj => hi j (List.mem_cons_of_mem _ hj)) r (σ.set i (some v)) H Q (by rw [wipe_get σ vs i (hi i List.mem_cons_self)]; exact hw) q⟩
theorem tgTup_own {K : PySem.W.Frag} (is : List Nat) {vs : List Nat} (h : ∀ i ∈ is, i ∈ vs) : TgOwn (tgTup is) (gTup K is.length (gNs is)) vs := fun v σ H Q q => by
  obtain ⟨a, xs, e1, e2, e3, q⟩ := q
  exact ⟨a, xs, e1, e2, e3, gNs_own is h xs _ H Q (wipe_wipe σ vs vs fun _ z => z) q⟩
end T2
namespace T2
open PySem L2
/-! ### o.m(..), m a method with *args -/
section
variable {X : Cx} {g : Wd} {W : WY} {a b o : Expr} {pos p apos : Pos} {m1 m2 : EM} {ma : AM} {es : List Expr} {k n : Nat} {f C : Addr} {m : List D → MH → Res D} {x mn : Str} {c : Nat}
end
/-! ### C(.., k = v ..), __init__ with positional and keyword-only parameters -/
section
variable {X : Cx} {g : Wd} {W : WY} {pos p : Pos} {ma mk : AM} {a : Expr} {es : List Expr} {kws : List Keyword} {k n N : Nat} {f : Addr} {fd : FuncData} {ps ks : List Str} {m : List D → MH → Res D} {x : Str} {c : Nat}
end
end T2
namespace T2
open PySem L2
/-! ### x in range(n) -/
section
variable {X : Cx}
end
section
variable {X : Cx} {g : Wd} {W : WY} {a b : Expr} {pos p q : Pos} {m1 m2 : EM}
end
end T2
namespace L2
open PySem PySem.Spec PyProof.Rows
section
variable {prog : Program} {w : World} {A : Around} {E : Value → Shared → Prop} {s : Shared}
end
section
variable {P : Program} {w : World} {H : Hp} {h : Heap} {l it : Addr} {i : Nat}
end
section
variable {X : Cx} {pins : List (Addr × Obj)} {σ : St} {H : Hp} {s : Shared} {l it a q : Addr} {A1 : Around} {i : Nat}
end
section
variable {X : Cx} {pins : List (Addr × Obj)} {σ : St} {H : Hp} {s : Shared} {k : Nat} {f : Addr} {fd : FuncData} {ps : List Str} {sp : Sp} {A' A1 : Around} {C a q fi fl : Addr} {fdI fdL : FuncData} {psI psL : List Str} {spI spL : Sp} {n : Nat}
end
end L2
namespace T2
open PySem L2
/-! ### list(o) of an own iterable whose __iter__ hands out iter(self.f), f a tuple -/
section
variable {X : Cx} {g : Wd} {W : WY} {a : Expr} {es : List Expr} {pos p : Pos} {ma : AM} {c n : Nat} {fi fl : Addr} {fdI fdL : FuncData} {psI psL : List Str} {fld : Str} {m : List D → MH → Res D}
end
end T2
namespace T2
open PySem PySem.Spec L2 PyProof.Rows HotX
section
variable {prog : Program} {w : World} {A : Around} {E : Value → Shared → Prop} {s : Shared}
end
section
variable {X : Cx} {g : Wd} {W : WY} {a : Expr} {es : List Expr} {pos p : Pos} {ma : AM}
end
end T2
namespace T2
open PySem L2
section
variable {e : Env2} {M : MH}
end
end T2
namespace T2
open PySem L2
/-! ### more single steps: locks, methods of dicts -/
theorem set_back {M G : MH} {p : Nat} {o x : MO} (h : M[p]? = some o) : (M.set p x ++ G).set p o = M ++ G := by
  have hp := at_lt h
  rw [List.set_append_left _ _ (by rw [List.length_set]; exact hp), List.set_set]
  congr 1
  refine List.ext_getElem? fun i => ?_
  by_cases hi : p = i
  · subst hi
    rw [List.getElem?_set_self hp, h]
  · rw [List.getElem?_set_ne hi]
namespace St
section
variable {e e1 : Env2} {M M1 M2 M3 : MH} {nf : Env2 → MH → Option Nat} {p : Nat}
theorem dm {f : Nat → List D → MH → Res D} {mo : EM} {ma : AM} {n : Nat} {q : List NK × List D} {ds : List D} {r : Res D} (h1 : mo e M = .ok (.ref n) M1) (h2 : pOf M1 n = some q) (h3 : ma e M1 = .ok ds M2) (h4 : f n ds M2 = r) : eDm f mo ma e M = r := by
  unfold eDm
  rw [h1, Res.bind_ok]
  dsimp only
  rw [h2]
  dsimp only
  rw [h3, Res.bind_ok, h4]
theorem dget2 {mo mk mx : EM} {n : Nat} {ks0 ks : List Key} {ds0 ds : List D} {y z : D} {k : Key} (h1 : mo e M = .ok (.ref n) M1) (h2 : M1[n]? = some (.dk ks0 ds0)) (h3 : mk e M1 = .ok y M2) (h4 : mx e M2 = .ok z M3) (h5 : M3[n]? = some (.dk ks ds)) (h6 : keyOf y = some k) :
    eDGet2 mo mk mx e M = .ok ((kGet ks ds k).getD z) M3 := by
  rw [y_eDGet2, h1, y_bind_ok]
  dsimp only
  rw [h2]
  dsimp only
  rw [h3, y_bind_ok, h4, y_bind_ok, h5, h6]
theorem lockE {m : EM} {v : D} {ks ks' : List Key} {ds ds' : List D} (h1 : nf e M = some p) (h2 : M[p]? = some (.dk ks ds)) (h3 : m e (M.set p (.lk ks ds)) = .ok v M2) (h4 : M2[p]? = some (.lk ks' ds')) : eLockK nf m e M = .ok v (M2.set p (.dk ks' ds')) := by
  unfold eLockK
  rw [h1]
  dsimp only
  rw [h2]
  dsimp only
  rw [h3]
  unfold unlkE
  dsimp only
  rw [h4]
theorem lockP {m : EM} {v : D} {ks ks' : List NK} {ds ds' : List D} (h1 : nf e M = some p) (h2 : M[p]? = some (.dp ks ds)) (h3 : m e (M.set p (.lp ks ds)) = .ok v M2) (h4 : M2[p]? = some (.lp ks' ds')) : eLockP nf m e M = .ok v (M2.set p (.dp ks' ds')) := by
  unfold eLockP
  rw [h1]
  dsimp only
  rw [h2]
  dsimp only
  rw [h3]
  unfold unlkEP
  dsimp only
  rw [h4]
theorem nfe {m : EM} {M' : MH} (h : m e M = .ok (.ref p) M') : nfE m e M = some p := by
  unfold nfE
  rw [h]
theorem itP {m : EM} {ks : List NK} {ds : List D} (h : m e M = .ok (.ref p) M1) (hp : M1[p]? = some (.lp ks ds)) : iKeysPD m e M = .ok (.vals (ks.map keyV)) M1 := by
  unfold iKeysPD
  rw [h, Res.bind_ok]
  dsimp only
  rw [hp]
theorem seqR {a b : SM} {d : D} (h : a e M = .rt d M1) : sSeq a b e M = .rt d M1 := seq_rt' h
/-- what is walked by a comprehension: written values -/
theorem lcv {α : Type} {it : Env2 → MH → Res IV} {tg : TgM} {tt : BM} {m : EM} {vs : List Nat} {M0 : MH} {f : α → D} {g : α → Option D} {xs : List α} (hi : it e M0 = .ok (.vals (xs.map f)) M)
    (h : ∀ x ∈ xs, ∀ acc, lcStep tg tt m (wipe2 e vs) (f x) (M ++ [.lst acc]) = .ok (g x) (M ++ [.lst acc])) (hl : xs.length ≤ 1000) : eLc it tg tt m vs e M0 = .ok (.ref M.length) (M ++ [.lst (xs.filterMap g)]) := by
  rw [z_lc, hi]
  have := lcV_all (M0 := M) xs [] h (by simpa using hl)
  rw [y_lc_v]
  simpa using this
/-- one turn of a comprehension -/
theorem lcs {tg : TgM} {tt : BM} {m : EM} {x y : D} {k : Bool} (ht : tg x e = some e1) (h1 : tt e1 M = .ok k M) (h2 : k = true → m e1 M = .ok y M) : lcStep tg tt m e x M = .ok (if k = true then some y else none) M := by
  unfold lcStep
  rw [ht]
  dsimp only
  rw [h1]
  cases k
  · rfl
  · show (noX (m e1 M)).bind _ = _
    rw [h2 rfl]
    rfl
theorem lcs1 {tg : TgM} {m : EM} {x y : D} (ht : tg x e = some e1) (h2 : m e1 M = .ok y M) : lcStep tg bYes m e x M = .ok (some y) M := lcs (k := true) ht rfl fun _ => h2
end
end St
end T2
namespace T2
open PySem L2 PySem.Spec PyProof.Rows GP GenW
/-! ### comprehensions that make a dict keyed by tuples -/
section
variable {X : Cx} {pins : List (Addr × Obj)} {σ : L2.St} {H : Hp} {s : Shared} {a b : Addr} {y : V} {u r : Value} {A : Around} {E : Value → Shared → Prop} {xs : List (NK × Addr × Value)} {vs : List V} {k : NK}
/-- what is known once an entry is laid -/
theorem RD.laid {h' : Heap} {φ : Heap → Prop} {t : Nat} (I : Inv X pins σ H s) (e : H a = some (.ext φ)) (D : RD X.K H a xs vs) (kt : NKey X.K H k (.ref b)) (nk : NoTx k) (hl : xs.length < sizeLine) (rv : RelV y r)
    (dd : h'.DictOfH (nestedKind X.prog X.w) a (storedH xs k b r)) (sb : Heap.SameBut a s.heap h') :
    RD X.K (upd H a (.ext (RowsAt a (storedH xs k b r)))) a (storedH xs k b r) (if (rvGet xs vs k).isSome then rvPut xs vs k y else vs ++ [y]) ∧
      (storedH xs k b r).map (·.1) = (if (rvGet xs vs k).isSome then xs.map (·.1) else xs.map (·.1) ++ [k]) ∧ Inv X pins σ (upd H a (.ext (RowsAt a (storedH xs k b r)))) { s with heap := h', toks := t } := by
  obtain ⟨z, far, nt, _⟩ := D.rows I
  have there : (rvGet xs vs k).isSome = (atKey xs k).isSome := by
    have q := (rvGet_at k D.vl).isSome_eq
    rwa [Option.isSome_map] at q
  have each : ∀ x ∈ storedH xs k b r, NoTx x.1 ∧ NKey X.K H x.1 (.ref x.2.1) := fun x hx => by
    unfold storedH at hx
    split at hx
    · obtain ⟨w, hw, rfl⟩ := List.mem_map.mp hx
      unfold PySem.putAt
      split <;> exact ⟨nt w hw, D.kt w hw⟩
    · rcases List.mem_append.mp hx with hw | hw
      · exact ⟨nt x hw, D.kt x hw⟩
      · obtain rfl := List.mem_singleton.mp hw
        exact ⟨nk, kt⟩
  have size : (storedH xs k b r).length ≤ sizeLine := by
    unfold storedH
    split
    · rwa [List.length_map]
    · rw [List.length_append]; exact hl
  have R' := RowsAt.of dd size far fun x hx => (each x hx).1
  refine ⟨⟨⟨a, .inl upd_same⟩, fun x hx => (each x hx).2.mono fun c ys hc => ?_, ?_⟩, ?_, d_write I (by rw [e]; exact True.intro) sb (R'.2.2.2.elim fun o h => h.elim fun _ h => h.elim fun _ h => ⟨o, h.1⟩) (rows_ok R')⟩
  · rcases hc with (hc | ⟨ob, hc⟩) | hc
    · exact .inl (.inl ((upd_ne (ne_of hc e (fun z => nomatch z))).trans hc))
    · exact .inl (.inr ⟨ob, (upd_ne (ne_of hc e (fun z => nomatch z))).trans hc⟩)
    · exact .inr hc
  · rw [there]
    unfold storedH
    split
    · exact rvPut_old k rv D.vl
    · rw [List.map_append]; exact vals_snoc D.vl rv
  · rw [there]
    unfold storedH
    split
    · rw [List.map_map]
      exact List.map_congr_left fun x _ => by show (PySem.putAt k r x).1 = x.1; unfold PySem.putAt; split <;> rfl
    · exact List.map_append
theorem p_dictSet {Nx : Hp → Prop} {yk : V} (hu : X.A.units + 8 < cLine) (I : Inv X pins σ H s) (q : PPut X.K H a yk y Nx) (rk : RelV yk u) (rv : RelV y r) : wpAny (model X.prog X.w) X.A (dictSet a u r) (fun _ s' => ∃ H', Inv X pins σ H' s' ∧ Nx H') E s := by
  obtain ⟨xs, vs, k, b, φ, e, D, rfl, kt, nk, hl, q⟩ := q
  cases (show u = Value.ref b from rk)
  refine wpAny_dictSet_heap (hsz := (D.rows I).1) hu (leaf_key I kt nk) (D.dict I) fun h' dd sb => ?_
  obtain ⟨D', e1, J⟩ := RD.laid I e D kt nk hl rv dd sb
  exact ⟨_, J, q _ _ D' e1 rfl⟩
end
end T2
namespace T2
open PySem PySem.Spec PyProof.Rows GP GenW L2
section
variable {X : Cx} {pins ps : List (Addr × Obj)} {σ σ8 : L2.St} {H H3 H8 : Hp} {s s3 s8 : Shared} {scope : Scope} {ce : Env} {fp : List Addr} {D : Addr} {ifs : List Expr} {kx vx tg : Expr} {gt : TG} {tt : TT} {tk tv : TE} {Nx : Hp → Prop} {F : Shared → Prop} {E : Value → Shared → Prop} {g0 : Array GenState} {own : List (Str × Nat)} {f tv0 : Addr}
/-- a turn behind its target: the tests, the key, the value, the entry -/
theorem dcp_tail (hu : X.A.units + 8 < cLine) (pt : PTs (X.blk s3 H3 scope ce fp) ifs tt) (pk : PE (X.blk s3 H3 scope ce fp) kx tk) (pe : PE (X.blk s3 H3 scope ce fp) vx tv) (I8 : Inv (X.blk s3 H3 scope ce fp) ps σ8 H8 s8) (z8 : Sleeps g0 s8.gens)
    (q : tt σ8 H8 fun b H3 => if b = true then tk σ8 H3 fun y H4 => tv σ8 H4 fun z H5 => PPut X.K H5 D y z Nx else Nx H3)
    (fin : ∀ s' H', Inv (X.blk s3 H3 scope ce fp) ps σ8 H' s' → Sleeps g0 s'.gens → Nx H' → F s') :
    wpAny (model X.prog X.w) X.A (forIn ifs true fun c r => if r = true then do let ok ← isTrue c ce (eval c ce); pure (ForInStep.yield ok) else pure (ForInStep.yield r)) (fun ok s₃ =>
      if ok = true then wpAny (model X.prog X.w) X.A (eval kx ce) (fun kv s₄ => wpAny (model X.prog X.w) X.A (eval vx ce) (fun vv s₅ => wpAny (model X.prog X.w) X.A (dictSet D kv vv) (fun _ s₆ => F s₆) E s₅) E s₄) E s₃
      else F s₃) E s8 := by
  refine thnF (wpAny_sleeps (pt.run _ (wg s8 (s8.gens.map poi)) σ8 H8 _ (inv_deaf I8) q) deaf_tp deaf_false) fun ok s9 ⟨z9, H9, I9, q9⟩ => ?_
  replace q9 : if ok = true then tk σ8 H9 fun y H4 => tv σ8 H4 fun z H5 => PPut X.K H5 D y z Nx else Nx H9 := q9
  by_cases e : ok = true
  · rw [if_pos e] at q9 ⊢
    refine thnF (wpAny_sleeps (pk.run _ (wg s9 (s9.gens.map poi)) σ8 H9 _ (inv_deaf I9) q9) deaf_ep deaf_false) fun kv s10 ⟨z10, yk, H10, I10, r10, q10⟩ => ?_
    refine thnF (wpAny_sleeps (pe.run _ (wg s10 (s10.gens.map poi)) σ8 H10 _ (inv_deaf I10) q10) deaf_ep deaf_false) fun vv s11 ⟨z11, yv, H11, I11, r11, q11⟩ => ?_
    refine thnF (wpAny_sleeps (E := fun _ _ => False) (p_dictSet (X := X.blk s3 H3 scope ce fp) hu (inv_deaf I11) q11 r10 r11) (fun _ _ _ _ P ⟨H', J, n⟩ => ⟨H', inv_back P J, n⟩) deaf_false) fun _ s12 ⟨z12, H12, J, n⟩ => ?_
    exact fin s12 H12 J ((((z8.trans z9).trans z10).trans z11).trans z12) n
  · rw [if_neg e] at q9 ⊢
    exact fin s9 H9 I9 (z8.trans z9) q9
/-- {k: v for target in iter if ..}, the keys tuples -/
def tDcP (K : PySem.W.Frag) (wi : TI) (g : TG) (tt : TT) (tk tv : TE) (vs : List Nat) : TE := fun σ H Q => wi σ H fun J H1 => ∀ D, H1 D = none → ∃ W : Nat → Nat → Hp → Prop, (∃ m, W 0 m (upd H1 D (.ext (RowsAt D [])))) ∧ ∀ i m H, W i m H →
  (J.stop i H ∧ Q (.ref D) H) ∨ (J.go i H ∧ ∃ Nx : Hp → Prop, (∀ H', Nx H' → ∃ m', m' < m ∧ W (i + 1) m' H') ∧ ∀ x H', J.yld i H x H' → g x (wipe σ vs) H' fun σ2 H2 => wipe σ2 vs = wipe σ vs ∧ tt σ2 H2 fun b H3 =>
    if b = true then tk σ2 H3 fun y H4 => tv σ2 H4 fun z H5 => PPut K H5 D y z Nx else Nx H3)
theorem dict_laid (e : ({ s with heap := s.heap.push { cls := .type "dict", data := .dict #[] } } : Shared) = s3) (I : Inv X pins σ H s) (hD : s.heap.objs.size = D) (f : ∀ b ∈ fp, FpOk X pins H b ∧ b < s.heap.objs.size) :
    Inv X pins σ (upd H D (.ext (RowsAt D []))) s3 ∧ (∀ b o, s.heap.get? b = some o → s3.heap.get? b = some o) ∧ (∀ b ∈ fp, FpOk X pins (upd H D (.ext (RowsAt D []))) b ∧ b < s3.heap.objs.size) ∧ s3.gens = s.gens := by
  subst e hD
  refine ⟨I.laid (t' := s.toks) (fun _ _ => Heap.get?_push_of_some _) (Nat.le_refl _) (rows_ok (rows_empty (P := X.prog) (w := X.w) (H := H) s.heap I.big)), fun _ _ => Heap.get?_push_of_some _, fun b hb => ?_, rfl⟩
  obtain ⟨⟨n, rest⟩, lt⟩ := f b hb
  exact ⟨⟨(upd_ne (Nat.ne_of_lt lt)).trans n, rest⟩, Nat.lt_of_lt_of_le lt (by rw [Heap.size_push]; exact Nat.le_succ _)⟩
/-- over the rows -/
theorem dcp_rows {Q : VK} {pos pos' pf pc : Pos} {use : Option (Value → Sem Unit)} {Qf : Value → Shared → Prop} (hu : X.A.units + 8 < cLine)
    (Ta : ArIs X.K X.mg f tv0) (hr : Room 1 X.A) (hgl : Gl X "all_rows")
    (hc : X.calm = true) (hN : X.N.Nodup) (I : Inv X pins σ H s) (ok : BlkOk X.N X.env.scope scope own)
    (hg : ∀ (s : Shared) (H : Hp) (C : Addr) (cl : List (Str × Addr)) (fp : List Addr), PG (X.blk s H scope (compEnvC scope cl C X.env) fp) tg gt) (ht : ∀ (s : Shared) (H : Hp) (C : Addr) (cl : List (Str × Addr)) (fp : List Addr), PTs (X.blk s H scope (compEnvC scope cl C X.env) fp) ifs tt)
    (hk : ∀ (s : Shared) (H : Hp) (C : Addr) (cl : List (Str × Addr)) (fp : List Addr), PE (X.blk s H scope (compEnvC scope cl C X.env) fp) kx tk)
    (he : ∀ (s : Shared) (H : Hp) (C : Addr) (cl : List (Str × Addr)) (fp : List Addr), PE (X.blk s H scope (compEnvC scope cl C X.env) fp) vx tv) (hs : ∀ x, foldedSetIterable (.Call (.Name "all_rows" pf) [] [] pc) X.env x = pure x)
    (h : tDcP X.K tRows gt tt tk tv (own.map (·.2)) σ H Q)
    (hRR : ∀ D C s' m H', Inv X pins σ H' s' → Q (.ref D) H' → s'.heap.Ns C m → FpOk X pins H' C → compPost (model X.prog X.w) X.A X.xe use Qf (.ref D) C (.ok .next) s') :
    wpAny (model X.prog X.w) X.A (comprehension (.DictComp kx vx [⟨tg, (.Call (.Name "all_rows" pf) [] [] pc), ifs, 0⟩] scope pos) scope X.env pos' newDict false (eval (.Call (.Name "all_rows" pf) [] [] pc) X.env) use) Qf X.xe s := by
  obtain ⟨o, its, n, hi⟩ := Ta.t
  have hd : X.A.depth < recursionLimit := by have := hr.dp; omega
  have hi' : ∃ (o : Obj) (n : Nat), X.K.lookup tv0 = some o ∧ o.cls = .type "tuple" ∧ o.data = .seq its n ∧ Vals [.non, .int 0, .int 1, .int 2] its.toList := ⟨o, n, hi⟩
  refine wpAny_comprehension_free (use := use) rfl hs (closure_ok (BlkW.closed I ok)) ok.kind (fun y hy e => by rw [ok.uniq y hy, e])
    (thn (make_ar I Ta hi' hr hgl) fun xv s2 ⟨a, g, e, I2, T2⟩ => ?_)
  subst e
  obtain ⟨ap, gs, T2⟩ := T2
  refine wpAny_pyIter_gen T2.gen (wpAny_newObj_type (newEnv_comp ?_))
  generalize hD : s2.heap.objs.size = D
  obtain ⟨W, ⟨m0, w0⟩, turn⟩ := h D (I2.hok.fresh (Nat.le_of_eq hD))
  generalize hs3 : ({ s2 with heap := s2.heap.push { cls := .type "dict", data := .dict #[] } } : Shared) = s3
  generalize hfp : a :: ap.map (·.1) = fp
  obtain ⟨I3, keep3, f3, g3⟩ := dict_laid (fp := fp) hs3 I2 hD fun b hb => ArTurn.fp T2 b (by rw [hfp]; exact hb)
  have I4 := block_start I3 ok hN f3
  have pg := hg s3 (upd H D (.ext (RowsAt D []))) s3.heap.objs.size (cellsFrom (s3.heap.objs.size + 1) scope.names (cloFrom X.env.cells scope.names [])) fp
  have pt := ht s3 (upd H D (.ext (RowsAt D []))) s3.heap.objs.size (cellsFrom (s3.heap.objs.size + 1) scope.names (cloFrom X.env.cells scope.names [])) fp
  have pk := hk s3 (upd H D (.ext (RowsAt D []))) s3.heap.objs.size (cellsFrom (s3.heap.objs.size + 1) scope.names (cloFrom X.env.cells scope.names [])) fp
  have pe := he s3 (upd H D (.ext (RowsAt D []))) s3.heap.objs.size (cellsFrom (s3.heap.objs.size + 1) scope.names (cloFrom X.env.cells scope.names [])) fp
  have nfp : ∀ b ∈ fp, (upd H D (.ext (RowsAt D []))) b = none := fun b hb => (f3 b hb).1.1
  show codeAny _ _ (.compStart (.DictComp kx vx [⟨tg, (.Call (.Name "all_rows" pf) [] [] pc), ifs, 0⟩] scope pos) 0 (.ref a) (.ref D) (compEnvC scope (cellsFrom (s3.heap.objs.size + 1) scope.names (cloFrom X.env.cells scope.names [])) s3.heap.objs.size X.env)) (compPost (model X.prog X.w) X.A X.xe use Qf (.ref D) s3.heap.objs.size) { s3 with heap := pushCells (s3.heap.push { cls := .type "dict", data := .dict #[] }) scope.names }
  generalize hce : compEnvC scope (cellsFrom (s3.heap.objs.size + 1) scope.names (cloFrom X.env.cells scope.names [])) s3.heap.objs.size X.env = ce at I4 pg pt pk pe ⊢
  have cL : ce.locals = s3.heap.objs.size := by subst hce; rfl
  generalize hH3 : upd H D (.ext (RowsAt D [])) = H3 at I3 I4 pg pt pk pe w0 nfp f3
  generalize hs4 : ({ s3 with heap := pushCells (s3.heap.push { cls := .type "dict", data := .dict #[] }) scope.names } : Shared) = s4 at I4 ⊢
  have k4 : ∀ b o, s2.heap.get? b = some o → s4.heap.get? b = some o := fun b o e => by
    rw [← hs4]
    exact pushCells_keeps _ _ _ _ (Heap.get?_push_of_some _ (keep3 b o e))
  have g4 : s4.gens = s2.gens := by rw [← hs4]; exact g3
  have still : ∀ b ∈ fp, FpOk (X.blk s3 H3 scope ce fp) [] H3 b := fun b hb => BlkW.still (xe := (X.blk s3 H3 scope ce fp).xe) I4 hb (nfp b hb)
  have T4 : ArTurn (X.blk s3 H3 scope ce fp) (gbOf X tv0 its) [] a g 0 H3 s4 :=
    ⟨ap, gs, ⟨T2.gen.keeps k4, by rw [g4]; exact T2.st, T2.rdy, T2.le, T2.awake, still a (by rw [← hfp]; exact List.mem_cons_self), fun p h => ⟨k4 _ _ (T2.pin p h).1, still _ (by rw [← hfp]; exact List.mem_cons_of_mem _ (List.mem_map.mpr ⟨p, h, rfl⟩)), (T2.pin p h).2.2.1, (T2.pin p h).2.2.2⟩⟩⟩
  have loop : codeAny (model X.prog X.w) X.A (.compLoop (.DictComp kx vx [⟨tg, (.Call (.Name "all_rows" pf) [] [] pc), ifs, 0⟩] scope pos) 0 (.ref a) (.ref D) ce) (compPost (model X.prog X.w) X.A X.xe use Qf (.ref D) s3.heap.objs.size) s4 := by
    refine compLoop_anyD (fun n s' => ∃ i H', Inv (X.blk s3 H3 scope ce fp) [] (wipe σ (own.map (·.2))) H' s' ∧ ArTurn (X.blk s3 H3 scope ce fp) (gbOf X tv0 its) [] a g i H' s' ∧ W i n H') ?_ m0 ⟨0, H3, I4, T4, w0⟩
    rintro n s5 ⟨i, H5, I5, T5, w5⟩
    rcases turn i n H5 w5 with ⟨stop, qq⟩ | ⟨go, Nx, hNx, step⟩
    · have e64 : i = 64 := by
        have h1 : 64 ≤ i := stop
        obtain ⟨_, _, t⟩ := T5
        have := t.le
        omega
      subst e64
      refine thnF (turn_done (X := X.blk s3 H3 scope ce fp) (tv := tv0) (its := its) (E := fun _ _ => False) hc hd I5 T5) fun r s6 ⟨hr, I6⟩ => ?_
      subst hr
      obtain ⟨I7, ⟨m, hn⟩, fC⟩ := BlkW.left (xe := (X.blk s3 H3 scope ce fp).xe) I3 f3 cL I6
      rw [cL] at hn fC
      exact hRR D s3.heap.objs.size s6 m H5 I7 qq hn fC
    · refine thnF (turn_item (X := X.blk s3 H3 scope ce fp) (tv := tv0) (its := its) (E := fun _ _ => False) hi' hc hd I5 T5 go) fun r s6 ⟨q, hr, hq, I6, ap6, gs6, t6⟩ => ?_
      subst hr
      obtain ⟨ob, nm, qn, hob, hcl, hdt, hsl⟩ := id t6.gen
      have hsu : susp gs6 = true := t6.awake.elim (fun z => absurd z (by omega)) id
      refine go_of hob hcl hdt (by decide) ?_
      refine thnF (wpAny_sleeps (pg.run _ (wg s6 (s6.gens.map poi)) _ _ (.ref q) (.ref q) _ (inv_deaf (t6.pinned I6 hob)) rfl (step (.ref q) _ ⟨q, rfl, hq, rfl⟩)) deaf_pg deaf_false) fun _ s8 ⟨z8, σ8, H8, I8, hw8, q8⟩ => ?_
      refine dcp_tail hu pt pk pe I8 z8 q8 fun s' H' I' z' nx => ?_
      obtain ⟨m', hm, w'⟩ := hNx H' nx
      exact ⟨m', hm, i + 1, H', (I'.unpinned (pins := [])).weak (by rw [← hw8, wipe_length]) (fun j v e => by rw [← hw8] at e; exact (wipe_some e).1), t6.after hob I' z' hsu, w'⟩
  exact codeAny_compStart_dict loop (wpAny_pyIter_gen (T4.elim fun ap t => t.elim fun gs t => t.gen) loop)
theorem pe_dcRows {pos pf pc : Pos} (hu : X.A.units + 8 < cLine) (Ta : ArIs X.K X.mg f tv0) (hr : Room 1 X.A) (hgl : Gl X "all_rows") (hc : X.calm = true) (hN : X.N.Nodup) (ok : BlkOk X.N X.env.scope scope own)
    (hg : ∀ (s : Shared) (H : Hp) (C : Addr) (cl : List (Str × Addr)) (fp : List Addr), PG (X.blk s H scope (compEnvC scope cl C X.env) fp) tg gt) (ht : ∀ (s : Shared) (H : Hp) (C : Addr) (cl : List (Str × Addr)) (fp : List Addr), PTs (X.blk s H scope (compEnvC scope cl C X.env) fp) ifs tt)
    (hk : ∀ (s : Shared) (H : Hp) (C : Addr) (cl : List (Str × Addr)) (fp : List Addr), PE (X.blk s H scope (compEnvC scope cl C X.env) fp) kx tk)
    (he : ∀ (s : Shared) (H : Hp) (C : Addr) (cl : List (Str × Addr)) (fp : List Addr), PE (X.blk s H scope (compEnvC scope cl C X.env) fp) vx tv) (hs : ∀ x, foldedSetIterable (.Call (.Name "all_rows" pf) [] [] pc) X.env x = pure x := by intro _; rfl) :
    PE X (.DictComp kx vx [⟨tg, (.Call (.Name "all_rows" pf) [] [] pc), ifs, 0⟩] scope pos) (tDcP X.K tRows gt tt tk tv (own.map (·.2))) := by
  refine ⟨fun pins s σ H Q I h => ?_⟩
  rw [arm_eval_DictComp]
  refine dcp_rows hu Ta hr hgl hc hN I ok hg ht hk he hs h fun D C s' m H' I' q hn f => ⟨m, hn, fun h'' sb => ⟨.ref D, H', ?_, rfl, q⟩⟩
  exact I'.turned (t' := s'.toks) (fun b o hb e => (sb.2 b hb).trans e) f.1 f.2.1 f.2.2.2.1 f.2.2.2.2.1 f.2.2.2.2.2
end
end T2
namespace T2
open PySem PySem.Spec PyProof.Rows GP GenW L2
section
variable {X : Cx} {pins ps : List (Addr × Obj)} {σ σ8 : L2.St} {H H3 H8 : Hp} {s s3 s8 : Shared} {scope : Scope} {ce : Env} {fp : List Addr} {D : Addr} {ifs : List Expr} {kx vx tg iter : Expr} {wi : TI} {gt : TG} {tt : TT} {tk tv : TE} {own : List (Str × Nat)}
/-- over what has a walk -/
theorem dcp_walk {Q : VK} {pos pos' : Pos} {use : Option (Value → Sem Unit)} {Qf : Value → Shared → Prop} (hu : X.A.units + 8 < cLine) (hi : PI X tg iter wi)
    (hc : X.calm = true) (hN : X.N.Nodup) (I : Inv X pins σ H s) (ok : BlkOk X.N X.env.scope scope own)
    (hg : ∀ (s : Shared) (H : Hp) (C : Addr) (cl : List (Str × Addr)) (fp : List Addr), PG (X.blk s H scope (compEnvC scope cl C X.env) fp) tg gt) (ht : ∀ (s : Shared) (H : Hp) (C : Addr) (cl : List (Str × Addr)) (fp : List Addr), PTs (X.blk s H scope (compEnvC scope cl C X.env) fp) ifs tt)
    (hk : ∀ (s : Shared) (H : Hp) (C : Addr) (cl : List (Str × Addr)) (fp : List Addr), PE (X.blk s H scope (compEnvC scope cl C X.env) fp) kx tk)
    (he : ∀ (s : Shared) (H : Hp) (C : Addr) (cl : List (Str × Addr)) (fp : List Addr), PE (X.blk s H scope (compEnvC scope cl C X.env) fp) vx tv) (hs : ∀ x, foldedSetIterable iter X.env x = pure x)
    (h : tDcP X.K wi gt tt tk tv (own.map (·.2)) σ H Q)
    (hRR : ∀ D C s' m H', Inv X pins σ H' s' → Q (.ref D) H' → s'.heap.Ns C m → FpOk X pins H' C → compPost (model X.prog X.w) X.A X.xe use Qf (.ref D) C (.ok .next) s') :
    wpAny (model X.prog X.w) X.A (comprehension (.DictComp kx vx [⟨tg, iter, ifs, 0⟩] scope pos) scope X.env pos' newDict false (eval iter X.env) use) Qf X.xe s := by
  refine wpAny_comprehension_free (use := use) rfl hs (closure_ok (BlkW.closed I ok)) ok.kind (fun y hy e => by rw [ok.uniq y hy, e])
    (thn (hi.run pins s σ H _ I h) fun xv s1 hx => thn hx fun itv s2 ⟨it, fp, tn, J, H2, e, I2, T, st2, f2, q⟩ => ?_)
  subst e
  refine wpAny_newObj_type (newEnv_comp ?_)
  generalize hD : s2.heap.objs.size = D
  obtain ⟨W, ⟨m0, w0⟩, turn⟩ := q D (I2.hok.fresh (Nat.le_of_eq hD))
  generalize hs3 : ({ s2 with heap := s2.heap.push { cls := .type "dict", data := .dict #[] } } : Shared) = s3
  obtain ⟨I3, keep3, f3, _⟩ := dict_laid (fp := fp) hs3 I2 hD fun b hb => ⟨f2 b hb, (T.obj _ _ st2 b hb).elim fun o z => Heap.lt_size z.1⟩
  have I4 := block_start I3 ok hN f3
  have pg := hg s3 (upd H2 D (.ext (RowsAt D []))) s3.heap.objs.size (cellsFrom (s3.heap.objs.size + 1) scope.names (cloFrom X.env.cells scope.names [])) fp
  have pt := ht s3 (upd H2 D (.ext (RowsAt D []))) s3.heap.objs.size (cellsFrom (s3.heap.objs.size + 1) scope.names (cloFrom X.env.cells scope.names [])) fp
  have pk := hk s3 (upd H2 D (.ext (RowsAt D []))) s3.heap.objs.size (cellsFrom (s3.heap.objs.size + 1) scope.names (cloFrom X.env.cells scope.names [])) fp
  have pe := he s3 (upd H2 D (.ext (RowsAt D []))) s3.heap.objs.size (cellsFrom (s3.heap.objs.size + 1) scope.names (cloFrom X.env.cells scope.names [])) fp
  have nfp : ∀ b ∈ fp, (upd H2 D (.ext (RowsAt D []))) b = none := fun b hb => (f3 b hb).1.1
  show codeAny _ _ (.compStart (.DictComp kx vx [⟨tg, iter, ifs, 0⟩] scope pos) 0 (.ref it) (.ref D) (compEnvC scope (cellsFrom (s3.heap.objs.size + 1) scope.names (cloFrom X.env.cells scope.names [])) s3.heap.objs.size X.env)) (compPost (model X.prog X.w) X.A X.xe use Qf (.ref D) s3.heap.objs.size) { s3 with heap := pushCells (s3.heap.push { cls := .type "dict", data := .dict #[] }) scope.names }
  generalize hce : compEnvC scope (cellsFrom (s3.heap.objs.size + 1) scope.names (cloFrom X.env.cells scope.names [])) s3.heap.objs.size X.env = ce at I4 pg pt pk pe ⊢
  have cL : ce.locals = s3.heap.objs.size := by subst hce; rfl
  generalize hH3 : upd H2 D (.ext (RowsAt D [])) = H3 at I3 I4 pg pt pk pe w0 nfp f3
  generalize hs4 : ({ s3 with heap := pushCells (s3.heap.push { cls := .type "dict", data := .dict #[] }) scope.names } : Shared) = s4 at I4 ⊢
  have st4 : tn 0 s4.heap := T.keep _ _ _ st2 fun b _ o e => by rw [← hs4]; exact pushCells_keeps _ _ _ _ (Heap.get?_push_of_some _ (keep3 b o e))
  have loop : codeAny (model X.prog X.w) X.A (.compLoop (.DictComp kx vx [⟨tg, iter, ifs, 0⟩] scope pos) 0 (.ref it) (.ref D) ce) (compPost (model X.prog X.w) X.A X.xe use Qf (.ref D) s3.heap.objs.size) s4 := by
    refine compLoop_anyD (fun n s' => ∃ i H', (Inv (X.blk s3 H3 scope ce fp) [] (wipe σ (own.map (·.2))) H' s' ∧ tn i s'.heap ∧ W i n H') ∧ ∀ b ∈ fp, H' b = none) ?_ m0 ⟨0, H3, ⟨I4, st4, w0⟩, nfp⟩
    rintro n s5 ⟨i, H5, ⟨I5, st5, w5⟩, n5⟩
    have fps : ∀ b ∈ fp, FpOk (X.blk s3 H3 scope ce fp) [] H5 b := fun b hb => BlkW.still (xe := (X.blk s3 H3 scope ce fp).xe) I5 hb (n5 b hb)
    rcases turn i n H5 w5 with ⟨stop, qq⟩ | ⟨go, Nx, hNx, step⟩
    · refine thnF (T.done (X.blk s3 H3 scope ce fp) rfl rfl rfl hc i [] s5 _ H5 (fun _ _ => False) I5 fps st5 stop) fun r s6 ⟨hr, I6⟩ => ?_
      subst hr
      obtain ⟨I7, ⟨m, hn⟩, fC⟩ := BlkW.left (xe := (X.blk s3 H3 scope ce fp).xe) I3 f3 cL I6
      rw [cL] at hn fC
      exact hRR D s3.heap.objs.size s6 m H5 I7 qq hn fC
    · refine thnF (T.item (X.blk s3 H3 scope ce fp) rfl rfl rfl hc i [] s5 _ H5 (fun _ _ => False) I5 fps st5 go) fun r s6 ⟨u, hr, h6⟩ => ?_
      subst hr
      refine thnF h6 fun _ s7 ⟨x, H7, I7, r7, y7, st7, n7⟩ => ?_
      have J7 := I7.pinned (fun b hb => BlkW.still (xe := (X.blk s3 H3 scope ce fp).xe) I7 hb (n7 b hb)) (T.obj _ _ st7)
      refine thnF (pg.run _ s7 _ H7 x u _ J7 r7 (step x H7 y7)) fun _ s8 ⟨σ8, H8, I8, hw8, q8⟩ => ?_
      refine dcp_tail hu pt pk pe I8 (Sleeps.refl _) q8 fun s' H' I' _ nx => ?_
      obtain ⟨m', hm, w'⟩ := hNx H' nx
      obtain ⟨J', keep⟩ := BlkW.turned hw8 I'
      exact ⟨m', hm, i + 1, H', ⟨J', T.keep _ _ _ st7 fun b hb o e => (keep b hb o e).1, w'⟩, fun b hb => (T.obj _ _ st7 b hb).elim fun o z => (keep b hb o z.1).2⟩
  exact codeAny_compStart_dict loop (T.self X.A 0 _ _ _ st4 loop)
end
end T2
namespace T2
open PySem L2
/-! ### comprehensions that make a dict keyed by tuples, at D -/
def pairM (tg : TgM) (tt : BM) (mk mv : EM) (e : Env2) (x : D) (M : MH) : Res (Option (D × D)) := match tg x e with
  | none => .bad
  | some e1 => (noX (tt e1 M)).bind fun b M1 => if b = true then (noX (mk e1 M1)).bind fun y M2 => (noX (mv e1 M2)).bind fun z M3 => .ok (some (y, z)) M3
    else .ok none M1
def layP (n : Nat) (o : Option (D × D)) (M : MH) : Option MH := match o with
  | none => some M
  | some (y, z) => dSetP (.ref n) y z M
def dcVP (tg : TgM) (tt : BM) (mk mv : EM) (e : Env2) (n : Nat) : List D → MH → Res D
  | [], M => .ok (.ref n) M
  | x :: xs, M => (pairM tg tt mk mv e x M).bind fun o M1 => match layP n o M1 with
    | some M2 => dcVP tg tt mk mv e n xs M2
    | none => .bad
def eDcP (it : Env2 → MH → Res IV) (tg : TgM) (tt : BM) (mk mv : EM) (vs : List Nat) : EM := fun e M => match it e M with
  | .ok (.vals ds) M1 => dcVP tg tt mk mv (wipe2 e vs) M1.length ds (M1 ++ [.dp [] []])
  | .exc c ns ds M1 => .exc c ns ds M1
  | _ => .bad
section
variable {X : Cx} {g : Wd} {W : WY} {pos : Pos} {mk mv : EM} {tt : BM}
theorem pairM_run {F : List Addr} {e : Env2} {M : MH} {σ : L2.St} {H : Hp} {x : D} {v : V} {tg : TgM} {gt : TG} {vs : List Nat} {n : Nat} {ad : Addr} {k : MH → Res D} {Q : VK} {Nx : Hp → Prop} {τ : L2.St}
    (RS : RelS g ⟨[], []⟩ F (wipe2 e vs) M (wipe σ vs) H) (ts : TgSim g tg gt) (ow : TgOwn tg gt vs) (r : Rep g F H x v) (hn : F[n]? = some ad)
    (q : post g rD W.w F τ H ((pairM tg tt mk mv (wipe2 e vs) x M).bind fun o M1 => match layP n o M1 with | some M2 => k M2 | none => .bad) Q)
    (f : ∀ M1 F1 H1, Grow F H F1 H1 → RelM g F1 M1 H1 → post g rD W.w F1 τ H1 (k M1) Q → Nx H1) :
    gt v (wipe σ vs) H fun σ2 H2 => wipe σ2 vs = wipe σ vs ∧ tB2 g W0 tt σ2 H2 fun b H3 => if b = true then tD g W0 mk σ2 H3 fun y H4 => tD g W0 mv σ2 H4 fun z H5 => PPut g.K H5 ad y z Nx else Nx H3 := by
  unfold pairM at q
  cases ht : tg x (wipe2 e vs) with
  | none => rw [ht] at q; exact q.elim
  | some e1 =>
    rw [ht] at q
    refine ow v σ H _ (ts F M _ e1 _ H x v _ RS.m RS.e r ht fun σ2 E2 => ?_)
    have R0 : RelS g ⟨[], []⟩ F e1 M σ2 H := ⟨RS.m, E2, pin_nil, xrs_nil⟩
    refine ⟨F, e1, M, R0, ?_⟩
    dsimp only at q
    cases hb : tt e1 M with
    | ok b M1 =>
      rw [hb] at q
      intro F1 H1 b' g1 R1 eb
      cases eb
      dsimp only [Res.bind, noX] at q
      cases b with
      | false => exact f M1 F1 H1 g1 R1 (q.up g1)
      | true =>
        refine ⟨F1, e1, M1, R0.up g1 R1, ?_⟩
        rw [if_pos rfl] at q
        cases hm : mk e1 M1 with
        | ok y M2 =>
          rw [hm] at q
          intro F2 H2 u g2 R2 ru
          dsimp only [Res.bind, noX] at q
          refine ⟨F2, e1, M2, (R0.up g1 R1).up g2 R2, ?_⟩
          cases hm3 : mv e1 M2 with
          | ok z M3 =>
            rw [hm3] at q
            intro F3 H3 w g3 R3 rw'
            dsimp only [Res.bind, noX] at q
            have g123 := (g1.trans g2).trans g3
            have hn3 : F3[n]? = some ad := pre_get g123.pre hn
            cases hl : layP n (some (y, z)) M3 with
            | none => rw [hl] at q; exact q.elim
            | some M4 =>
              rw [hl] at q
              obtain ⟨_, e4, p⟩ := sim_setP F3 M3 M4 H3 (.ref n) y z _ u w Nx R3 (.ref hn3) (ru.mono g3 R2.good) rw' hl fun H4 g4 R4 => f M4 F3 H4 (g123.trans g4) R4 (q.up (g123.trans g4))
              cases e4
              exact p
          | _ => rw [hm3] at q; exact q.elim
        | _ => rw [hm] at q; exact q.elim
    | _ => rw [hb] at q; exact q.elim
theorem eDcP_imp {it : Env2 → MH → Res IV} {wi : TI} {tg : TgM} {gt : TG} {vs : List Nat} (hsim : ItSim g W it wi) (ts : TgSim g tg gt) (ow : TgOwn tg gt vs) {σ : L2.St} {H : Hp} {Q : VK} (q : tD g W (eDcP it tg tt mk mv vs) σ H Q) : tDcP g.K wi gt (tB2 g W0 tt) (tD g W0 mk) (tD g W0 mv) vs σ H Q := by
  obtain ⟨F, e, M, RS, q⟩ := q
  refine hsim σ H F e M _ RS ?_
  unfold eDcP at q
  cases hi : it e M with
  | bad => rw [hi] at q; exact q
  | exc c ns ds M1 => rw [hi] at q; exact q
  | ok iv M1 =>
    rw [hi] at q
    cases iv with
    | live sr => exact q.elim
    | vals ds =>
      intro F1 H1 J g1 R1 itv ad had
      obtain ⟨g2, R2⟩ := R1.laid (m := .dp [] []) (o := .ext (RowsAt ad [])) had fun F' H' gr => .dp (xs := []) (vs := []) rfl (fun y hy => nomatch hy) .nil .nil
      have RS2 : RelS g W.p (F1 ++ [ad]) e (M1 ++ [.dp [] []]) σ (upd H1 ad (.ext (RowsAt ad []))) := (RS.up g1 R1).up g2 R2
      have hn0 : (F1 ++ [ad])[M1.length]? = some ad := by rw [← R1.len]; simp
      refine ⟨fun i k H' => i + k = ds.length ∧ ∃ F' M', Grow (F1 ++ [ad]) (upd H1 ad (.ext (RowsAt ad []))) F' H' ∧ RelM g F' M' H' ∧ post g rD W.w F' σ H' (dcVP tg tt mk mv (wipe2 e vs) M1.length (ds.drop i) M') Q, ⟨ds.length, by simp, F1 ++ [ad], M1 ++ [.dp [] []], .same, R2, by simpa using q.up (g1.trans g2)⟩, ?_⟩
      rintro i k H3 ⟨hk, F3, M3, g3, R3, q3⟩
      have hn3 : F3[M1.length]? = some ad := pre_get g3.pre hn0
      by_cases hlt : i < ds.length
      · refine .inr ⟨itv.go F3 H3 i (g2.trans g3) hlt, fun H' => ∃ F' M', Grow (F1 ++ [ad]) (upd H1 ad (.ext (RowsAt ad []))) F' H' ∧ RelM g F' M' H' ∧ post g rD W.w F' σ H' (dcVP tg tt mk mv (wipe2 e vs) M1.length (ds.drop (i + 1)) M') Q, fun H' z => ⟨k - 1, by omega, by omega, z⟩, fun x H4 hy => ?_⟩
        obtain ⟨hk4, d, hd, rd⟩ := itv.yld F3 H3 i x H4 (g2.trans g3) hlt hy
        obtain ⟨gk, Rk⟩ := R3.keep hk4
        have q4 := q3.up gk
        rw [drop_cons' hd] at q4
        unfold dcVP at q4
        exact pairM_run ⟨Rk, wipe_rep (RS2.up (g3.trans gk) Rk).e vs, pin_nil, xrs_nil⟩ ts ow rd hn3 q4 fun M5 F5 H5 g5 R5 q5 => ⟨F5, M5, (g3.trans gk).trans g5, R5, q5⟩
      · have hge : ds.length ≤ i := Nat.le_of_not_lt hlt
        rw [List.drop_eq_nil_of_le hge] at q3
        exact .inl ⟨itv.stop F3 H3 i (g2.trans g3) hge, q3.here R3 (.ref hn3)⟩
variable {kx vx tgE iter : Expr} {ifs : List Expr} {scope : Scope} {own : List (Str × Nat)} {f tv : Addr}
theorem de_dcRows {pf pc : Pos} {tg : TgM} {gt : TG} (hK : g.K = X.K) (hu : X.A.units + 8 < cLine) (T : GP.ArIs X.K X.mg f tv) (hr : Room 1 X.A) (hN : X.N.Nodup) (ok : BlkOk X.N X.env.scope scope own) (ts : TgSim g tg gt) (ow : TgOwn tg gt (own.map (·.2)))
    (hg : ∀ (s : Shared) (H : Hp) (C : Addr) (cl : List (Str × Addr)) (fp : List Addr), PG (X.blk s H scope (compEnvC scope cl C X.env) fp) tgE gt) (ht : ∀ (s : Shared) (H : Hp) (C : Addr) (cl : List (Str × Addr)) (fp : List Addr), PTs (X.blk s H scope (compEnvC scope cl C X.env) fp) ifs (tB2 g W0 tt))
    (hk : ∀ (s : Shared) (H : Hp) (C : Addr) (cl : List (Str × Addr)) (fp : List Addr), PE (X.blk s H scope (compEnvC scope cl C X.env) fp) kx (tD g W0 mk))
    (he : ∀ (s : Shared) (H : Hp) (C : Addr) (cl : List (Str × Addr)) (fp : List Addr), PE (X.blk s H scope (compEnvC scope cl C X.env) fp) vx (tD g W0 mv)) (hgl : Gl X "all_rows" := by rfl) (hc : X.calm = true := by rfl) (hs : ∀ x, foldedSetIterable (.Call (.Name "all_rows" pf) [] [] pc) X.env x = pure x := by intro _; rfl) :
    PE X (.DictComp kx vx [⟨tgE, (.Call (.Name "all_rows" pf) [] [] pc), ifs, 0⟩] scope pos) (tD g W (eDcP iRows tg tt mk mv (own.map (·.2)))) := pe_imp (pe_dcRows hu T hr hgl hc hN ok hg ht hk he hs) fun σ H Q q => hK ▸ eDcP_imp itSim_rows ts ow q
end
end T2
namespace T2
open PySem PySem.Spec PyProof.Rows L2
/-! ### list(d), d keyed by tuples -/
section
variable {X : Cx}
theorem refs_vals : ∀ xs : List (NK × Addr × Value), Vals (xs.map fun x => V.ref x.2.1) (xs.map fun x => Value.ref x.2.1)
  | [] => .nil
  | x :: xs => .cons rfl (refs_vals xs)
theorem call_listP (hcalm : X.calm = true) : CallR X (.type "list") (fun ys H Q => ∃ (a : Addr) (xs : List (NK × Addr × Value)) (vs : List V), ys = [.ref a] ∧ RD X.K H a xs vs ∧ ∀ p, H p = none → Q (.ref p) (upd H p (.lst (xs.map fun x => V.ref x.2.1)))) := by
  rintro pins s σ H _ us Q I r ⟨a, xs, vs, rfl, D, q⟩
  obtain ⟨u, rfl, rx⟩ := vals1 r
  cases rx
  obtain ⟨z, far, _, o, es, ep, ho, hx, hd, he, _⟩ := D.rows I
  have len : es.size = xs.length := by rw [← Array.length_toList, he, List.length_map]
  refine PySem.W.kdl_call (KdlSrc.rawDict far) (I.ok.hd hcalm) ⟨o, ho, hx, hd⟩ (by rw [len]; exact z) fun h' tk acc c' keep new items => ?_
  have told : acc.toList = xs.map fun x => Value.ref x.2.1 := by
    refine List.ext_getElem? fun j => ?_
    rw [Array.getElem?_toList, List.getElem?_map]
    by_cases hj : j < xs.length
    · obtain ⟨v, hv⟩ : ∃ v, acc[j]? = some v := ⟨acc[j]'(by rw [items.1, len]; exact hj), Array.getElem?_eq_getElem _⟩
      obtain ⟨hi, e⟩ := items.2 j v hv
      rw [hv, e, List.getElem?_eq_getElem hj]
      have k := congrArg (·[j]?) he
      simp only [Array.getElem?_toList, List.getElem?_map, Array.getElem?_eq_getElem hi, List.getElem?_eq_getElem hj, Option.map_some] at k
      rw [Option.some.inj k]
      rfl
    · rw [Array.getElem?_eq_none (by rw [items.1, len]; omega), List.getElem?_eq_none (Nat.le_of_not_lt hj)]
      rfl
  exact ⟨.ref s.heap.objs.size, _, I.laid (t' := tk) keep (Nat.le_refl _) (o := .lst (xs.map fun x => V.ref x.2.1)) ⟨by rwa [List.length_map], acc.toList, c', by rw [told]; exact refs_vals xs, by rw [Array.toArray_toList]; exact new⟩, rfl, q _ (I.hok.fresh (Nat.le_refl _))⟩
variable {g : Wd} {W : WY} {a : Expr} {es : List Expr} {ma : AM} {pos p : Pos}
def dListP (mk : List D → MH → Res D) (ds : List D) (M : MH) : Res D := match ds with
  | [.ref n] => (match pOf M n with
    | some (ks, _) => mk (ks.map keyV) M
    | none => .bad)
  | _ => .bad
theorem keys_reps {F : List Addr} {H : Hp} : ∀ {xs : List (NK × Addr × Value)}, (∀ x ∈ xs, NKey g.K H x.1 (.ref x.2.1)) → Reps g F H ((xs.map (·.1)).map keyV) (xs.map fun x => V.ref x.2.1)
  | [], _ => .nil
  | x :: xs, h => .cons (keyV_rep (h x List.mem_cons_self)) (keys_reps fun y hy => h y (List.mem_cons_of_mem _ hy))
theorem sim_listP {mk : List D → MH → Res D} (hmk : MkOk g mk) : SimA g (dListP mk) (fun ys H Q => ∃ (a : Addr) (xs : List (NK × Addr × Value)) (vs : List V), ys = [.ref a] ∧ RD g.K H a xs vs ∧ ∀ p, H p = none → Q (.ref p) (upd H p (.lst (xs.map fun x => V.ref x.2.1)))) := fun F M σ H W ds vs Q R r q => by
  unfold dListP at q
  split at q
  · rename_i n
    cases r with | cons rx rr =>
    cases rr
    cases rx with | ref hn =>
    split at q
    · rename_i ks ds hm
      obtain ⟨xs, ws, D, rfl, _⟩ := p_at R hn hm
      exact ⟨_, xs, ws, rfl, D, fun p hp => hmk W F M H σ Q _ _ p R (keys_reps D.kt) q hp⟩
    · exact q.elim
  · exact q.elim
theorem de_listP {mk : List D → MH → Res D} (hK : g.K = X.K) (hmk : MkOk g mk) (ha : PA X (a :: es) (tA g W ma)) (hm : X.mg "list" = none) (hc : X.calm = true := by rfl) (hg : Gl X "list" := by rfl) (he : starEach (a :: es) X.env = (false, eval a X.env) :: starEach es X.env := by rfl) (hpl : (backTo pos (starEach es X.env)).any (·.1) = false := by rfl) :
    PE X (.Call (.Name "list" p) (a :: es) [] pos) (tD g W (eArgs (dListP mk) ma)) := de_callT (call_listP hc) (by rw [← hK]; exact sim_listP hmk) hm (by decide +kernel) ha hg (by decide) (by decide) he hpl
end
/-! ### d.get(k, x), d a dict of ints and texts, k perhaps None -/
/-- a dict of ints and texts has nothing under None -/
theorem none_map {P : Program} {w : World} {h : Heap} {d : Addr} {kvs : List (Key × Value)} (D : h.DictOf (mixKind P w) d kvs) : ∃ f, h.MapOf (leafKind P w) d f ∧ f .none = none := by
  obtain ⟨o, es, ep, ho, hx, hd, keys, _⟩ := D
  refine ⟨findBy (leafKind P w).is es, ⟨o, es, ep, ho, hx, hd, fun e he => ?_, fun _ => rfl⟩, ?_⟩
  · obtain ⟨k, hk, hh⟩ := keys e he
    rcases keyIs_shape hk with ⟨i, t, rfl, ek⟩ | ⟨x, t, rfl, ek⟩
    · exact ⟨.num i, by rw [ek]; exact decide_eq_true rfl, hh⟩
    · exact ⟨.text x, by rw [ek]; exact keyIs_str x t, hh⟩
  · unfold findBy
    rw [Option.map_eq_none_iff, Array.find?_eq_none]
    intro e he
    obtain ⟨k, hk, _⟩ := keys e he
    rcases keyIs_shape hk with ⟨i, t, _, ek⟩ | ⟨x, t, _, ek⟩ <;> rw [ek] <;> exact Bool.false_ne_true
def rGetN : Addr → List V → Hp → VK → Prop := fun a vs H Q => ∃ y z o, vs = [y, z] ∧ (DGet H a y o ∨ (y = .non ∧ o = none ∧ ∃ kvs, Rd H a (.dK kvs))) ∧ Q (o.getD z) H
def tDmK (R : Addr → List V → Hp → VK → Prop) (td : TE) (ta : TA) : TE := fun σ H Q => td σ H fun x H1 => ∃ a, x = .ref a ∧ IsD H1 a ∧ ta σ H1 fun vs H2 => R a vs H2 Q
section
variable {X : Cx} {o i f : Expr} {pos apos cpos : Pos} {td : TE} {ta : TA} {es : List Expr}
theorem dm_getN (hu : X.A.units + 1 < cLine) : DmR X "dict.get" rGetN := by
  rintro pins s σ H a _ us Q I rs ⟨y, z, o, rfl, hg, q⟩
  cases rs with | cons r1 rs =>
  cases rs with | cons r2 rs =>
  cases rs
  rcases hg with hg | ⟨rfl, rfl, kvs, hd⟩
  · exact d_get2 hu I hg r1 r2 fun w' s' J rw' => ⟨_, H, J, rw', q⟩
  · cases (show _ = Value.none from r1)
    obtain ⟨_, far, vs, _, D⟩ := dk_rd I.hok hd
    obtain ⟨f, m, e⟩ := none_map D
    refine call_meetsIn PySem.F.slot_dict_get D.typeIs PySem.F.entry_dict_get (PySem.F.args_dict_get_3 _ _ _) (meets_dict_get_default (leafKind X.prog X.w) a (k := .none) rfl far _) ⟨f, m, ?_⟩
    rw [e]
    exact ⟨_, H, I.tok _, r2, q⟩
theorem pe_dmK {id : String} {mt : Str} {R : Addr → List V → Hp → VK → Prop} (op : DmR X id R) (slot : Slot "dict" mt id) (ty : typeOf (.builtin id) = pure (.type "method_descriptor")) (ho : PE X o td) (ha : PA X es ta) (m : MM X o mt apos es cpos) (n : backTo cpos (starEach es X.env) ≠ []) :
    PE X (.Call (.Attribute o mt apos) es [] cpos) (tDmK R td ta) := by
  refine ⟨fun pins s σ H Q I h => wpAny_Call_method m.base m.few m.line PySem.F.plainAttrs_dict slot ty (thn (ho.run pins s σ H _ I h) fun v s1 z => ?_)⟩
  obtain ⟨_, H1, J, rv, a, rfl, d, q⟩ := z
  cases (show v = Value.ref a from rv)
  have ⟨t1, t2, _⟩ := isD_at J d
  exact ⟨t1, t2, Calls.callWith_builtin m.plain (args_run n m.plain (thn (ha.run cpos pins s1 σ H1 _ J q) fun us s2 ⟨ws, H2, J2, rs, w⟩ => op pins s2 σ H2 a ws us Q J2 rs w))⟩
variable {g : Wd} {W : WY} {m1 m2 m3 : EM}
def eDGetN (mo mk mx : EM) : EM := fun e M => (mo e M).bind fun x M1 => match x with
  | .ref n => (match M1[n]? with
    | some (.dk _ _) => (mk e M1).bind fun y M2 => (mx e M2).bind fun z M3 => match M3[n]? with
      | some (.dk ks ds) => (match y with
        | .non => .ok z M3
        | _ => (match keyOf y with
          | some k => .ok ((kGet ks ds k).getD z) M3
          | none => .bad))
      | _ => .bad
    | _ => .bad)
  | _ => .bad
theorem de_dgetN (hu : X.A.units + 1 < cLine) (ho : PE X o (tD g W m1)) (hk : PE X i (tD g W m2)) (hf : PE X f (tD g W m3)) (m : MM X o "get" apos [i, f] cpos := by exact ⟨rfl, rfl, rfl, rfl⟩) (n : backTo cpos (starEach [i, f] X.env) ≠ [] := by exact List.cons_ne_nil _ _)
    (s1 : starEach [i, f] X.env = (false, eval i X.env) :: starEach [f] X.env := by rfl) (s2 : starEach [f] X.env = (false, eval f X.env) :: starEach [] X.env := by rfl) :
    PE X (.Call (.Attribute o "get" apos) [i, f] [] cpos) (tD g W (eDGetN m1 m2 m3)) :=
  pe_imp (pe_dmK (dm_getN hu) PySem.F.slot_dict_get PySem.F.type_dict_get ho (pa_cons hk (pa_cons hf pa_nil s2) s1) m n) fun σ H Q ⟨F, e, M, RS, q⟩ => ⟨F, e, M, RS, q.bind fun x M1 F1 H1 v e1 g1 R1 rx q1 => by
    split at q1
    · rename_i nn
      cases rx with | ref hn =>
      split at q1
      · rename_i ks0 ds0 h0
        obtain ⟨vs0, hv0, _, _⟩ := dk_at R1 hn h0
        refine ⟨_, rfl, .inl ⟨_, .inl hv0⟩, F1, e, M1, RS.up g1 R1, q1.bind fun y M2 F2 H2 u e2 g2 R2 ry q2 => ⟨F2, e, M2, (RS.up g1 R1).up g2 R2, q2.bind fun z M3 F3 H3 w e3 g3 R3 rz q3 => ?_⟩⟩
        have hn3 := pre_get g3.pre (pre_get g2.pre hn)
        split at q3
        · rename_i ks ds h3
          obtain ⟨vs, hv, hl, rs⟩ := dk_at R3 hn3 h3
          split at q3
          · cases ry
            exact ⟨_, _, none, rfl, .inr ⟨rfl, rfl, _, .inl hv⟩, q3.here R3 rz⟩
          · split at q3
            · rename_i k hk'
              have ey := key_rep ry hk'
              subst ey
              exact ⟨_, _, _, rfl, .inl (.inl ⟨_, k, .inl hv, rfl, rfl⟩), q3.here R3 (kGet_opt rs rz)⟩
            · exact q3.elim
        · exact q3.elim
      · exact q1.elim
    · exact q1.elim⟩
end
/-! ### d.items() as what a comprehension walks -/
def iItemsK (m : EM) : Env2 → MH → Res IV := fun e M => (m e M).bind fun x M1 => match x with
  | .ref n => (match M1[n]? with
    | some (.lk ks ds) => .ok (.vals (itemsD ks ds)) M1
    | _ => .bad)
  | _ => .bad
theorem itSim_itemsK {g : Wd} {W : WY} {m : EM} : ItSim g W (iItemsK m) (iItems (tD g W m)) := fun σ H F e M R RS q => ⟨F, e, M, RS, by
  unfold iItemsK at q
  cases hm : m e M with
  | bad => rw [hm] at q; exact q.elim
  | exc c ns ds M1 => rw [hm] at q; exact q
  | ok x M1 =>
    rw [hm] at q
    intro F1 H1 v g1 R1 rx
    dsimp only [Res.bind] at q
    cases x with
    | ref n =>
      cases rx with | ref hn =>
      cases hM : M1[n]? with
      | none => simp only [hM] at q
      | some z =>
        simp only [hM] at q
        cases z with
        | lk ks ds =>
          obtain ⟨o, vs, hd, hl, r⟩ := lk_at R1 hn hM
          exact ⟨_, o, _, rfl, hd, q F1 H1 _ g1 R1 (itV_items R1 hd hl r)⟩
        | _ => exact q.elim
    | _ => exact q.elim⟩
end T2
namespace T2
open PySem L2
/-! ### a statement under the lock of a dict keyed by tuples -/
def unlkSP (n : Nat) (r : SR) : SR := match r with
  | .nx e M => (match M[n]? with
    | some (.lp ks ds) => .nx e (M.set n (.dp ks ds))
    | _ => .bad)
  | .rt d M => (match M[n]? with
    | some (.lp ks ds) => .rt d (M.set n (.dp ks ds))
    | _ => .bad)
  | _ => .bad
def sLockP (nf : Env2 → MH → Option Nat) (s : SM) : SM := fun e M => match nf e M with
  | some n => (match M[n]? with
    | some (.dp ks ds) => unlkSP n (s e (M.set n (.lp ks ds)))
    | _ => .bad)
  | none => .bad
section
variable {X : Cx} {g : Wd} {W : WY} {st : Stmt} {s : SM} {nf : Env2 → MH → Option Nat}
/-- the lock is taken away again -/
theorem unlock_lp {F F3 : List Addr} {H H3 : Hp} {M2 : MH} {n : Nat} {d a' : Addr} {od : Obj} {xs : List (NK × Addr × Value)} {ks : List NK} {ds : List D} (hn : F[n]? = some d) (hH : H d = some (.ext (RowsAt a' xs)))
    (g3 : Grow F (upd H d (.frz od (.ext (RowsAt a' xs)))) F3 H3) (R3 : RelM g F3 M2 H3) (h2 : M2[n]? = some (.lp ks ds)) :
    H3 d = some (.frz od (.ext (RowsAt a' xs))) ∧ Grow F H F3 (upd H3 d (.ext (RowsAt a' xs))) ∧ RelM g F3 (M2.set n (.dp ks ds)) (upd H3 d (.ext (RowsAt a' xs))) ∧ (∀ b o, H3 b = some o → b ∉ F3 → upd H3 d (.ext (RowsAt a' xs)) b = some o) := by
  have hn3 := pre_get g3.pre hn
  have h3 : H3 d = some (.frz od (.ext (RowsAt a' xs))) := g3.lock d _ upd_same (by intro z; exact z)
  obtain ⟨o', a2, xs2, h4, r'⟩ := lp_at R3 hn3 h2
  have e4 := Option.some.inj (h3.symm.trans h4)
  injection e4 with _ e5
  exact ⟨h3, g3.unlock (List.mem_of_getElem? hn) hH trivial, R3.unlock hn3 (by rw [e5]; exact r'), kp_upd (List.mem_of_getElem? hn3)⟩
theorem ds_lockP (h : PS X st (tS g W s)) : PS X st (tS g W (sLockP nf s)) :=
  ps_imp (ps_lock h) fun E σ H ⟨F, e, M, RS, q⟩ => by
    unfold sLockP at q
    split at q
    · rename_i n hnf
      split at q
      · rename_i ks ds hm
        have hlt : n < F.length := by rw [RS.m.len]; exact (List.getElem?_eq_some_iff.mp hm).1
        obtain ⟨d, hn⟩ : ∃ d, F[n]? = some d := ⟨_, List.getElem?_eq_getElem hlt⟩
        obtain ⟨a', xs, vs, hH, DD, rfl, r⟩ := dp_at RS.m hn hm
        refine ⟨d, .ext (RowsAt a' xs), hH, trivial, fun od => ?_⟩
        obtain ⟨g1, R1⟩ := RS.m.put (o := .frz od (.ext (RowsAt a' xs))) (m := .lp (xs.map (·.1)) ds) hn trivial (fun H' gr => .lp rfl (fun y hy => (DD.kt y hy).mono fun _ _ h => sqT_mono gr RS.m.good h) DD.vl (r.mono gr RS.m.good)) (by rw [hH]; trivial)
        refine ⟨F, e, M.set n (.lp (xs.map (·.1)) ds), RS.up g1 R1, ?_⟩
        cases hr : s e (M.set n (.lp (xs.map (·.1)) ds)) with
        | nx e2 M2 =>
          rw [hr] at q
          unfold unlkSP at q
          dsimp only at q
          split at q
          · rename_i ks' ds' h2
            intro F3 H3 σ3 g3 R3 E3 X3
            obtain ⟨k1, k2, k3, k4⟩ := unlock_lp hn hH g3 R3 h2
            exact ⟨k1, q F3 _ σ3 k2 k3 (E3.mono0 k4 R3.good) X3⟩
          · exact q.elim
        | rt d2 M2 =>
          rw [hr] at q
          unfold unlkSP at q
          dsimp only at q
          split at q
          · rename_i ks' ds' h2
            intro F3 H3 v3 g3 R3 r3
            obtain ⟨k1, k2, k3, k4⟩ := unlock_lp hn hH g3 R3 h2
            exact ⟨k1, q F3 _ v3 k2 k3 (r3.mono0 k4 R3.good)⟩
          · exact q.elim
        | _ => rw [hr] at q; exact q.elim
      · exact q.elim
    · exact q.elim
end
end T2
namespace T2
open PySem L2
theorem hu8b {A : Around} {k : Nat} (hr : Room k A) : A.units + 8 < cLine := by have := hr.un; omega
end T2
namespace T2
open PySem PySem.Spec PyProof.Rows GP GenW L2
/-! ### name = {..: .. for ..} on one line -/
section
variable {X : Cx} {i : Nat} {y : Str} {py pos spos : Pos} {kx vx tg iter : Expr} {ifs : List Expr} {scope : Scope} {own : List (Str × Nat)} {wi : TI} {gt : TG} {tt : TT} {tk tv t : TE}
theorem sw_trueD {gs : List Comprehension} {l : Nat} {env : Env} (hk : env.scope.kind = .function) (hy : env.scope.names.lookup y = some .local) (hl : (py.line == pos.line) = true)
    (ha : (scope.names.any fun (n, k) => n == y && (k == .local || k == .cell)) = false) : swapsWith (.DictComp kx vx gs scope pos) (some (.Name y py)) l env = pure true := by
  have kind : env.blockKind = .function := by unfold Env.blockKind; rw [hk]; rfl
  have loc : env.kindOf y = some .local := hy
  show (pure (env.blockKind == .function && env.kindOf y == some .local && py.line == pos.line && !(scope.names.any fun (n, k) => n == y && (k == .local || k == .cell))) : Sem Bool) = pure true
  rw [kind, loc, hl, ha]
  rfl
/-- what a comprehension's core says -/
def CoreOk (X : Cx) (t : TE) (c : Option (Value → Sem Unit) → Sem Value) : Prop := ∀ (pins : List (Addr × Obj)) (s : Shared) (σ : L2.St) (H : Hp) (Q : VK) (use : Option (Value → Sem Unit)) (Qf : Value → Shared → Prop), Inv X pins σ H s → t σ H Q →
  (∀ D C s' m H', Inv X pins σ H' s' → Q (.ref D) H' → s'.heap.Ns C m → FpOk X pins H' C → compPost (model X.prog X.w) X.A X.xe use Qf (.ref D) C (.ok .next) s') → wpAny (model X.prog X.w) X.A (c use) Qf X.xe s
theorem ps_setUsed {e : Expr} {c : Option (Value → Sem Unit) → Sem Value} (core : CoreOk X t c) (hN : X.N.Nodup) (hy : X.N[i]? = some y) (hyl : X.env.scope.names.lookup y = some .local)
    (hsw : swapsWith e (some (.Name y py)) spos.line X.env = pure true) (used : ∀ use, evalThenUse e X.env use = (do let _ ← c (some use))) : PS X (.Assign [.Name y py] e spos) (tAsg t (gName i)) := by
  refine ⟨fun pins s σ H D I h => ?_⟩
  rw [exec_Assign_Name_used _ _ _ _ hsw, used]
  refine wpAny_bind (wpAny_standAt (wpAny_bind (wpAny_bind ?_)))
  refine thn (core pins s σ H (fun x H1 => gName i x σ H1 D.nx) (some (assign (.Name y py) X.env)) (fun _ s' => SP X pins D .next s') I h fun L C s' m H' J q hn f => ?_) fun _ s' hq => wpAny_pure (wpAny_pure hq)
  show wpAny _ _ (assign (.Name y py) X.env (.ref L)) _ _ _
  obtain ⟨f0, f1, _, f3, f4, f5⟩ := f
  refine wpAny_assign_Name (store_ok2 (v := V.ref L) J hN hy (.inl hyl) rfl (fun s2 J2 ⟨a, sb, ha⟩ => ⟨m, hn.sameBut sb ?_, fun h3 sb3 => ⟨_, H', J2.turned (t' := s2.toks) (fun b o hb => (sb3.2 b hb).trans) f0 f1 f3 f4 f5, q⟩⟩) (.inr hyl))
  exact ha.elim (fun z => z ▸ f1) fun z e => f4 y a z e.symm
end
section
variable {X : Cx} {g : Wd} {W : WY} {i : Nat} {y : Str} {py pos spos pf pc : Pos} {mk mv : EM} {tt : BM} {kx vx tgE iter : Expr} {ifs : List Expr} {scope : Scope} {own : List (Str × Nat)} {f tv : Addr} {tg : TgM} {gt : TG} {it : Env2 → MH → Res IV} {wi : TI}
theorem set_res {m : EM} {t : TE} (hpin : ∀ p ∈ W.p.xs, i ≠ p.1) (im : ∀ σ H Q, tD g W m σ H Q → t σ H Q) {E : Ends} {σ : L2.St} {H : Hp} (q : tS g W (sSet i m) E σ H) : tAsg t (gName i) E σ H := by
  obtain ⟨F, e, M, RS, q⟩ := q
  exact im σ H _ ⟨F, e, M, RS, q.step RS fun d M1 F1 H1 v _ g1 R1 r q1 => q1 F1 H1 _ .same R1 ((RS.up g1 R1).e.set r i) (RS.x.set hpin)⟩
theorem ds_setDcP (hK : g.K = X.K) (hu : X.A.units + 8 < cLine) (hpin : ∀ p ∈ W.p.xs, i ≠ p.1) (hN : X.N.Nodup) (hi : PI X tgE iter wi) (hsim : ItSim g W it wi) (ok : BlkOk X.N X.env.scope scope own) (ts : TgSim g tg gt) (ow : TgOwn tg gt (own.map (·.2)))
    (hg : ∀ (s : Shared) (H : Hp) (C : Addr) (cl : List (Str × Addr)) (fp : List Addr), PG (X.blk s H scope (compEnvC scope cl C X.env) fp) tgE gt) (ht : ∀ (s : Shared) (H : Hp) (C : Addr) (cl : List (Str × Addr)) (fp : List Addr), PTs (X.blk s H scope (compEnvC scope cl C X.env) fp) ifs (tB2 g W0 tt))
    (hk : ∀ (s : Shared) (H : Hp) (C : Addr) (cl : List (Str × Addr)) (fp : List Addr), PE (X.blk s H scope (compEnvC scope cl C X.env) fp) kx (tD g W0 mk))
    (he : ∀ (s : Shared) (H : Hp) (C : Addr) (cl : List (Str × Addr)) (fp : List Addr), PE (X.blk s H scope (compEnvC scope cl C X.env) fp) vx (tD g W0 mv)) (hsw : swapsWith (.DictComp kx vx [⟨tgE, iter, ifs, 0⟩] scope pos) (some (.Name y py)) spos.line X.env = pure true)
    (hy : X.N[i]? = some y := by rfl) (hyl : X.env.scope.names.lookup y = some .local := by rfl) (hc : X.calm = true := by rfl) (hs : ∀ x, foldedSetIterable iter X.env x = pure x := by intro _; rfl) :
    PS X (.Assign [.Name y py] (.DictComp kx vx [⟨tgE, iter, ifs, 0⟩] scope pos) spos) (tS g W (sSet i (eDcP it tg tt mk mv (own.map (·.2))))) :=
  ps_imp (ps_setUsed (fun pins s σ H Q use Qf I h r => dcp_walk hu hi hc hN I ok hg ht hk he hs h r) hN hy hyl hsw fun use => rfl) fun E σ H q => set_res hpin (fun _ _ _ q => hK ▸ eDcP_imp hsim ts ow q) q
end
end T2
namespace T2
open PySem L2
/-! ### rows as keys -/
def Vl.n : Vl → NK
  | none => .none
  | some c => .num c.i
def Rw.k (r : Rw) : NK := .tup [Vl.n r.x, Vl.n r.y, Vl.n r.z]
theorem Rw.key (r : Rw) : keyP r.d = some r.k := by
  obtain ⟨x, y, z⟩ := r
  rcases x with _ | _ | _ | _ <;> rcases y with _ | _ | _ | _ <;> rcases z with _ | _ | _ | _ <;> kernel_rfl
theorem Rw.kv (r : Rw) : keyV r.k = r.d := by
  obtain ⟨x, y, z⟩ := r
  rcases x with _ | _ | _ | _ <;> rcases y with _ | _ | _ | _ <;> rcases z with _ | _ | _ | _ <;> kernel_rfl
theorem Rw.k_inj {a b : Rw} (h : a.k = b.k) : a = b := Rw.d_inj (by rw [← a.kv, ← b.kv, h])
theorem keys_rows (xs : List Rw) : (xs.map Rw.k).map keyV = xs.map Rw.d := by
  rw [List.map_map]
  exact List.map_congr_left fun r _ => r.kv
theorem rowsR_nd : rowsR.Nodup := by decide +kernel
theorem get_map {α κ A : Type} [DecidableEq κ] {key : α → κ} {val : α → A} (inj : ∀ a b, key a = key b → a = b) : ∀ {xs : List α} {a : α}, a ∈ xs → kGet (xs.map key) (xs.map val) (key a) = some (val a)
  | x :: xs, a, h => by
    rw [List.map_cons, List.map_cons]
    unfold kGet
    rw [List.zip_cons_cons, List.find?_cons]
    by_cases e : key x = key a
    · rw [decide_eq_true e, inj _ _ e]; rfl
    · rw [decide_eq_false e]
      exact get_map inj ((List.mem_cons.mp h).resolve_left fun z => e (by rw [z]))
theorem get_none {α κ A : Type} [DecidableEq κ] {key : α → κ} {val : α → A} {k : κ} : ∀ {xs : List α}, k ∉ xs.map key → kGet (xs.map key) (xs.map val) k = none
  | [], _ => rfl
  | x :: xs, h => by
    rw [List.map_cons] at h
    rw [List.map_cons, List.map_cons]
    unfold kGet
    rw [List.zip_cons_cons, List.find?_cons, decide_eq_false fun e : key x = k => h (e ▸ List.mem_cons_self)]
    exact get_none fun z => h (List.mem_cons_of_mem _ z)
theorem ixP_row {M : MH} {p : Nat} {xs : List Rw} {f : Rw → D} {r : Rw} (hp : pOf M p = some (xs.map Rw.k, xs.map f)) (h : r ∈ xs) : dIxP (.ref p) r.d M = .ok (f r) M := by
  unfold dIxP
  dsimp only
  rw [hp, Rw.key]
  dsimp only
  rw [get_map (fun a b => Rw.k_inj) h]
theorem inP_row {M : MH} {p : Nat} {xs : List Rw} {f : Rw → D} {r : Rw} (hp : pOf M p = some (xs.map Rw.k, xs.map f)) : dInP r.d (.ref p) M = .ok (.bl (decide (r ∈ xs))) M := by
  unfold dInP inP
  dsimp only
  rw [hp, Rw.key]
  dsimp only
  by_cases h : r ∈ xs
  · rw [get_map (fun a b => Rw.k_inj) h, decide_eq_true h]; rfl
  · rw [get_none (fun z => h (let ⟨q, hq, e⟩ := List.mem_map.mp z; Rw.k_inj e ▸ hq)), decide_eq_false h]; rfl
theorem pOf_dp {M : MH} {p : Nat} {ks : List NK} {ds : List D} (h : M[p]? = some (.dp ks ds)) : pOf M p = some (ks, ds) := by unfold pOf; rw [h]
theorem pOf_lp {M : MH} {p : Nat} {ks : List NK} {ds : List D} (h : M[p]? = some (.lp ks ds)) : pOf M p = some (ks, ds) := by unfold pOf; rw [h]
namespace St
section
variable {e e1 : Env2} {M M1 M2 M3 : MH}
theorem pair {tg : TgM} {tt : BM} {mk mv : EM} {x y z : D} {b : Bool} (ht : tg x e = some e1) (h1 : tt e1 M = .ok b M) (h2 : b = true → mk e1 M = .ok y M) (h3 : b = true → mv e1 M = .ok z M) : pairM tg tt mk mv e x M = .ok (if b = true then some (y, z) else none) M := by
  unfold pairM
  rw [ht]
  dsimp only
  rw [h1]
  cases b
  · rfl
  · show (noX (mk e1 M)).bind _ = _
    rw [h2 rfl]
    show (noX (mv e1 M)).bind _ = _
    rw [h3 rfl]
    rfl
theorem layP_new {ks : List NK} {ds : List D} {y z : D} {k : NK} (hk : keyP y = some k) (hn : k ∉ ks) (hl : ds.length ≤ 1000) : layP M.length (some (y, z)) (M ++ [.dp ks ds]) = some (M ++ [.dp (ks ++ [k]) (ds ++ [z])]) := by
  unfold layP dSetP
  dsimp only
  have e : (M ++ [MO.dp ks ds])[M.length]? = some (.dp ks ds) := by simp
  rw [e, hk]
  dsimp only
  rw [if_pos hl]
  unfold kPutD
  rw [if_neg hn]
  simp
theorem dcp_all {α : Type} {tg : TgM} {tt : BM} {mk mv : EM} {f y z : α → D} {key : α → NK} {p : α → Bool} (hk : ∀ a, keyP (y a) = some (key a)) : ∀ (xs acc : List α), (∀ a ∈ xs, ∀ M', pairM tg tt mk mv e (f a) M' = .ok (if p a = true then some (y a, z a) else none) M') →
    ((acc ++ xs).map key).Nodup → (acc ++ xs).length ≤ 1000 → dcVP tg tt mk mv e M.length (xs.map f) (M ++ [.dp (acc.map key) (acc.map z)]) = .ok (.ref M.length) (M ++ [.dp ((acc ++ xs.filter p).map key) ((acc ++ xs.filter p).map z)])
  | [], acc, _, _, _ => by rw [List.filter_nil, List.append_nil]; rfl
  | x :: xs, acc, h, nd, hl => by
    rw [List.map_cons]
    unfold dcVP
    rw [h x List.mem_cons_self]
    have hx : ∀ a ∈ xs, ∀ M', pairM tg tt mk mv e (f a) M' = .ok (if p a = true then some (y a, z a) else none) M' := fun a ha => h a (List.mem_cons_of_mem _ ha)
    by_cases hp : p x = true
    · rw [if_pos hp, List.filter_cons, if_pos hp]
      show (match layP M.length (some (y x, z x)) (M ++ [.dp (acc.map key) (acc.map z)]) with
        | some M2 => dcVP tg tt mk mv e M.length (xs.map f) M2
        | none => .bad) = _
      have nx : key x ∉ acc.map key := fun z => by
        rw [List.map_append, List.nodup_append] at nd
        exact nd.2.2 _ z _ (List.mem_map.mpr ⟨x, List.mem_cons_self, rfl⟩) rfl
      rw [layP_new (hk x) nx (by rw [List.length_map]; rw [List.length_append] at hl; omega)]
      dsimp only
      have q := dcp_all (z := z) hk xs (acc ++ [x]) hx (by rwa [List.append_assoc]) (by rwa [List.append_assoc])
      rw [List.map_append, List.map_append] at q
      rw [show acc ++ x :: xs.filter p = acc ++ [x] ++ xs.filter p by rw [List.append_assoc]; rfl]
      exact q
    · rw [if_neg hp, List.filter_cons, if_neg hp]
      show dcVP tg tt mk mv e M.length (xs.map f) (M ++ [.dp (acc.map key) (acc.map z)]) = _
      refine dcp_all hk xs acc hx (nd.sublist ?_) (Nat.le_trans ?_ hl)
      · exact (List.Sublist.append_left (List.sublist_cons_self _ _) _).map _
      · simp
/-- a dict of tuples, made by a comprehension -/
theorem dcp {α : Type} {it : Env2 → MH → Res IV} {tg : TgM} {tt : BM} {mk mv : EM} {vs : List Nat} {M0 : MH} {f y z : α → D} {key : α → NK} {p : α → Bool} {xs : List α} (hi : it e M0 = .ok (.vals (xs.map f)) M) (hk : ∀ a, keyP (y a) = some (key a))
    (h : ∀ a ∈ xs, ∀ M', pairM tg tt mk mv (wipe2 e vs) (f a) M' = .ok (if p a = true then some (y a, z a) else none) M') (nd : (xs.map key).Nodup) (hl : xs.length ≤ 1000) :
    eDcP it tg tt mk mv vs e M0 = .ok (.ref M.length) (M ++ [.dp ((xs.filter p).map key) ((xs.filter p).map z)]) := by
  unfold eDcP
  rw [hi]
  exact dcp_all (M := M) (z := z) hk xs [] h nd hl
theorem lockSP {s : SM} {p : Nat} {nf : Env2 → MH → Option Nat} {ks ks' : List NK} {ds ds' : List D} (h1 : nf e M = some p) (h2 : M[p]? = some (.dp ks ds)) (h3 : s e (M.set p (.lp ks ds)) = .nx e1 M2) (h4 : M2[p]? = some (.lp ks' ds')) : sLockP nf s e M = .nx e1 (M2.set p (.dp ks' ds')) := by
  unfold sLockP
  rw [h1]
  dsimp only
  rw [h2]
  dsimp only
  rw [h3]
  unfold unlkSP
  dsimp only
  rw [h4]
theorem listP {ma : AM} {p : Nat} {ks : List NK} {ds : List D} {mk : List D → MH → Res D} {r : Res D} (h : ma e M = .ok [.ref p] M1) (hp : pOf M1 p = some (ks, ds)) (hr : mk (ks.map keyV) M1 = r) : eArgs (dListP mk) ma e M = r := args h (by
  unfold dListP
  dsimp only
  rw [hp]
  exact hr)
/-- a walk of a dict of tuples that may be walked already -/
theorem forQ_lp {i p : Nat} {tg : TgM} {b : SM} {ks : List NK} {ds : List D} {r : SR} (h : e[i]? = some (some (.ref p))) (hp : M[p]? = some (.lp ks ds)) (hr : forV tg b (ks.map keyV) e M = r) : sForQ i tg b e M = r := by
  unfold sForQ
  rw [h]
  dsimp only
  rw [hp]
  exact hr
theorem forQ_dp {i p : Nat} {tg : TgM} {b : SM} {ks : List NK} {ds : List D} {r : SR} (h : e[i]? = some (some (.ref p))) (hp : M[p]? = some (.dp ks ds)) (hr : unlkP p (forV tg b (ks.map keyV) e (M.set p (.lp ks ds))) = r) : sForQ i tg b e M = r := by
  unfold sForQ sForP
  rw [h]
  dsimp only
  rw [hp]
  exact hr
theorem getN {mo mk mx : EM} {n : Nat} {ks0 ks : List Key} {ds0 ds : List D} {z : D} (h1 : mo e M = .ok (.ref n) M1) (h2 : M1[n]? = some (.dk ks0 ds0)) (h3 : mk e M1 = .ok .non M2) (h4 : mx e M2 = .ok z M3) (h5 : M3[n]? = some (.dk ks ds)) : eDGetN mo mk mx e M = .ok z M3 := by
  unfold eDGetN
  rw [h1]
  show (match M1[n]? with
    | some (.dk _ _) => _
    | _ => _) = _
  rw [h2]
  dsimp only
  rw [h3]
  dsimp only [Res.bind]
  rw [h4]
  dsimp only [Res.bind]
  rw [h5]
theorem getI {mo mk mx : EM} {n : Nat} {ks0 ks : List Key} {ds0 ds : List D} {z : D} {i : Int} (h1 : mo e M = .ok (.ref n) M1) (h2 : M1[n]? = some (.dk ks0 ds0)) (h3 : mk e M1 = .ok (.int i) M2) (h4 : mx e M2 = .ok z M3) (h5 : M3[n]? = some (.dk ks ds)) : eDGetN mo mk mx e M = .ok ((kGet ks ds (.inl i)).getD z) M3 := by
  unfold eDGetN
  rw [h1]
  show (match M1[n]? with
    | some (.dk _ _) => _
    | _ => _) = _
  rw [h2]
  dsimp only
  rw [h3]
  dsimp only [Res.bind]
  rw [h4]
  dsimp only [Res.bind]
  rw [h5]
  rfl
end
end St
end T2
namespace T2
open PySem L2
namespace St
section
variable {e e1 : Env2} {M M1 M2 M3 : MH}
theorem eand {a b : EM} {x y : Bool} (h1 : a e M = .ok (.bl x) M1) (h2 : x = true → b e M1 = .ok (.bl y) M1) : eAnd a b e M = .ok (.bl (x && y)) M1 := by
  rw [z_eand, h1]
  cases x
  · rfl
  · exact h2 rfl
theorem eor {a b : EM} {x y : Bool} (h1 : a e M = .ok (.bl x) M1) (h2 : x = false → b e M1 = .ok (.bl y) M1) : eOr a b e M = .ok (.bl (x || y)) M1 := by
  rw [z_eor, h1]
  cases x
  · exact h2 rfl
  · rfl
theorem enot {a : EM} {x : Bool} (h1 : a e M = .ok (.bl x) M1) : eNot a e M = .ok (.bl (!x)) M1 := by rw [z_enot, h1, z_enot_ok]
theorem bor2 {c d : BM} {b1 b2 : Bool} (h1 : c e M = .ok b1 M1) (h2 : b1 = false → d e M1 = .ok b2 M1) : bOr c d e M = .ok (b1 || b2) M1 := by
  cases b1
  · exact borF h1 (h2 rfl)
  · exact borT h1
theorem band2 {c d : BM} {b1 b2 : Bool} (h1 : c e M = .ok b1 M1) (h2 : b1 = true → d e M1 = .ok b2 M1) : bAnd c d e M = .ok (b1 && b2) M1 := by
  cases b1
  · exact bandF h1
  · exact bandT h1 (h2 rfl)
end
end St
theorem bl_ne {a b : Bool} {M : MH} : dNe (.bl a) (.bl b) M = .ok (.bl (a != b)) M := by cases a <;> cases b <;> kernel_rfl
theorem vl_ne {a b : Vl} {M : MH} : dNe (Vl.d a) (Vl.d b) M = .ok (.bl (decide (a ≠ b))) M := by
  rcases a with _ | _ | _ | _ <;> rcases b with _ | _ | _ | _ <;> kernel_rfl
end T2
namespace K13
open PySem L2 T2
def top (i : Nat) : Stmt := PySem.Challenge.pw_bookstogether_k13_whole_arbiter_gaps.main.body.getD i (.Pass ⟨0, 0, 0, 0⟩)
abbrev s_law_box : Stmt := top 23
theorem sc_law_box : FnScope ["_law_script"] ["_law_script"] (defScope s_law_box) := ⟨rfl, rfl, rfl, by decide +kernel, rfl, by decide +kernel, by decide +kernel⟩
abbrev s_law_draw : Stmt := top 24
theorem sc_law_draw : FnScope ["_law_box_here", "_law_size", "_law_drawn", "_law_mixed"] ["_law_box_here", "_law_size"] (defScope s_law_draw) := ⟨rfl, rfl, rfl, by decide +kernel, rfl, by decide +kernel, by decide +kernel⟩
abbrev s_law_names : Stmt := top 25
theorem sc_law_names : FnScope ["_law_box_here", "_law_many", "_law_letters", "_law_names_here", "_law_k", "_law_stem", "_law_j", "_law_free", "_law_sign"] ["_law_box_here", "_law_many"] (defScope s_law_names) := ⟨rfl, rfl, rfl, by decide +kernel, rfl, by decide +kernel, by decide +kernel⟩
abbrev s_law_condition : Stmt := top 27
theorem sc_law_condition : FnScope ["_law_box_here", "_law_levels", "_law_errs", "_law_word", "_law_column"] ["_law_box_here", "_law_levels", "_law_errs"] (defScope s_law_condition) := ⟨rfl, rfl, rfl, by decide +kernel, rfl, by decide +kernel, by decide +kernel⟩
abbrev s_law_atom : Stmt := top 28
theorem sc_law_atom : FnScope ["_law_column", "_law_known"] ["_law_column", "_law_known"] (defScope s_law_atom) := ⟨rfl, rfl, rfl, by decide +kernel, rfl, by decide +kernel, by decide +kernel⟩
abbrev s_law_only : Stmt := top 29
theorem sc_law_only : FnScope ["_law_row_here"] ["_law_row_here"] (defScope s_law_only) := ⟨rfl, rfl, rfl, by decide +kernel, rfl, by decide +kernel, by decide +kernel⟩
abbrev s_law_row : Stmt := top 26
theorem sc_law_row : FnScope ["_law_box_here", "_law_row_here", "_law_k"] ["_law_box_here"] (defScope s_law_row) := ⟨rfl, rfl, rfl, by decide +kernel, rfl, by decide +kernel, by decide +kernel⟩
abbrev s_law_index_condition : Stmt := top 34
theorem sc_law_index_condition : FnScope ["_law_box_here", "_law_rule", "_law_kind", "_law_drawn"] ["_law_box_here", "_law_rule"] (defScope s_law_index_condition) := ⟨rfl, rfl, rfl, by decide +kernel, rfl, by decide +kernel, by decide +kernel⟩
abbrev s_law_every : Stmt := top 32
theorem sc_law_every : FnScope ["_law_rows", "_law_first", "_law_second", "_law_third"] [] (defScope s_law_every) := ⟨rfl, rfl, rfl, by decide +kernel, rfl, by decide +kernel, by decide +kernel⟩
abbrev s_law_truth : Stmt := top 30
theorem sc_law_truth : FnScope ["_law_condition_here", "_law_row_here", "_law_word", "_law_part", "_law_stop", "_law_left", "_law_right", "_law_cell", "_law_lower"] ["_law_condition_here", "_law_row_here"] (defScope s_law_truth) := ⟨rfl, rfl, rfl, by decide +kernel, rfl, by decide +kernel, by decide +kernel⟩
abbrev s_law_group : Stmt := top 31
theorem sc_law_group : FnScope ["_law_rule", "_law_row_here"] ["_law_rule", "_law_row_here"] (defScope s_law_group) := ⟨rfl, rfl, rfl, by decide +kernel, rfl, by decide +kernel, by decide +kernel⟩
abbrev s_law_found : Stmt := top 35
theorem sc_law_found : FnScope ["_law_groups", "_law_places", "_law_again", "_law_row_here", "_law_other"] ["_law_groups", "_law_places", "_law_again", "_law_row_here", "_law_other"] (defScope s_law_found) := ⟨rfl, rfl, rfl, by decide +kernel, rfl, by decide +kernel, by decide +kernel⟩
abbrev s_law_gap : Stmt := top 36
theorem sc_law_gap : FnScope ["_law_groups", "_law_places", "_law_held", "_law_again", "_law_row_here", "_law_other", "_law_near"] ["_law_groups", "_law_places", "_law_held", "_law_again"] (defScope s_law_gap) := ⟨rfl, rfl, rfl, by decide +kernel, rfl, by decide +kernel, by decide +kernel⟩
abbrev s_law_alike : Stmt := top 33
theorem sc_law_alike : FnScope ["_law_actual", "_law_due", "_law_k"] ["_law_actual", "_law_due"] (defScope s_law_alike) := ⟨rfl, rfl, rfl, by decide +kernel, rfl, by decide +kernel, by decide +kernel⟩
abbrev s_Truth___init__ : Stmt := inClass (top 10) 1
theorem sc_Truth___init__ : FnScope ["self", "rank"] ["self", "rank"] (defScope s_Truth___init__) := ⟨rfl, rfl, rfl, by decide +kernel, rfl, by decide +kernel, by decide +kernel⟩
abbrev s_Truth___invert__ : Stmt := inClass (top 10) 9
theorem sc_Truth___invert__ : FnScope ["self"] ["self"] (defScope s_Truth___invert__) := ⟨rfl, rfl, rfl, by decide +kernel, rfl, by decide +kernel, by decide +kernel⟩
abbrev s_Truth___and__ : Stmt := inClass (top 10) 6
theorem sc_Truth___and__ : FnScope ["self", "other"] ["self", "other"] (defScope s_Truth___and__) := ⟨rfl, rfl, rfl, by decide +kernel, rfl, by decide +kernel, by decide +kernel⟩
abbrev s_Truth___or__ : Stmt := inClass (top 10) 7
theorem sc_Truth___or__ : FnScope ["self", "other"] ["self", "other"] (defScope s_Truth___or__) := ⟨rfl, rfl, rfl, by decide +kernel, rfl, by decide +kernel, by decide +kernel⟩
abbrev s_joined : Stmt := top 13
theorem sc_joined : FnScope ["condition", "row", "left"] ["condition", "row"] (defScope s_joined) := ⟨rfl, rfl, rfl, by decide +kernel, rfl, by decide +kernel, by decide +kernel⟩
abbrev s_ZeroDivisor___init__ : Stmt := inClass (top 4) 0
theorem sc_ZeroDivisor___init__ : ScopeS ["self"] ["self"] (defScope s_ZeroDivisor___init__) := ⟨rfl, rfl, rfl, by decide +kernel, rfl, by decide +kernel, by decide +kernel, rfl, rfl, by decide +kernel⟩
def xv_ZeroDivisor : List D → List D := fun ds => [.tup [(.str "refused"), (.str "zero")]]
abbrev s_Truth_of : Stmt := inClass (top 10) 2
theorem sc_Truth_of : FnScope ["value"] ["value"] (defScope s_Truth_of) := ⟨rfl, rfl, rfl, by decide +kernel, rfl, by decide +kernel, by decide +kernel⟩
abbrev s_quotient : Stmt := top 14
theorem sc_quotient : FnScope ["condition", "row", "value", "divisor"] ["condition", "row"] (defScope s_quotient) := ⟨rfl, rfl, rfl, by decide +kernel, rfl, by decide +kernel, by decide +kernel⟩
abbrev s_truth : Stmt := top 15
theorem sc_truth : FnScope ["condition", "row", "word", "value"] ["condition", "row"] (defScope s_truth) := ⟨rfl, rfl, rfl, by decide +kernel, rfl, by decide +kernel, by decide +kernel⟩
abbrev s_group : Stmt := top 17
theorem sc_group : FnScope ["rule", "row", "value"] ["rule", "row"] (defScope s_group) := ⟨rfl, rfl, rfl, by decide +kernel, rfl, by decide +kernel, by decide +kernel⟩
abbrev s_groups_of : Stmt := top 19
theorem sc_groups_of : FnScope ["rule", "row"] ["rule"] (defScope s_groups_of) := ⟨rfl, rfl, rfl, by decide +kernel, rfl, by decide +kernel, by decide +kernel⟩
abbrev s_arbiter_gap : Stmt := top 20
theorem sc_arbiter_gap : FnScope ["rule", "column", "condition", "again", "groups", "held", "row", "other", "due", "near"] ["rule", "column", "condition", "again"] (defScope s_arbiter_gap) := ⟨rfl, rfl, rfl, by decide +kernel, rfl, by decide +kernel, by decide +kernel⟩
abbrev s_law_bounds : Stmt := top 37
theorem sc_law_bounds : FnScope ["_law_groups", "_law_places", "_law_again", "_law_least", "_law_most", "_law_owners", "_law_row_here", "_law_other", "_law_own", "_law_wrong"] ["_law_groups", "_law_places", "_law_again"] (defScope s_law_bounds) := ⟨rfl, rfl, rfl, by decide +kernel, rfl, by decide +kernel, by decide +kernel⟩
abbrev s_arbiter_bounds : Stmt := top 21
theorem sc_arbiter_bounds : FnScope ["rule", "column", "again", "groups", "least", "row", "places", "own", "owners", "place"] ["rule", "column", "again"] (defScope s_arbiter_bounds) := ⟨rfl, rfl, rfl, by decide +kernel, rfl, by decide +kernel, by decide +kernel⟩
abbrev s_law : Stmt := top 38
theorem sc_law : FnScope ["_law_script", "_law_box_here", "_law_names_here", "_law_rule", "_law_column", "_law_again", "_law_condition_here", "_law_every_here", "_law_groups", "_law_row_here", "_law_places", "_law_held", "_law_gap_here", "_law_due", "_law_bounds_here", "_law_told", "_law_k", "_law_out"] ["_law_script"] (defScope s_law) := ⟨rfl, rfl, rfl, by decide +kernel, rfl, by decide +kernel, by decide +kernel⟩
abbrev s_all_rows : Stmt := top 7
def c_JOINTS : D := .tup [(.str "not"), (.str "and"), (.str "or")]
def isiTab : IsiTab := bltTab ++ [((.inr 8, .inr 8), true)]
def isi : Tg → Tg → Option Bool := isiOf isiTab
structure Txt (P : Program) (w : World) (K : PySem.W.Frag) (mg : Str → Option Value) (ad : Nat → Addr) (fd : Nat → FuncData) : Prop where
  g30 : mg "_law_box" = some (.ref (ad 30))
  g32 : mg "_law_names" = some (.ref (ad 32))
  g31 : mg "_law_draw" = some (.ref (ad 31))
  g34 : mg "_law_condition" = some (.ref (ad 34))
  g41 : mg "_law_index_condition" = some (.ref (ad 41))
  g39 : mg "_law_every" = some (.ref (ad 39))
  g38 : mg "_law_group" = some (.ref (ad 38))
  g37 : mg "_law_truth" = some (.ref (ad 37))
  g43 : mg "_law_gap" = some (.ref (ad 43))
  g40 : mg "_law_alike" = some (.ref (ad 40))
  g28 : mg "arbiter_gap" = some (.ref (ad 28))
  g44 : mg "_law_bounds" = some (.ref (ad 44))
  g29 : mg "arbiter_bounds" = some (.ref (ad 29))
  g27 : mg "groups_of" = some (.ref (ad 27))
  g26 : mg "group" = some (.ref (ad 26))
  g25 : mg "truth" = some (.ref (ad 25))
  g8 : mg "Truth" = some (.ref (ad 8))
  g22 : mg "JOINTS" = some (.ref (ad 22))
  g23 : mg "joined" = some (.ref (ad 23))
  g24 : mg "quotient" = some (.ref (ad 24))
  g3 : mg "ZeroDivisor" = some (.ref (ad 3))
  g42 : mg "_law_found" = some (.ref (ad 42))
  g36 : mg "_law_only" = some (.ref (ad 36))
  g33 : mg "_law_row" = some (.ref (ad 33))
  g35 : mg "_law_atom" = some (.ref (ad 35))
  F30 : Fun K "_law_box" "_law_box" s_law_box (ad 30) (fd 30)
  b30 : Binds K (fd 30) ["_law_script"] []
  F31 : Fun K "_law_draw" "_law_draw" s_law_draw (ad 31) (fd 31)
  b31 : Binds K (fd 31) ["_law_box_here", "_law_size"] []
  F32 : Fun K "_law_names" "_law_names" s_law_names (ad 32) (fd 32)
  b32 : Binds K (fd 32) ["_law_box_here", "_law_many"] []
  F34 : Fun K "_law_condition" "_law_condition" s_law_condition (ad 34) (fd 34)
  b34 : Binds K (fd 34) ["_law_box_here", "_law_levels", "_law_errs"] []
  F35 : Fun K "_law_atom" "_law_atom" s_law_atom (ad 35) (fd 35)
  b35 : Binds K (fd 35) ["_law_column", "_law_known"] []
  F36 : Fun K "_law_only" "_law_only" s_law_only (ad 36) (fd 36)
  b36 : Binds K (fd 36) ["_law_row_here"] []
  F33 : Fun K "_law_row" "_law_row" s_law_row (ad 33) (fd 33)
  b33 : Binds K (fd 33) ["_law_box_here"] []
  F41 : Fun K "_law_index_condition" "_law_index_condition" s_law_index_condition (ad 41) (fd 41)
  b41 : Binds K (fd 41) ["_law_box_here", "_law_rule"] []
  F39 : Fun K "_law_every" "_law_every" s_law_every (ad 39) (fd 39)
  b39 : Binds K (fd 39) [] []
  F37 : Fun K "_law_truth" "_law_truth" s_law_truth (ad 37) (fd 37)
  b37 : Binds K (fd 37) ["_law_condition_here", "_law_row_here"] []
  F38 : Fun K "_law_group" "_law_group" s_law_group (ad 38) (fd 38)
  b38 : Binds K (fd 38) ["_law_rule", "_law_row_here"] []
  F42 : Fun K "_law_found" "_law_found" s_law_found (ad 42) (fd 42)
  b42 : Binds K (fd 42) ["_law_groups", "_law_places", "_law_again", "_law_row_here", "_law_other"] []
  F43 : Fun K "_law_gap" "_law_gap" s_law_gap (ad 43) (fd 43)
  b43 : Binds K (fd 43) ["_law_groups", "_law_places", "_law_held", "_law_again"] []
  F40 : Fun K "_law_alike" "_law_alike" s_law_alike (ad 40) (fd 40)
  b40 : Binds K (fd 40) ["_law_actual", "_law_due"] []
  F9 : Fun K "__init__" "Truth.__init__" s_Truth___init__ (ad 9) (fd 9)
  b9 : Binds K (fd 9) ["self", "rank"] []
  F17 : Fun K "__invert__" "Truth.__invert__" s_Truth___invert__ (ad 17) (fd 17)
  b17 : Binds K (fd 17) ["self"] []
  F14 : Fun K "__and__" "Truth.__and__" s_Truth___and__ (ad 14) (fd 14)
  b14 : Binds K (fd 14) ["self", "other"] []
  F15 : Fun K "__or__" "Truth.__or__" s_Truth___or__ (ad 15) (fd 15)
  b15 : Binds K (fd 15) ["self", "other"] []
  F23 : Fun K "joined" "joined" s_joined (ad 23) (fd 23)
  b23 : Binds K (fd 23) ["condition", "row"] []
  O4 : OIn P K mg (ad 3) "__init__" "ZeroDivisor.__init__" s_ZeroDivisor___init__ (ad 4) (fd 4)
  b4 : Binds K (fd 4) ["self"] []
  ox3 : OexC K (ad 3)
  oi3 : PySem.W.findIn K (.ref (ad 3)) "__init__" = some (some (.ref (ad 4)))
  ot3 : PySem.W.typeIn K (.ref (ad 4)) = some (.type "function")
  ofl3_told : PySem.W.findIn K (.ref (ad 3)) "told" = some none
  F10 : Fun K "of" "Truth.of" s_Truth_of (ad 10) (fd 10)
  b10 : Binds K (fd 10) ["value"] []
  F24 : Fun K "quotient" "quotient" s_quotient (ad 24) (fd 24)
  b24 : Binds K (fd 24) ["condition", "row"] []
  F25 : Fun K "truth" "truth" s_truth (ad 25) (fd 25)
  b25 : Binds K (fd 25) ["condition", "row"] []
  F26 : Fun K "group" "group" s_group (ad 26) (fd 26)
  b26 : Binds K (fd 26) ["rule", "row"] []
  F27 : Fun K "groups_of" "groups_of" s_groups_of (ad 27) (fd 27)
  b27 : Binds K (fd 27) ["rule"] []
  F28 : Fun K "arbiter_gap" "arbiter_gap" s_arbiter_gap (ad 28) (fd 28)
  b28 : Binds K (fd 28) ["rule", "column", "condition", "again"] []
  F44 : Fun K "_law_bounds" "_law_bounds" s_law_bounds (ad 44) (fd 44)
  b44 : Binds K (fd 44) ["_law_groups", "_law_places", "_law_again"] []
  F29 : Fun K "arbiter_bounds" "arbiter_bounds" s_arbiter_bounds (ad 29) (fd 29)
  b29 : Binds K (fd 29) ["rule", "column", "again"] []
  F45 : Fun K "law" "law" s_law (ad 45) (fd 45)
  b45 : Binds K (fd 45) ["_law_script"] []
  n_range : mg "range" = none
  n_isinstance : mg "isinstance" = none
  isi : IsiOk ⟨K, ad⟩ isi
  n_bool : mg "bool" = none
  n_int : mg "int" = none
  n_str : mg "str" = none
  n_tuple : mg "tuple" = none
  n_len : mg "len" = none
  n_list : mg "list" = none
  ar : GP.ArIs K mg (ad 6) (ad 5)
  cf_rank : ClsF K ad [8] "rank"
  mk8 : Mk K (ad 8) (ad 9)
  om17 : PySem.W.findIn K (.ref (ad 8)) "__invert__" = some (some (.ref (ad 17)))
  of17 : PySem.W.isFn K (.ref (ad 17)) = true
  sf8 : PySem.W.selfFirst K (ad 8) = true
  r22 : ∀ F H, Rep ⟨K, ad⟩ F H c_JOINTS (.ref (ad 22))
  sm10 : ∃ q, SMet K (ad 8) "of" q (ad 10)
  om14 : PySem.W.findIn K (.ref (ad 8)) (PySem.dunder Operator.BitAnd.info.2) = some (some (.ref (ad 14)))
  of14 : PySem.W.isFn K (.ref (ad 14)) = true
  om15 : PySem.W.findIn K (.ref (ad 8)) (PySem.dunder Operator.BitOr.info.2) = some (some (.ref (ad 15)))
  of15 : PySem.W.isFn K (.ref (ad 15)) = true
  n_abs : mg "abs" = none
end K13
namespace K13
open PySem L2 T2
noncomputable section
section
variable {P : Program} {w : World} {K : PySem.W.Frag} {mg : Str → Option Value} {base : Heap} {ad : Nat → Addr} {fd : Nat → FuncData}
def b_law_box : SM :=
    sRet (eLst (eCons (eArgs dListF (eCons (eVar 0) (eNil))) (eCons (eC (.int 0)) (eCons (eC (.int 0)) (eCons (eC (.int 0)) (eCons (eC (.int 0)) (eNil)))))))
def m_law_box : List D → MH → Res D := fnB 1 b_law_box
theorem ok_law_box (T : Txt P w K mg ad fd) : FnOk P w K mg base (L2N.CX P w) 3 (ad 30) (fd 30) ["_law_script"] (spD ⟨K, ad⟩ 1 m_law_box) := by
  refine fn_ok2 T.F30 sc_law_box fun cdv A outer s H E hr tk po => ?_
  have hu := hr.units
  have hu1 := hu_of hr
  exact ds_one (ds_ret (de_lst (de_cons (de_listF (de_cons (de_v 0) (de_nil)) (hK := rfl) (hm := T.n_list)) (de_cons (de_int) (de_cons (de_int) (de_cons (de_int) (de_cons (de_int) (de_nil))))))))
end
section
variable {P : Program} {w : World} {K : PySem.W.Frag} {mg : Str → Option Value} {base : Heap} {ad : Nat → Addr} {fd : Nat → FuncData}
def b_law_draw : SM :=
    sSeq (sIf (bVal (eBin dEq (eBin dIxA (eVar 0) (eC (.int 3))) (eC (.int 0))))
    (sSeq (sIf (bVal (eBin dGe (eBin dIxA (eVar 0) (eC (.int 1))) (eArgs dLen (eCons (eBin dIxA (eVar 0) (eC (.int 0))) (eNil)))))
    (sRet (eC (.int 0)))
    (sNil))
    (sSeq (sSetIx dSetIx (eVar 0) (eC (.int 2)) (eArgs dAbs (eCons (eArgs dInt (eCons (eBin dIxA (eBin dIxA (eVar 0) (eC (.int 0))) (eBin dIxA (eVar 0) (eC (.int 1)))) (eNil))) (eNil))))
    (sSeq (sSetIx dSetIx (eVar 0) (eC (.int 1)) (eBin dAdd (eBin dIxA (eVar 0) (eC (.int 1))) (eC (.int 1))))
    (sSeq (sSetIx dSetIx (eVar 0) (eC (.int 4)) (eArgs dInt (eCons (eBin dGe (eBin dIxA (eVar 0) (eC (.int 2))) (eBin dPow (eC (.int 10)) (eC (.int 18)))) (eNil))))
    (sSetIx dSetIx (eVar 0) (eC (.int 3)) (eBin dAdd (eC (.int 12)) (eBin dMul (eC (.int 48)) (eBin dIxA (eVar 0) (eC (.int 4))))))))))
    (sNil))
    (sSeq (sSetIx dSetIx (eVar 0) (eC (.int 3)) (eBin dSub (eBin dIxA (eVar 0) (eC (.int 3))) (eC (.int 1))))
    (sSeq (sIf (bVal (eBin dEq (eBin dIxA (eVar 0) (eC (.int 4))) (eC (.int 1))))
    (sSeq (sSet 2 (eBin dMod (eArgs dInt (eCons (eBin dIxA (eVar 0) (eC (.int 2))) (eNil))) (eVar 1)))
    (sSeq (sSetIx dSetIx (eVar 0) (eC (.int 2)) (eBin dDiv (eArgs dInt (eCons (eBin dIxA (eVar 0) (eC (.int 2))) (eNil))) (eVar 1)))
    (sSeq (sIf (bVal (eBin dEq (eBin dIxA (eVar 0) (eC (.int 2))) (eC (.int 0))))
    (sSetIx dSetIx (eVar 0) (eC (.int 3)) (eC (.int 0)))
    (sNil))
    (sRet (eVar 2)))))
    (sNil))
    (sSeq (sSet 3 (eBin dMod (eArgs dInt (eCons (eBin dAdd (eBin dAdd (eBin dMul (eArgs dInt (eCons (eBin dIxA (eVar 0) (eC (.int 2))) (eNil))) (eC (.int 48271))) (eBin dMul (eBin dIxA (eVar 0) (eC (.int 3))) (eC (.int 69621)))) (eC (.int 13))) (eNil))) (eC (.int 2147483647))))
    (sSeq (sSet 3 (eBin dMod (eArgs dInt (eCons (eBin dAdd (eBin dAdd (eBin dMul (eVar 3) (eC (.int 16807))) (eBin dMul (eBin dIxA (eVar 0) (eC (.int 3))) (eC (.int 40692)))) (eC (.int 7))) (eNil))) (eC (.int 2147483629))))
    (sRet (eBin dMod (eArgs dInt (eCons (eVar 3) (eNil))) (eVar 1)))))))
def m_law_draw : List D → MH → Res D := fnB 4 b_law_draw
theorem ok_law_draw (T : Txt P w K mg ad fd) : FnOk P w K mg base (L2N.CX P w) 3 (ad 31) (fd 31) ["_law_box_here", "_law_size"] (spD ⟨K, ad⟩ 2 m_law_draw) := by
  refine fn_ok2 T.F31 sc_law_draw fun cdv A outer s H E hr tk po => ?_
  have hu := hr.units
  have hu1 := hu_of hr
  exact ds_cons (ds_if (dt_eq rfl hu (de_ixA rfl hu1 (de_v 0) (de_int)) (de_int))
    (ds_cons (ds_if (dt_ge (de_ixA rfl hu1 (de_v 0) (de_int)) (de_len (de_cons (de_ixA rfl hu1 (de_v 0) (de_int)) (de_nil)) (hK := rfl) (hm := T.n_len)))
    (ds_one (ds_ret (de_int)))
    (ds_nil))
    (ds_cons (ds_setL (de_v 0) (de_int) (de_abs (de_cons (de_intc (de_cons (de_ixA rfl hu1 (de_ixA rfl hu1 (de_v 0) (de_int)) (de_ixA rfl hu1 (de_v 0) (de_int))) (de_nil)) (hm := T.n_int)) (de_nil)) (hm := T.n_abs)))
    (ds_cons (ds_setL (de_v 0) (de_int) (de_add rfl (de_ixA rfl hu1 (de_v 0) (de_int)) (de_int)))
    (ds_cons (ds_setL (de_v 0) (de_int) (de_intc (de_cons (de_ge (de_ixA rfl hu1 (de_v 0) (de_int)) (de_pow (de_int) (de_int))) (de_nil)) (hm := T.n_int)))
    (ds_one (ds_setL (de_v 0) (de_int) (de_add rfl (de_int) (de_mul (de_int) (de_ixA rfl hu1 (de_v 0) (de_int))))))))))
    (ds_nil))
    (ds_cons (ds_setL (de_v 0) (de_int) (de_sub (de_ixA rfl hu1 (de_v 0) (de_int)) (de_int)))
    (ds_cons (ds_if (dt_eq rfl hu (de_ixA rfl hu1 (de_v 0) (de_int)) (de_int))
    (ds_cons (ds_set (i := 2) sc_law_draw.nd (de_mod (de_intc (de_cons (de_ixA rfl hu1 (de_v 0) (de_int)) (de_nil)) (hm := T.n_int)) (de_v 1)))
    (ds_cons (ds_setL (de_v 0) (de_int) (de_div (de_intc (de_cons (de_ixA rfl hu1 (de_v 0) (de_int)) (de_nil)) (hm := T.n_int)) (de_v 1)))
    (ds_cons (ds_if (dt_eq rfl hu (de_ixA rfl hu1 (de_v 0) (de_int)) (de_int))
    (ds_one (ds_setL (de_v 0) (de_int) (de_int)))
    (ds_nil))
    (ds_one (ds_ret (de_v 2))))))
    (ds_nil))
    (ds_cons (ds_set (i := 3) sc_law_draw.nd (de_mod (de_intc (de_cons (de_add rfl (de_add rfl (de_mul (de_intc (de_cons (de_ixA rfl hu1 (de_v 0) (de_int)) (de_nil)) (hm := T.n_int)) (de_int)) (de_mul (de_ixA rfl hu1 (de_v 0) (de_int)) (de_int))) (de_int)) (de_nil)) (hm := T.n_int)) (de_int)))
    (ds_cons (ds_set (i := 3) sc_law_draw.nd (de_mod (de_intc (de_cons (de_add rfl (de_add rfl (de_mul (de_v 3) (de_int)) (de_mul (de_ixA rfl hu1 (de_v 0) (de_int)) (de_int))) (de_int)) (de_nil)) (hm := T.n_int)) (de_int)))
    (ds_one (ds_ret (de_mod (de_intc (de_cons (de_v 3) (de_nil)) (hm := T.n_int)) (de_v 1))))))))
end
section
variable {P : Program} {w : World} {K : PySem.W.Frag} {mg : Str → Option Value} {base : Heap} {ad : Nat → Addr} {fd : Nat → FuncData}
def lp_law_names_1 : SM :=
    sSet 5 (eBin dAdd (eVar 5) (eBin dIxA (eVar 2) (eCall 2 m_law_draw (eCons (eVar 0) (eCons (eC (.int 26)) (eNil))))))
def lp_law_names_2 : SM :=
    sSeq (sSet 5 (eC (.str "")))
    (sSeq (sForI (iRange1 (eCall 2 m_law_draw (eCons (eVar 0) (eCons (eC (.int 8)) (eNil))))) (tgName 6) lp_law_names_1)
    (sSeq (sSet 7 (eLc (iStrD (eVar 2)) (tgName 8) (bVal (eBin dNotInA (eBin dAdd (eVar 5) (eVar 8)) (eBin (dCat mkF) (eVar 3) (eFro (eCons (eC (.str "on")) (eCons (eC (.str "set")) (eCons (eC (.str "new")) (eNil)))))))) (eVar 8) [8]))
    (sDo (eApp (eVar 3) (eBin dAdd (eVar 5) (eBin dIxA (eVar 7) (eCall 2 m_law_draw (eCons (eVar 0) (eCons (eArgs dLen (eCons (eVar 7) (eNil))) (eNil))))))))))
def b_law_names : SM :=
    sSeq (sSet 2 (eC (.str "abcdefghijklmnopqrstuvwxyz")))
    (sSeq (sSet 3 (eLst (eNil)))
    (sSeq (sForI (iRange1 (eVar 1)) (tgName 4) lp_law_names_2)
    (sRet (eVar 3))))
def m_law_names : List D → MH → Res D := frzB (fnB 9 b_law_names)
theorem ok_law_names (T : Txt P w K mg ad fd) : FnOk P w K mg base (L2N.CX P w) 6 (ad 32) (fd 32) ["_law_box_here", "_law_many"] (spD ⟨K, ad⟩ 2 m_law_names) := by
  refine fn_frz ?_
  refine fn_ok2 T.F32 sc_law_names fun cdv A outer s H E hr tk po => ?_
  have hu := hr.units
  have hu1 := hu_of hr
  exact ds_cons (ds_set (i := 2) sc_law_names.nd (de_str))
    (ds_cons (ds_set (i := 3) sc_law_names.nd (de_lst (de_nil)))
    (ds_cons (ds_for (fun _ => pin_nil) po rfl (pi_range1 rfl T.n_range (de_cons (de_v 1) de_nil)) (itSim_range1) (pg_name (i := 4) sc_law_names.nd rfl (by first | exact Or.inl rfl | exact Or.inr rfl)) (tgName_sim 4)
    (ds_cons (ds_set (i := 5) sc_law_names.nd (de_str))
    (ds_cons (ds_for (fun _ => pin_nil) po rfl (pi_range1 rfl T.n_range (de_cons (de_call (ok_law_draw T) (hr.mono (by decide)) tk T.g31 T.F31.kp T.b31 (de_cons (de_v 0) (de_cons (de_int) (de_nil)))) de_nil)) (itSim_range1) (pg_name (i := 6) sc_law_names.nd rfl (by first | exact Or.inl rfl | exact Or.inr rfl)) (tgName_sim 6)
    (ds_one (ds_set (i := 5) sc_law_names.nd (de_add rfl (de_v 5) (de_ixA rfl hu1 (de_v 2) (de_call (ok_law_draw T) (hr.mono (by decide)) tk T.g31 T.F31.kp T.b31 (de_cons (de_v 0) (de_cons (de_int) (de_nil)))))))))
    (ds_cons (ds_setLc (i := 7) (hpin := by intro p h; exact absurd h (by simp)) (own := [("_law_sign", 8)]) sc_law_names.nd (pi_str (de_v 2)) (itSim_str) (blkOk_by (N := ["_law_box_here", "_law_many", "_law_letters", "_law_names_here", "_law_k", "_law_stem", "_law_j", "_law_free", "_law_sign"]) (sc := defScope s_law_names) (by decide +kernel)) (tgName_sim 8) (tgName_own 8 (by decide)) (fun _ _ _ _ _ => pg_name (i := 8) sc_law_names.nd rfl (by first | exact Or.inl rfl | exact Or.inr rfl)) (fun _ _ _ _ _ => dts_one (dt_notinA rfl hu1 (de_add rfl (de_v 5) (de_v 8)) (de_cat rfl mkF_ok (de_v 3) (de_fro (de_cons (de_str) (de_cons (de_str) (de_cons (de_str) (de_nil)))))))) (fun _ _ _ _ _ => de_v 8) (sw_true rfl rfl rfl (by decide +kernel)))
    (ds_one (ds_do (de_app (de_v 3) (de_add rfl (de_v 5) (de_ixA rfl hu1 (de_v 7) (de_call (ok_law_draw T) (hr.mono (by decide)) tk T.g31 T.F31.kp T.b31 (de_cons (de_v 0) (de_cons (de_len (de_cons (de_v 7) (de_nil)) (hK := rfl) (hm := T.n_len)) (de_nil)))))))))))))
    (ds_one (ds_ret (de_v 3)))))
end
section
variable {P : Program} {w : World} {K : PySem.W.Frag} {mg : Str → Option Value} {base : Heap} {ad : Nat → Addr} {fd : Nat → FuncData}
def b_law_condition (self : List D → MH → Res D) : SM :=
    sSeq (sSet 3 (eCall 2 m_law_draw (eCons (eVar 0) (eCons (eC (.int 6)) (eNil)))))
    (sSeq (sIf (bAnd (bVal (eBin dGt (eVar 1) (eC (.int 1)))) (bVal (eBin dLt (eVar 3) (eC (.int 2)))))
    (sSeq (sSet 3 (eBin dIxA (eTup (eCons (eC (.str "and")) (eCons (eC (.str "or")) (eNil)))) (eVar 3)))
    (sRet (eTup (eCons (eVar 3) (eCons (eCall 3 self (eCons (eVar 0) (eCons (eBin dSub (eVar 1) (eC (.int 1))) (eCons (eVar 2) (eNil))))) (eCons (eCall 3 self (eCons (eVar 0) (eCons (eBin dSub (eVar 1) (eC (.int 1))) (eCons (eVar 2) (eNil))))) (eNil)))))))
    (sNil))
    (sSeq (sIf (bAnd (bVal (eBin dGt (eVar 1) (eC (.int 1)))) (bVal (eBin dEq (eVar 3) (eC (.int 2)))))
    (sRet (eTup (eCons (eC (.str "not")) (eCons (eCall 3 self (eCons (eVar 0) (eCons (eBin dSub (eVar 1) (eC (.int 1))) (eCons (eVar 2) (eNil))))) (eNil)))))
    (sNil))
    (sSeq (sSet 4 (eCall 2 m_law_draw (eCons (eVar 0) (eCons (eC (.int 3)) (eNil)))))
    (sSeq (sSet 3 (eCall 2 m_law_draw (eCons (eVar 0) (eCons (eBin dAdd (eC (.int 8)) (eBin dMul (eC (.int 3)) (eVar 2))) (eNil)))))
    (sSeq (sIf (bVal (eBin dLt (eVar 3) (eC (.int 4))))
    (sRet (eTup (eCons (eC (.str "equal")) (eCons (eVar 4) (eCons (eCall 2 m_law_draw (eCons (eVar 0) (eCons (eC (.int 3)) (eNil)))) (eNil))))))
    (sNil))
    (sSeq (sIf (bVal (eBin dEq (eVar 3) (eC (.int 4))))
    (sRet (eTup (eCons (eC (.str "below")) (eCons (eVar 4) (eCons (eCall 2 m_law_draw (eCons (eVar 0) (eCons (eC (.int 3)) (eNil)))) (eNil))))))
    (sNil))
    (sSeq (sIf (bVal (eBin dLt (eVar 3) (eC (.int 7))))
    (sRet (eTup (eCons (eC (.str "unknown")) (eCons (eVar 4) (eNil)))))
    (sNil))
    (sSeq (sIf (bVal (eBin dEq (eVar 3) (eC (.int 7))))
    (sRet (eTup (eCons (eC (.str "always")) (eNil))))
    (sNil))
    (sRet (eTup (eCons (eC (.str "quotient")) (eCons (eVar 4) (eCons (eCall 2 m_law_draw (eCons (eVar 0) (eCons (eC (.int 3)) (eNil)))) (eCons (eCall 2 m_law_draw (eCons (eVar 0) (eCons (eC (.int 3)) (eNil)))) (eNil)))))))))))))))
def m_law_condition : Nat → List D → MH → Res D
  | 0 => fun _ _ => .bad
  | n + 1 => fnB 5 (b_law_condition (m_law_condition n))
theorem ok_law_condition (T : Txt P w K mg ad fd) : ∀ n : Nat, FnOk P w K mg base (L2N.CX P w) (6 + n) (ad 34) (fd 34) ["_law_box_here", "_law_levels", "_law_errs"] (spD ⟨K, ad⟩ 3 (m_law_condition n))
  | 0 => fn_bad _
  | n + 1 => by
    have ih := ok_law_condition T n
    refine fn_ok2 T.F34 sc_law_condition fun cdv A outer s H E hr tk po => ?_
    have hu := hr.units
    have hu1 := hu_of hr
    exact ds_cons (ds_set (i := 3) sc_law_condition.nd (de_call (ok_law_draw T) (hr.mono (by (try simp only [Nat.add_eq]); omega)) tk T.g31 T.F31.kp T.b31 (de_cons (de_v 0) (de_cons (de_int) (de_nil)))))
        (ds_cons (ds_if (dt_w (dw_and (dt_gt (de_v 1) (de_int)) (dw_and1 (dt_lt (de_v 3) (de_int)))))
        (ds_cons (ds_set (i := 3) sc_law_condition.nd (de_ixA rfl hu1 (de_tup (de_cons (de_str) (de_cons (de_str) (de_nil)))) (de_v 3)))
        (ds_one (ds_ret (de_tup (de_cons (de_v 3) (de_cons (de_call (ih) (hr.mono (by (try simp only [Nat.add_eq]); omega)) tk T.g34 T.F34.kp T.b34 (de_cons (de_v 0) (de_cons (de_sub (de_v 1) (de_int)) (de_cons (de_v 2) (de_nil))))) (de_cons (de_call (ih) (hr.mono (by (try simp only [Nat.add_eq]); omega)) tk T.g34 T.F34.kp T.b34 (de_cons (de_v 0) (de_cons (de_sub (de_v 1) (de_int)) (de_cons (de_v 2) (de_nil))))) (de_nil))))))))
        (ds_nil))
        (ds_cons (ds_if (dt_w (dw_and (dt_gt (de_v 1) (de_int)) (dw_and1 (dt_eq rfl hu (de_v 3) (de_int)))))
        (ds_one (ds_ret (de_tup (de_cons (de_str) (de_cons (de_call (ih) (hr.mono (by (try simp only [Nat.add_eq]); omega)) tk T.g34 T.F34.kp T.b34 (de_cons (de_v 0) (de_cons (de_sub (de_v 1) (de_int)) (de_cons (de_v 2) (de_nil))))) (de_nil))))))
        (ds_nil))
        (ds_cons (ds_set (i := 4) sc_law_condition.nd (de_call (ok_law_draw T) (hr.mono (by (try simp only [Nat.add_eq]); omega)) tk T.g31 T.F31.kp T.b31 (de_cons (de_v 0) (de_cons (de_int) (de_nil)))))
        (ds_cons (ds_set (i := 3) sc_law_condition.nd (de_call (ok_law_draw T) (hr.mono (by (try simp only [Nat.add_eq]); omega)) tk T.g31 T.F31.kp T.b31 (de_cons (de_v 0) (de_cons (de_add rfl (de_int) (de_mul (de_int) (de_v 2))) (de_nil)))))
        (ds_cons (ds_if (dt_lt (de_v 3) (de_int))
        (ds_one (ds_ret (de_tup (de_cons (de_str) (de_cons (de_v 4) (de_cons (de_call (ok_law_draw T) (hr.mono (by (try simp only [Nat.add_eq]); omega)) tk T.g31 T.F31.kp T.b31 (de_cons (de_v 0) (de_cons (de_int) (de_nil)))) (de_nil)))))))
        (ds_nil))
        (ds_cons (ds_if (dt_eq rfl hu (de_v 3) (de_int))
        (ds_one (ds_ret (de_tup (de_cons (de_str) (de_cons (de_v 4) (de_cons (de_call (ok_law_draw T) (hr.mono (by (try simp only [Nat.add_eq]); omega)) tk T.g31 T.F31.kp T.b31 (de_cons (de_v 0) (de_cons (de_int) (de_nil)))) (de_nil)))))))
        (ds_nil))
        (ds_cons (ds_if (dt_lt (de_v 3) (de_int))
        (ds_one (ds_ret (de_tup (de_cons (de_str) (de_cons (de_v 4) (de_nil))))))
        (ds_nil))
        (ds_cons (ds_if (dt_eq rfl hu (de_v 3) (de_int))
        (ds_one (ds_ret (de_tup (de_cons (de_str) (de_nil)))))
        (ds_nil))
        (ds_one (ds_ret (de_tup (de_cons (de_str) (de_cons (de_v 4) (de_cons (de_call (ok_law_draw T) (hr.mono (by (try simp only [Nat.add_eq]); omega)) tk T.g31 T.F31.kp T.b31 (de_cons (de_v 0) (de_cons (de_int) (de_nil)))) (de_cons (de_call (ok_law_draw T) (hr.mono (by (try simp only [Nat.add_eq]); omega)) tk T.g31 T.F31.kp T.b31 (de_cons (de_v 0) (de_cons (de_int) (de_nil)))) (de_nil))))))))))))))))
end
section
variable {P : Program} {w : World} {K : PySem.W.Frag} {mg : Str → Option Value} {base : Heap} {ad : Nat → Addr} {fd : Nat → FuncData}
def b_law_atom : SM :=
    sSeq (sIf (bVal (eBin dIs (eVar 1) (eC .non)))
    (sRet (eTup (eCons (eC (.str "unknown")) (eCons (eVar 0) (eNil)))))
    (sNil))
    (sRet (eTup (eCons (eC (.str "equal")) (eCons (eVar 0) (eCons (eVar 1) (eNil))))))
def m_law_atom : List D → MH → Res D := fnB 2 b_law_atom
theorem ok_law_atom (T : Txt P w K mg ad fd) : FnOk P w K mg base (L2N.CX P w) 3 (ad 35) (fd 35) ["_law_column", "_law_known"] (spD ⟨K, ad⟩ 2 m_law_atom) := by
  refine fn_ok2 T.F35 sc_law_atom fun cdv A outer s H E hr tk po => ?_
  have hu := hr.units
  have hu1 := hu_of hr
  exact ds_cons (ds_if (dt_is (de_v 1) (de_non))
    (ds_one (ds_ret (de_tup (de_cons (de_str) (de_cons (de_v 0) (de_nil))))))
    (ds_nil))
    (ds_one (ds_ret (de_tup (de_cons (de_str) (de_cons (de_v 0) (de_cons (de_v 1) (de_nil)))))))
end
section
variable {P : Program} {w : World} {K : PySem.W.Frag} {mg : Str → Option Value} {base : Heap} {ad : Nat → Addr} {fd : Nat → FuncData}
def b_law_only : SM :=
    sRet (eTup (eCons (eC (.str "and")) (eCons (eTup (eCons (eC (.str "and")) (eCons (eCall 2 m_law_atom (eCons (eC (.int 0)) (eCons (eBin dIxA (eVar 0) (eC (.int 0))) (eNil)))) (eCons (eCall 2 m_law_atom (eCons (eC (.int 1)) (eCons (eBin dIxA (eVar 0) (eC (.int 1))) (eNil)))) (eNil))))) (eCons (eCall 2 m_law_atom (eCons (eC (.int 2)) (eCons (eBin dIxA (eVar 0) (eC (.int 2))) (eNil)))) (eNil)))))
def m_law_only : List D → MH → Res D := frzP (fnB 1 b_law_only)
theorem ok_law_only (T : Txt P w K mg ad fd) : FnOk P w K mg base (L2N.CX P w) 6 (ad 36) (fd 36) ["_law_row_here"] (spD ⟨K, ad⟩ 1 m_law_only) := by
  refine fn_frzP ?_
  refine fn_ok2 T.F36 sc_law_only fun cdv A outer s H E hr tk po => ?_
  have hu := hr.units
  have hu1 := hu_of hr
  exact ds_one (ds_ret (de_tup (de_cons (de_str) (de_cons (de_tup (de_cons (de_str) (de_cons (de_call (ok_law_atom T) (hr.mono (by decide)) tk T.g35 T.F35.kp T.b35 (de_cons (de_int) (de_cons (de_ixA rfl hu1 (de_v 0) (de_int)) (de_nil)))) (de_cons (de_call (ok_law_atom T) (hr.mono (by decide)) tk T.g35 T.F35.kp T.b35 (de_cons (de_int) (de_cons (de_ixA rfl hu1 (de_v 0) (de_int)) (de_nil)))) (de_nil))))) (de_cons (de_call (ok_law_atom T) (hr.mono (by decide)) tk T.g35 T.F35.kp T.b35 (de_cons (de_int) (de_cons (de_ixA rfl hu1 (de_v 0) (de_int)) (de_nil)))) (de_nil))))))
end
section
variable {P : Program} {w : World} {K : PySem.W.Frag} {mg : Str → Option Value} {base : Heap} {ad : Nat → Addr} {fd : Nat → FuncData}
def lp_law_row_1 : SM :=
    sSet 1 (eBin dAdd (eVar 1) (eTup (eCons (eBin dIxA (eTup (eCons (eC .non) (eCons (eC (.int 0)) (eCons (eC (.int 1)) (eCons (eC (.int 2)) (eCons (eC (.int 0)) (eCons (eC (.int 1)) (eNil)))))))) (eCall 2 m_law_draw (eCons (eVar 0) (eCons (eC (.int 6)) (eNil))))) (eNil))))
def b_law_row : SM :=
    sSeq (sSet 1 (eTup (eNil)))
    (sSeq (sForI (iRange1 (eC (.int 3))) (tgName 2) lp_law_row_1)
    (sRet (eVar 1)))
def m_law_row : List D → MH → Res D := fnB 3 b_law_row
theorem ok_law_row (T : Txt P w K mg ad fd) : FnOk P w K mg base (L2N.CX P w) 6 (ad 33) (fd 33) ["_law_box_here"] (spD ⟨K, ad⟩ 1 m_law_row) := by
  refine fn_ok2 T.F33 sc_law_row fun cdv A outer s H E hr tk po => ?_
  have hu := hr.units
  have hu1 := hu_of hr
  exact ds_cons (ds_set (i := 1) sc_law_row.nd (de_tup (de_nil)))
    (ds_cons (ds_for (fun _ => pin_nil) po rfl (pi_range1 rfl T.n_range (de_cons (de_int) de_nil)) (itSim_range1) (pg_name (i := 2) sc_law_row.nd rfl (by first | exact Or.inl rfl | exact Or.inr rfl)) (tgName_sim 2)
    (ds_one (ds_set (i := 1) sc_law_row.nd (de_add rfl (de_v 1) (de_tup (de_cons (de_ixA rfl hu1 (de_tup (de_cons (de_non) (de_cons (de_int) (de_cons (de_int) (de_cons (de_int) (de_cons (de_int) (de_cons (de_int) (de_nil)))))))) (de_call (ok_law_draw T) (hr.mono (by decide)) tk T.g31 T.F31.kp T.b31 (de_cons (de_v 0) (de_cons (de_int) (de_nil))))) (de_nil)))))))
    (ds_one (ds_ret (de_v 1))))
end
section
variable {P : Program} {w : World} {K : PySem.W.Frag} {mg : Str → Option Value} {base : Heap} {ad : Nat → Addr} {fd : Nat → FuncData}
def b_law_index_condition : SM :=
    sSeq (sSet 2 (eCall 2 m_law_draw (eCons (eVar 0) (eCons (eC (.int 7)) (eNil)))))
    (sSeq (sSet 3 (eCall 3 (m_law_condition 5) (eCons (eVar 0) (eCons (eC (.int 2)) (eCons (eC (.int 0)) (eNil))))))
    (sSeq (sIf (bVal (eBin dEq (eVar 2) (eC (.int 1))))
    (sRet (eTup (eCons (eC (.str "and")) (eCons (eBin dIxA (eVar 1) (eC (.int 3))) (eCons (eTup (eCons (eC (.str "not")) (eCons (eTup (eCons (eC (.str "unknown")) (eCons (eBin dIxA (eVar 1) (eC (.int 2))) (eNil)))) (eNil)))) (eNil))))))
    (sNil))
    (sSeq (sIf (bVal (eBin dEq (eVar 2) (eC (.int 2))))
    (sRet (eTup (eCons (eC (.str "or")) (eCons (eBin dIxA (eVar 1) (eC (.int 3))) (eCons (eVar 3) (eNil))))))
    (sNil))
    (sSeq (sIf (bVal (eBin dEq (eVar 2) (eC (.int 3))))
    (sRet (eTup (eCons (eC (.str "and")) (eCons (eBin dIxA (eVar 1) (eC (.int 3))) (eCons (eVar 3) (eNil))))))
    (sNil))
    (sSeq (sIf (bVal (eBin dEq (eVar 2) (eC (.int 4))))
    (sRet (eVar 3))
    (sNil))
    (sSeq (sIf (bVal (eBin dEq (eVar 2) (eC (.int 5))))
    (sRet (eCall 1 m_law_only (eCons (eCall 1 m_law_row (eCons (eVar 0) (eNil))) (eNil))))
    (sNil))
    (sSeq (sIf (bVal (eBin dEq (eVar 2) (eC (.int 6))))
    (sRet (eTup (eCons (eC (.str "not")) (eCons (eVar 3) (eNil)))))
    (sNil))
    (sRet (eBin dIxA (eVar 1) (eC (.int 3)))))))))))
def m_law_index_condition : List D → MH → Res D := fnB 4 b_law_index_condition
theorem ok_law_index_condition (T : Txt P w K mg ad fd) : FnOk P w K mg base (L2N.CX P w) 14 (ad 41) (fd 41) ["_law_box_here", "_law_rule"] (spD ⟨K, ad⟩ 2 m_law_index_condition) := by
  refine fn_ok2 T.F41 sc_law_index_condition fun cdv A outer s H E hr tk po => ?_
  have hu := hr.units
  have hu1 := hu_of hr
  exact ds_cons (ds_set (i := 2) sc_law_index_condition.nd (de_call (ok_law_draw T) (hr.mono (by decide)) tk T.g31 T.F31.kp T.b31 (de_cons (de_v 0) (de_cons (de_int) (de_nil)))))
    (ds_cons (ds_set (i := 3) sc_law_index_condition.nd (de_call (ok_law_condition T 5) (hr.mono (by decide)) tk T.g34 T.F34.kp T.b34 (de_cons (de_v 0) (de_cons (de_int) (de_cons (de_int) (de_nil))))))
    (ds_cons (ds_if (dt_eq rfl hu (de_v 2) (de_int))
    (ds_one (ds_ret (de_tup (de_cons (de_str) (de_cons (de_ixA rfl hu1 (de_v 1) (de_int)) (de_cons (de_tup (de_cons (de_str) (de_cons (de_tup (de_cons (de_str) (de_cons (de_ixA rfl hu1 (de_v 1) (de_int)) (de_nil)))) (de_nil)))) (de_nil)))))))
    (ds_nil))
    (ds_cons (ds_if (dt_eq rfl hu (de_v 2) (de_int))
    (ds_one (ds_ret (de_tup (de_cons (de_str) (de_cons (de_ixA rfl hu1 (de_v 1) (de_int)) (de_cons (de_v 3) (de_nil)))))))
    (ds_nil))
    (ds_cons (ds_if (dt_eq rfl hu (de_v 2) (de_int))
    (ds_one (ds_ret (de_tup (de_cons (de_str) (de_cons (de_ixA rfl hu1 (de_v 1) (de_int)) (de_cons (de_v 3) (de_nil)))))))
    (ds_nil))
    (ds_cons (ds_if (dt_eq rfl hu (de_v 2) (de_int))
    (ds_one (ds_ret (de_v 3)))
    (ds_nil))
    (ds_cons (ds_if (dt_eq rfl hu (de_v 2) (de_int))
    (ds_one (ds_ret (de_call (ok_law_only T) (hr.mono (by decide)) tk T.g36 T.F36.kp T.b36 (de_cons (de_call (ok_law_row T) (hr.mono (by decide)) tk T.g33 T.F33.kp T.b33 (de_cons (de_v 0) (de_nil))) (de_nil)))))
    (ds_nil))
    (ds_cons (ds_if (dt_eq rfl hu (de_v 2) (de_int))
    (ds_one (ds_ret (de_tup (de_cons (de_str) (de_cons (de_v 3) (de_nil))))))
    (ds_nil))
    (ds_one (ds_ret (de_ixA rfl hu1 (de_v 1) (de_int)))))))))))
end
section
variable {P : Program} {w : World} {K : PySem.W.Frag} {mg : Str → Option Value} {base : Heap} {ad : Nat → Addr} {fd : Nat → FuncData}
def lp_law_every_1 : SM :=
    sSet 0 (eBin (dCat mkF) (eVar 0) (eLc (iSeq (eFro (eCons (eC .non) (eCons (eC (.int 0)) (eCons (eC (.int 1)) (eCons (eC (.int 2)) (eNil))))))) (tgName 3) (bYes) (eTup (eCons (eVar 1) (eCons (eVar 2) (eCons (eVar 3) (eNil))))) [3]))
def lp_law_every_2 : SM :=
    sForI (iSeq (eFro (eCons (eC .non) (eCons (eC (.int 0)) (eCons (eC (.int 1)) (eCons (eC (.int 2)) (eNil))))))) (tgName 2) lp_law_every_1
def b_law_every : SM :=
    sSeq (sSet 0 (eFro (eNil)))
    (sSeq (sForI (iSeq (eFro (eCons (eC .non) (eCons (eC (.int 0)) (eCons (eC (.int 1)) (eCons (eC (.int 2)) (eNil))))))) (tgName 1) lp_law_every_2)
    (sRet (eVar 0)))
def m_law_every : List D → MH → Res D := frzP (fnB 4 b_law_every)
theorem ok_law_every (T : Txt P w K mg ad fd) : FnOk P w K mg base (L2N.CX P w) 3 (ad 39) (fd 39) [] (spD ⟨K, ad⟩ 0 m_law_every) := by
  refine fn_frzP ?_
  refine fn_ok2 T.F39 sc_law_every fun cdv A outer s H E hr tk po => ?_
  have hu := hr.units
  have hu1 := hu_of hr
  exact ds_cons (ds_set (i := 0) sc_law_every.nd (de_fro (de_nil)))
    (ds_cons (ds_for (fun _ => pin_nil) po rfl (pi_or (pi_list (de_fro (de_cons (de_non) (de_cons (de_int) (de_cons (de_int) (de_cons (de_int) (de_nil))))))) (pi_tup (de_fro (de_cons (de_non) (de_cons (de_int) (de_cons (de_int) (de_cons (de_int) (de_nil)))))))) (itSim_seq rfl) (pg_name (i := 1) sc_law_every.nd rfl (by first | exact Or.inl rfl | exact Or.inr rfl)) (tgName_sim 1)
    (ds_one (ds_for (fun _ => pin_nil) po rfl (pi_or (pi_list (de_fro (de_cons (de_non) (de_cons (de_int) (de_cons (de_int) (de_cons (de_int) (de_nil))))))) (pi_tup (de_fro (de_cons (de_non) (de_cons (de_int) (de_cons (de_int) (de_cons (de_int) (de_nil)))))))) (itSim_seq rfl) (pg_name (i := 2) sc_law_every.nd rfl (by first | exact Or.inl rfl | exact Or.inr rfl)) (tgName_sim 2)
    (ds_one (ds_set (i := 0) sc_law_every.nd (de_cat rfl mkF_ok (de_v 0) (de_lc (own := [("_law_third", 3)]) sc_law_every.nd (pi_or (pi_list (de_fro (de_cons (de_non) (de_cons (de_int) (de_cons (de_int) (de_cons (de_int) (de_nil))))))) (pi_tup (de_fro (de_cons (de_non) (de_cons (de_int) (de_cons (de_int) (de_cons (de_int) (de_nil)))))))) (itSim_seq rfl) (blkOk_by (N := ["_law_rows", "_law_first", "_law_second", "_law_third"]) (sc := defScope s_law_every) (by decide +kernel)) (tgName_sim 3) (tgName_own 3 (by decide)) (fun _ _ _ _ _ => pg_name (i := 3) sc_law_every.nd rfl (by first | exact Or.inl rfl | exact Or.inr rfl)) (fun _ _ _ _ _ => dts_nil) (fun _ _ _ _ _ => de_tup (de_cons (de_v 1) (de_cons (de_v 2) (de_cons (de_v 3) (de_nil))))))))))))
    (ds_one (ds_ret (de_v 0))))
end
section
variable {P : Program} {w : World} {K : PySem.W.Frag} {mg : Str → Option Value} {base : Heap} {ad : Nat → Addr} {fd : Nat → FuncData}
def b_law_truth (self : List D → MH → Res D) : SM :=
    sSeq (sSet 2 (eBin dIxA (eVar 0) (eC (.int 0))))
    (sSeq (sIf (bVal (eBin dEq (eVar 2) (eC (.str "always"))))
    (sRet (eC (.int 2)))
    (sNil))
    (sSeq (sIf (bVal (eBin dEq (eVar 2) (eC (.str "not"))))
    (sSeq (sSet 3 (eCall 2 self (eCons (eBin dIxA (eVar 0) (eC (.int 1))) (eCons (eVar 1) (eNil)))))
    (sRet (eIf (bVal (eBin dEq (eVar 3) (eC (.int 3)))) (eC (.int 3)) (eBin dSub (eC (.int 2)) (eVar 3)))))
    (sNil))
    (sSeq (sIf (bOr (bVal (eBin dEq (eVar 2) (eC (.str "and")))) (bVal (eBin dEq (eVar 2) (eC (.str "or")))))
    (sSeq (sSet 4 (eIf (bVal (eBin dEq (eVar 2) (eC (.str "and")))) (eC (.int 0)) (eC (.int 2))))
    (sSeq (sSet 5 (eCall 2 self (eCons (eBin dIxA (eVar 0) (eC (.int 1))) (eCons (eVar 1) (eNil)))))
    (sSeq (sIf (bOr (bVal (eBin dEq (eVar 5) (eVar 4))) (bVal (eBin dEq (eVar 5) (eC (.int 3)))))
    (sRet (eVar 5))
    (sNil))
    (sSeq (sSet 6 (eCall 2 self (eCons (eBin dIxA (eVar 0) (eC (.int 2))) (eCons (eVar 1) (eNil)))))
    (sSeq (sIf (bOr (bVal (eBin dEq (eVar 6) (eC (.int 3)))) (bVal (eBin dEq (eVar 6) (eVar 4))))
    (sRet (eVar 6))
    (sNil))
    (sRet (eIf (bOr (bVal (eBin dEq (eVar 5) (eC (.int 1)))) (bVal (eBin dEq (eVar 6) (eC (.int 1))))) (eC (.int 1)) (eVar 6))))))))
    (sNil))
    (sSeq (sSet 7 (eBin dIxA (eVar 1) (eBin dIxA (eVar 0) (eC (.int 1)))))
    (sSeq (sIf (bVal (eBin dEq (eVar 2) (eC (.str "quotient"))))
    (sSeq (sSet 8 (eBin dIxA (eVar 1) (eBin dIxA (eVar 0) (eC (.int 2)))))
    (sSeq (sIf (bVal (eBin dEq (eVar 8) (eC (.int 0))))
    (sRet (eC (.int 3)))
    (sNil))
    (sSeq (sIf (bOr (bVal (eBin dIs (eVar 7) (eC .non))) (bVal (eBin dIs (eVar 8) (eC .non))))
    (sRet (eC (.int 1)))
    (sNil))
    (sRet (eIf (bVal (eBin dEq (eBin dDiv (eVar 7) (eVar 8)) (eBin dIxA (eVar 0) (eC (.int 3))))) (eC (.int 2)) (eC (.int 0)))))))
    (sNil))
    (sSeq (sIf (bVal (eBin dEq (eVar 2) (eC (.str "unknown"))))
    (sRet (eIf (bVal (eBin dIs (eVar 7) (eC .non))) (eC (.int 2)) (eC (.int 0))))
    (sNil))
    (sSeq (sIf (bVal (eBin dIs (eVar 7) (eC .non)))
    (sRet (eC (.int 1)))
    (sNil))
    (sSeq (sIf (bVal (eBin dEq (eVar 2) (eC (.str "equal"))))
    (sRet (eIf (bVal (eBin dEq (eVar 7) (eBin dIxA (eVar 0) (eC (.int 2))))) (eC (.int 2)) (eC (.int 0))))
    (sNil))
    (sRet (eIf (bVal (eBin dLt (eVar 7) (eBin dIxA (eVar 0) (eC (.int 2))))) (eC (.int 2)) (eC (.int 0))))))))))))
def m_law_truth : Nat → List D → MH → Res D
  | 0 => fun _ _ => .bad
  | n + 1 => fnB 9 (b_law_truth (m_law_truth n))
theorem ok_law_truth (T : Txt P w K mg ad fd) : ∀ n : Nat, FnOk P w K mg base (L2N.CX P w) (3 + n) (ad 37) (fd 37) ["_law_condition_here", "_law_row_here"] (spD ⟨K, ad⟩ 2 (m_law_truth n))
  | 0 => fn_bad _
  | n + 1 => by
    have ih := ok_law_truth T n
    refine fn_ok2 T.F37 sc_law_truth fun cdv A outer s H E hr tk po => ?_
    have hu := hr.units
    have hu1 := hu_of hr
    exact ds_cons (ds_set (i := 2) sc_law_truth.nd (de_ixA rfl hu1 (de_v 0) (de_int)))
        (ds_cons (ds_if (dt_eq rfl hu (de_v 2) (de_str))
        (ds_one (ds_ret (de_int)))
        (ds_nil))
        (ds_cons (ds_if (dt_eq rfl hu (de_v 2) (de_str))
        (ds_cons (ds_set (i := 3) sc_law_truth.nd (de_call (ih) (hr.mono (by (try simp only [Nat.add_eq]); omega)) tk T.g37 T.F37.kp T.b37 (de_cons (de_ixA rfl hu1 (de_v 0) (de_int)) (de_cons (de_v 1) (de_nil)))))
        (ds_one (ds_ret (de_if (dt_eq rfl hu (de_v 3) (de_int)) (de_int) (de_sub (de_int) (de_v 3))))))
        (ds_nil))
        (ds_cons (ds_if (dt_w (dw_or (dt_eq rfl hu (de_v 2) (de_str)) (dw_or1 (dt_eq rfl hu (de_v 2) (de_str)))))
        (ds_cons (ds_set (i := 4) sc_law_truth.nd (de_if (dt_eq rfl hu (de_v 2) (de_str)) (de_int) (de_int)))
        (ds_cons (ds_set (i := 5) sc_law_truth.nd (de_call (ih) (hr.mono (by (try simp only [Nat.add_eq]); omega)) tk T.g37 T.F37.kp T.b37 (de_cons (de_ixA rfl hu1 (de_v 0) (de_int)) (de_cons (de_v 1) (de_nil)))))
        (ds_cons (ds_if (dt_w (dw_or (dt_eq rfl hu (de_v 5) (de_v 4)) (dw_or1 (dt_eq rfl hu (de_v 5) (de_int)))))
        (ds_one (ds_ret (de_v 5)))
        (ds_nil))
        (ds_cons (ds_set (i := 6) sc_law_truth.nd (de_call (ih) (hr.mono (by (try simp only [Nat.add_eq]); omega)) tk T.g37 T.F37.kp T.b37 (de_cons (de_ixA rfl hu1 (de_v 0) (de_int)) (de_cons (de_v 1) (de_nil)))))
        (ds_cons (ds_if (dt_w (dw_or (dt_eq rfl hu (de_v 6) (de_int)) (dw_or1 (dt_eq rfl hu (de_v 6) (de_v 4)))))
        (ds_one (ds_ret (de_v 6)))
        (ds_nil))
        (ds_one (ds_ret (de_if (dt_w (dw_or (dt_eq rfl hu (de_v 5) (de_int)) (dw_or1 (dt_eq rfl hu (de_v 6) (de_int))))) (de_int) (de_v 6)))))))))
        (ds_nil))
        (ds_cons (ds_set (i := 7) sc_law_truth.nd (de_ixA rfl hu1 (de_v 1) (de_ixA rfl hu1 (de_v 0) (de_int))))
        (ds_cons (ds_if (dt_eq rfl hu (de_v 2) (de_str))
        (ds_cons (ds_set (i := 8) sc_law_truth.nd (de_ixA rfl hu1 (de_v 1) (de_ixA rfl hu1 (de_v 0) (de_int))))
        (ds_cons (ds_if (dt_eq rfl hu (de_v 8) (de_int))
        (ds_one (ds_ret (de_int)))
        (ds_nil))
        (ds_cons (ds_if (dt_w (dw_or (dt_is (de_v 7) (de_non)) (dw_or1 (dt_is (de_v 8) (de_non)))))
        (ds_one (ds_ret (de_int)))
        (ds_nil))
        (ds_one (ds_ret (de_if (dt_eq rfl hu (de_div (de_v 7) (de_v 8)) (de_ixA rfl hu1 (de_v 0) (de_int))) (de_int) (de_int)))))))
        (ds_nil))
        (ds_cons (ds_if (dt_eq rfl hu (de_v 2) (de_str))
        (ds_one (ds_ret (de_if (dt_is (de_v 7) (de_non)) (de_int) (de_int))))
        (ds_nil))
        (ds_cons (ds_if (dt_is (de_v 7) (de_non))
        (ds_one (ds_ret (de_int)))
        (ds_nil))
        (ds_cons (ds_if (dt_eq rfl hu (de_v 2) (de_str))
        (ds_one (ds_ret (de_if (dt_eq rfl hu (de_v 7) (de_ixA rfl hu1 (de_v 0) (de_int))) (de_int) (de_int))))
        (ds_nil))
        (ds_one (ds_ret (de_if (dt_lt (de_v 7) (de_ixA rfl hu1 (de_v 0) (de_int))) (de_int) (de_int))))))))))))
end
section
variable {P : Program} {w : World} {K : PySem.W.Frag} {mg : Str → Option Value} {base : Heap} {ad : Nat → Addr} {fd : Nat → FuncData}
def b_law_group : SM :=
    sSeq (sIf (bVal (eBin dEq (eCall 2 (m_law_truth 20) (eCons (eBin dIxA (eVar 0) (eC (.int 3))) (eCons (eVar 1) (eNil)))) (eC (.int 2))))
    (sRet (eBin dIxA (eVar 1) (eBin dIxA (eVar 0) (eC (.int 2)))))
    (sNil))
    (sRet (eC .non))
def m_law_group : List D → MH → Res D := frzP (fnB 2 b_law_group)
theorem ok_law_group (T : Txt P w K mg ad fd) : FnOk P w K mg base (L2N.CX P w) 26 (ad 38) (fd 38) ["_law_rule", "_law_row_here"] (spD ⟨K, ad⟩ 2 m_law_group) := by
  refine fn_frzP ?_
  refine fn_ok2 T.F38 sc_law_group fun cdv A outer s H E hr tk po => ?_
  have hu := hr.units
  have hu1 := hu_of hr
  exact ds_cons (ds_if (dt_eq rfl hu (de_call (ok_law_truth T 20) (hr.mono (by decide)) tk T.g37 T.F37.kp T.b37 (de_cons (de_ixA rfl hu1 (de_v 0) (de_int)) (de_cons (de_v 1) (de_nil)))) (de_int))
    (ds_one (ds_ret (de_ixA rfl hu1 (de_v 1) (de_ixA rfl hu1 (de_v 0) (de_int)))))
    (ds_nil))
    (ds_one (ds_ret (de_non)))
end
section
variable {P : Program} {w : World} {K : PySem.W.Frag} {mg : Str → Option Value} {base : Heap} {ad : Nat → Addr} {fd : Nat → FuncData}
def b_law_found : SM :=
    sSeq (sIf (bOr (bVal (eBin dIs (eBin dIxA (eVar 1) (eVar 3)) (eC .non))) (bVal (eBin dNe (eBin dIxA (eVar 1) (eVar 3)) (eBin dIxA (eVar 1) (eVar 4)))))
    (sRet (eC (.bl false)))
    (sNil))
    (sRet (eOr (eBin dEq (eBin dIxA (eVar 0) (eVar 3)) (eBin dIxA (eVar 0) (eVar 4))) (eNot (eVar 2))))
def m_law_found : List D → MH → Res D := frzP (fnB 5 b_law_found)
theorem ok_law_found (T : Txt P w K mg ad fd) : FnOk P w K mg base (L2N.CX P w) 3 (ad 42) (fd 42) ["_law_groups", "_law_places", "_law_again", "_law_row_here", "_law_other"] (spD ⟨K, ad⟩ 5 m_law_found) := by
  refine fn_frzP ?_
  refine fn_ok2 T.F42 sc_law_found fun cdv A outer s H E hr tk po => ?_
  have hu := hr.units
  have hu1 := hu_of hr
  exact ds_cons (ds_if (dt_w (dw_or (dt_is (de_ixA rfl hu1 (de_v 1) (de_v 3)) (de_non)) (dw_or1 (dt_ne rfl hu (de_ixA rfl hu1 (de_v 1) (de_v 3)) (de_ixA rfl hu1 (de_v 1) (de_v 4))))))
    (ds_one (ds_ret (de_bl)))
    (ds_nil))
    (ds_one (ds_ret (de_or (de_eq rfl hu (de_ixA rfl hu1 (de_v 0) (de_v 3)) (de_ixA rfl hu1 (de_v 0) (de_v 4))) (de_one (de_not (de_v 2))))))
end
section
variable {P : Program} {w : World} {K : PySem.W.Frag} {mg : Str → Option Value} {base : Heap} {ad : Nat → Addr} {fd : Nat → FuncData}
def lp_law_gap_1 : SM :=
    sSeq (sSet 6 (eAnd (eBin dIxA (eVar 2) (eVar 5)) (eCall 5 m_law_found (eCons (eVar 0) (eCons (eVar 1) (eCons (eVar 3) (eCons (eVar 4) (eCons (eVar 5) (eNil)))))))))
    (sIf (bVal (eBin dNe (eVar 6) (eBin dEq (eBin dIxA (eVar 0) (eVar 4)) (eBin dIxA (eVar 0) (eVar 5)))))
    (sRet (eTup (eCons (eVar 4) (eCons (eVar 5) (eNil)))))
    (sNil))
def lp_law_gap_2 : SM :=
    sSeq (sIf (bVal (eBin dIs (eBin dIxA (eVar 0) (eVar 4)) (eC .non)))
    (sCt)
    (sNil))
    (sForI (iRange1 (eC (.int 64))) (tgName 5) lp_law_gap_1)
def b_law_gap : SM :=
    sSeq (sForI (iRange1 (eC (.int 64))) (tgName 4) lp_law_gap_2)
    (sRet (eC .non))
def m_law_gap : List D → MH → Res D := frzP (fnB 7 b_law_gap)
theorem ok_law_gap (T : Txt P w K mg ad fd) : FnOk P w K mg base (L2N.CX P w) 6 (ad 43) (fd 43) ["_law_groups", "_law_places", "_law_held", "_law_again"] (spD ⟨K, ad⟩ 4 m_law_gap) := by
  refine fn_frzP ?_
  refine fn_ok2 T.F43 sc_law_gap fun cdv A outer s H E hr tk po => ?_
  have hu := hr.units
  have hu1 := hu_of hr
  exact ds_cons (ds_for (fun _ => pin_nil) po rfl (pi_range1 rfl T.n_range (de_cons (de_int) de_nil)) (itSim_range1) (pg_name (i := 4) sc_law_gap.nd rfl (by first | exact Or.inl rfl | exact Or.inr rfl)) (tgName_sim 4)
    (ds_cons (ds_if (dt_is (de_ixA rfl hu1 (de_v 0) (de_v 4)) (de_non))
    (ds_one (ds_continue))
    (ds_nil))
    (ds_one (ds_for (fun _ => pin_nil) po rfl (pi_range1 rfl T.n_range (de_cons (de_int) de_nil)) (itSim_range1) (pg_name (i := 5) sc_law_gap.nd rfl (by first | exact Or.inl rfl | exact Or.inr rfl)) (tgName_sim 5)
    (ds_cons (ds_set (i := 6) sc_law_gap.nd (de_and (de_ixA rfl hu1 (de_v 2) (de_v 5)) (de_one (de_call (ok_law_found T) (hr.mono (by decide)) tk T.g42 T.F42.kp T.b42 (de_cons (de_v 0) (de_cons (de_v 1) (de_cons (de_v 3) (de_cons (de_v 4) (de_cons (de_v 5) (de_nil))))))))))
    (ds_one (ds_if (dt_ne rfl hu (de_v 6) (de_eq rfl hu (de_ixA rfl hu1 (de_v 0) (de_v 4)) (de_ixA rfl hu1 (de_v 0) (de_v 5))))
    (ds_one (ds_ret (de_tup (de_cons (de_v 4) (de_cons (de_v 5) (de_nil))))))
    (ds_nil))))))))
    (ds_one (ds_ret (de_non)))
end
section
variable {P : Program} {w : World} {K : PySem.W.Frag} {mg : Str → Option Value} {base : Heap} {ad : Nat → Addr} {fd : Nat → FuncData}
def lp_law_alike_1 (self : List D → MH → Res D) : SM :=
    sIf (bNot (bVal (eCall 2 self (eCons (eBin dIxA (eVar 0) (eVar 2)) (eCons (eBin dIxA (eVar 1) (eVar 2)) (eNil))))))
    (sRet (eC (.bl false)))
    (sNil)
def b_law_alike (self : List D → MH → Res D) : SM :=
    sSeq (sIf (bVal (eBin dIs (eVar 1) (eC .non)))
    (sRet (eBin dIs (eVar 0) (eC .non)))
    (sNil))
    (sSeq (sIf (bOr (bVal (eBin dIs (eVar 1) (eC (.bl true)))) (bVal (eBin dIs (eVar 1) (eC (.bl false)))))
    (sRet (eAnd (eArgs (dIsi isi) (eCons (eVar 0) (eCons (eC (.ty "bool")) (eNil)))) (eBin dEq (eVar 0) (eVar 1))))
    (sNil))
    (sSeq (sIf (bVal (eArgs (dIsi isi) (eCons (eVar 1) (eCons (eC (.ty "int")) (eNil)))))
    (sRet (eAnd (eArgs (dIsi isi) (eCons (eVar 0) (eCons (eC (.ty "int")) (eNil)))) (eAnd (eNot (eArgs (dIsi isi) (eCons (eVar 0) (eCons (eC (.ty "bool")) (eNil))))) (eBin dEq (eVar 0) (eVar 1)))))
    (sNil))
    (sSeq (sIf (bVal (eArgs (dIsi isi) (eCons (eVar 1) (eCons (eC (.ty "str")) (eNil)))))
    (sRet (eAnd (eArgs (dIsi isi) (eCons (eVar 0) (eCons (eC (.ty "str")) (eNil)))) (eBin dEq (eVar 0) (eVar 1))))
    (sNil))
    (sSeq (sIf (bVal (eArgs (dIsi isi) (eCons (eVar 1) (eCons (eC (.ty "tuple")) (eNil)))))
    (sIf (bOr (bNot (bVal (eArgs (dIsi isi) (eCons (eVar 0) (eCons (eC (.ty "tuple")) (eNil)))))) (bVal (eBin dNe (eArgs dLen (eCons (eVar 0) (eNil))) (eArgs dLen (eCons (eVar 1) (eNil))))))
    (sRet (eC (.bl false)))
    (sNil))
    (sIf (bOr (bNot (bVal (eArgs (dIsi isi) (eCons (eVar 0) (eCons (eC (.ty "list")) (eNil)))))) (bVal (eBin dNe (eArgs dLen (eCons (eVar 0) (eNil))) (eArgs dLen (eCons (eVar 1) (eNil))))))
    (sRet (eC (.bl false)))
    (sNil)))
    (sSeq (sForI (iRange1 (eArgs dLen (eCons (eVar 1) (eNil)))) (tgName 2) (lp_law_alike_1 self))
    (sRet (eC (.bl true))))))))
def m_law_alike : Nat → List D → MH → Res D
  | 0 => fun _ _ => .bad
  | n + 1 => fnB 3 (b_law_alike (m_law_alike n))
theorem ok_law_alike (T : Txt P w K mg ad fd) : ∀ n : Nat, FnOk P w K mg base (L2N.CX P w) (3 + n) (ad 40) (fd 40) ["_law_actual", "_law_due"] (spD ⟨K, ad⟩ 2 (m_law_alike n))
  | 0 => fn_bad _
  | n + 1 => by
    have ih := ok_law_alike T n
    refine fn_ok2 T.F40 sc_law_alike fun cdv A outer s H E hr tk po => ?_
    have hu := hr.units
    have hu1 := hu_of hr
    exact ds_cons (ds_if (dt_is (de_v 1) (de_non))
        (ds_one (ds_ret (de_is (de_v 0) (de_non))))
        (ds_nil))
        (ds_cons (ds_if (dt_w (dw_or (dt_is (de_v 1) (de_bl)) (dw_or1 (dt_is (de_v 1) (de_bl)))))
        (ds_one (ds_ret (de_and (de_isi T.isi rfl (de_cons (de_v 0) (de_cons (de_c (pe_bltn (v := .ty "bool") rfl T.n_bool (by decide +kernel) rfl) fun _ _ => .ty "bool") (de_nil))) T.n_isinstance) (de_one (de_eq rfl hu (de_v 0) (de_v 1))))))
        (ds_nil))
        (ds_cons (ds_if (dt_val (de_isi T.isi rfl (de_cons (de_v 1) (de_cons (de_c (pe_bltn (v := .ty "int") rfl T.n_int (by decide +kernel) rfl) fun _ _ => .ty "int") (de_nil))) T.n_isinstance))
        (ds_one (ds_ret (de_and (de_isi T.isi rfl (de_cons (de_v 0) (de_cons (de_c (pe_bltn (v := .ty "int") rfl T.n_int (by decide +kernel) rfl) fun _ _ => .ty "int") (de_nil))) T.n_isinstance) (de_and (de_not (de_isi T.isi rfl (de_cons (de_v 0) (de_cons (de_c (pe_bltn (v := .ty "bool") rfl T.n_bool (by decide +kernel) rfl) fun _ _ => .ty "bool") (de_nil))) T.n_isinstance)) (de_one (de_eq rfl hu (de_v 0) (de_v 1)))))))
        (ds_nil))
        (ds_cons (ds_if (dt_val (de_isi T.isi rfl (de_cons (de_v 1) (de_cons (de_c (pe_bltn (v := .ty "str") rfl T.n_str (by decide +kernel) rfl) fun _ _ => .ty "str") (de_nil))) T.n_isinstance))
        (ds_one (ds_ret (de_and (de_isi T.isi rfl (de_cons (de_v 0) (de_cons (de_c (pe_bltn (v := .ty "str") rfl T.n_str (by decide +kernel) rfl) fun _ _ => .ty "str") (de_nil))) T.n_isinstance) (de_one (de_eq rfl hu (de_v 0) (de_v 1))))))
        (ds_nil))
        (ds_cons (ds_if (dt_val (de_isi T.isi rfl (de_cons (de_v 1) (de_cons (de_c (pe_bltn (v := .ty "tuple") rfl T.n_tuple (by decide +kernel) rfl) fun _ _ => .ty "tuple") (de_nil))) T.n_isinstance))
        (ds_one (ds_if (dt_w (dw_or (dt_not (dt_val (de_isi T.isi rfl (de_cons (de_v 0) (de_cons (de_c (pe_bltn (v := .ty "tuple") rfl T.n_tuple (by decide +kernel) rfl) fun _ _ => .ty "tuple") (de_nil))) T.n_isinstance))) (dw_or1 (dt_ne rfl hu (de_len (de_cons (de_v 0) (de_nil)) (hK := rfl) (hm := T.n_len)) (de_len (de_cons (de_v 1) (de_nil)) (hK := rfl) (hm := T.n_len))))))
        (ds_one (ds_ret (de_bl)))
        (ds_nil)))
        (ds_one (ds_if (dt_w (dw_or (dt_not (dt_val (de_isi T.isi rfl (de_cons (de_v 0) (de_cons (de_c (pe_bltn (v := .ty "list") rfl T.n_list (by decide +kernel) rfl) fun _ _ => .ty "list") (de_nil))) T.n_isinstance))) (dw_or1 (dt_ne rfl hu (de_len (de_cons (de_v 0) (de_nil)) (hK := rfl) (hm := T.n_len)) (de_len (de_cons (de_v 1) (de_nil)) (hK := rfl) (hm := T.n_len))))))
        (ds_one (ds_ret (de_bl)))
        (ds_nil))))
        (ds_cons (ds_for (fun _ => pin_nil) po rfl (pi_range1 rfl T.n_range (de_cons (de_len (de_cons (de_v 1) (de_nil)) (hK := rfl) (hm := T.n_len)) de_nil)) (itSim_range1) (pg_name (i := 2) sc_law_alike.nd rfl (by first | exact Or.inl rfl | exact Or.inr rfl)) (tgName_sim 2)
        (ds_one (ds_if (dt_not (dt_val (de_call (ih) (hr.mono (by (try simp only [Nat.add_eq]); omega)) tk T.g40 T.F40.kp T.b40 (de_cons (de_ixA rfl hu1 (de_v 0) (de_v 2)) (de_cons (de_ixA rfl hu1 (de_v 1) (de_v 2)) (de_nil))))))
        (ds_one (ds_ret (de_bl)))
        (ds_nil))))
        (ds_one (ds_ret (de_bl))))))))
end
section
variable {P : Program} {w : World} {K : PySem.W.Frag} {mg : Str → Option Value} {base : Heap} {ad : Nat → Addr} {fd : Nat → FuncData}
def b_Truth___init__ : SM :=
    sPutF [8] "rank" (eVar 0) (eVar 1)
theorem ok_Truth___init__ (T : Txt P w K mg ad fd) : FnOk P w K mg base (L2N.CX P w) 3 (ad 9) (fd 9) ["self", "rank"] (spD ⟨K, ad⟩ 2 (initC 8 ["rank"])) := by
  refine fn_ref (m := fnB 2 b_Truth___init__) ?_ init1
  refine fn_ok2 T.F9 sc_Truth___init__ fun cdv A outer s H E hr tk po => ?_
  have hu := hr.units
  have hu1 := hu_of hr
  exact ds_one (ds_putF T.cf_rank (de_v 0) (de_v 1))
end
section
variable {P : Program} {w : World} {K : PySem.W.Frag} {mg : Str → Option Value} {base : Heap} {ad : Nat → Addr} {fd : Nat → FuncData}
def b_Truth___invert__ : SM :=
    sRet (eMakeF 8 ["rank"] (eCons (eBin dSub (eC (.int 2)) (eUn (dFld [8] "rank") (eVar 0))) (eNil)))
def m_Truth___invert__ : List D → MH → Res D := fnB 1 b_Truth___invert__
theorem ok_Truth___invert__ (T : Txt P w K mg ad fd) : FnOk P w K mg base (L2N.CX P w) 6 (ad 17) (fd 17) ["self"] (spD ⟨K, ad⟩ 1 m_Truth___invert__) := by
  refine fn_ok2 T.F17 sc_Truth___invert__ fun cdv A outer s H E hr tk po => ?_
  have hu := hr.units
  have hu1 := hu_of hr
  exact ds_one (ds_ret (de_makeF (c := 8) (fs := ["rank"]) T.mk8 (ok_Truth___init__ T) (hr.mono (by decide)) tk T.g8 T.b9 (de_cons (de_sub (de_int) (de_fld (g := ⟨K, ad⟩) T.cf_rank (de_v 0))) (de_nil))))
end
section
variable {P : Program} {w : World} {K : PySem.W.Frag} {mg : Str → Option Value} {base : Heap} {ad : Nat → Addr} {fd : Nat → FuncData}
def b_Truth___and__ : SM :=
    sSeq (sIf (bNot (bVal (eArgs (dIsi isi) (eCons (eVar 1) (eCons (eC (.cls 8)) (eNil))))))
    (sRet (eBad))
    (sNil))
    (sSeq (sIf (bVal (eBin dLt (eUn (dFld [8] "rank") (eVar 1)) (eUn (dFld [8] "rank") (eVar 0))))
    (sRet (eMakeF 8 ["rank"] (eCons (eUn (dFld [8] "rank") (eVar 1)) (eNil))))
    (sNil))
    (sRet (eMakeF 8 ["rank"] (eCons (eUn (dFld [8] "rank") (eVar 0)) (eNil)))))
def m_Truth___and__ : List D → MH → Res D := fnB 2 b_Truth___and__
theorem ok_Truth___and__ (T : Txt P w K mg ad fd) : FnOk P w K mg base (L2N.CX P w) 6 (ad 14) (fd 14) ["self", "other"] (spD ⟨K, ad⟩ 2 m_Truth___and__) := by
  refine fn_ok2 T.F14 sc_Truth___and__ fun cdv A outer s H E hr tk po => ?_
  have hu := hr.units
  have hu1 := hu_of hr
  exact ds_cons (ds_if (dt_not (dt_val (de_isi T.isi rfl (de_cons (de_v 1) (de_cons (de_c (pe_glob (v := .ref (ad 8)) rfl T.g8 rfl) fun _ _ => .cls 8) (de_nil))) T.n_isinstance)))
    (ds_one (ds_ret (de_bad)))
    (ds_nil))
    (ds_cons (ds_if (dt_lt (de_fld (g := ⟨K, ad⟩) T.cf_rank (de_v 1)) (de_fld (g := ⟨K, ad⟩) T.cf_rank (de_v 0)))
    (ds_one (ds_ret (de_makeF (c := 8) (fs := ["rank"]) T.mk8 (ok_Truth___init__ T) (hr.mono (by decide)) tk T.g8 T.b9 (de_cons (de_fld (g := ⟨K, ad⟩) T.cf_rank (de_v 1)) (de_nil)))))
    (ds_nil))
    (ds_one (ds_ret (de_makeF (c := 8) (fs := ["rank"]) T.mk8 (ok_Truth___init__ T) (hr.mono (by decide)) tk T.g8 T.b9 (de_cons (de_fld (g := ⟨K, ad⟩) T.cf_rank (de_v 0)) (de_nil))))))
end
section
variable {P : Program} {w : World} {K : PySem.W.Frag} {mg : Str → Option Value} {base : Heap} {ad : Nat → Addr} {fd : Nat → FuncData}
def b_Truth___or__ : SM :=
    sSeq (sIf (bNot (bVal (eArgs (dIsi isi) (eCons (eVar 1) (eCons (eC (.cls 8)) (eNil))))))
    (sRet (eBad))
    (sNil))
    (sSeq (sIf (bVal (eBin dLt (eUn (dFld [8] "rank") (eVar 0)) (eUn (dFld [8] "rank") (eVar 1))))
    (sRet (eMakeF 8 ["rank"] (eCons (eUn (dFld [8] "rank") (eVar 1)) (eNil))))
    (sNil))
    (sRet (eMakeF 8 ["rank"] (eCons (eUn (dFld [8] "rank") (eVar 0)) (eNil)))))
def m_Truth___or__ : List D → MH → Res D := fnB 2 b_Truth___or__
theorem ok_Truth___or__ (T : Txt P w K mg ad fd) : FnOk P w K mg base (L2N.CX P w) 6 (ad 15) (fd 15) ["self", "other"] (spD ⟨K, ad⟩ 2 m_Truth___or__) := by
  refine fn_ok2 T.F15 sc_Truth___or__ fun cdv A outer s H E hr tk po => ?_
  have hu := hr.units
  have hu1 := hu_of hr
  exact ds_cons (ds_if (dt_not (dt_val (de_isi T.isi rfl (de_cons (de_v 1) (de_cons (de_c (pe_glob (v := .ref (ad 8)) rfl T.g8 rfl) fun _ _ => .cls 8) (de_nil))) T.n_isinstance)))
    (ds_one (ds_ret (de_bad)))
    (ds_nil))
    (ds_cons (ds_if (dt_lt (de_fld (g := ⟨K, ad⟩) T.cf_rank (de_v 0)) (de_fld (g := ⟨K, ad⟩) T.cf_rank (de_v 1)))
    (ds_one (ds_ret (de_makeF (c := 8) (fs := ["rank"]) T.mk8 (ok_Truth___init__ T) (hr.mono (by decide)) tk T.g8 T.b9 (de_cons (de_fld (g := ⟨K, ad⟩) T.cf_rank (de_v 1)) (de_nil)))))
    (ds_nil))
    (ds_one (ds_ret (de_makeF (c := 8) (fs := ["rank"]) T.mk8 (ok_Truth___init__ T) (hr.mono (by decide)) tk T.g8 T.b9 (de_cons (de_fld (g := ⟨K, ad⟩) T.cf_rank (de_v 0)) (de_nil))))))
end
section
variable {P : Program} {w : World} {K : PySem.W.Frag} {mg : Str → Option Value} {base : Heap} {ad : Nat → Addr} {fd : Nat → FuncData}
def b_joined (self : List D → MH → Res D) : SM :=
    sSeq (sSet 2 (eCall 2 self (eCons (eBin dIxA (eVar 0) (eC (.int 1))) (eCons (eVar 1) (eNil)))))
    (sSeq (sIf (bVal (eBin dEq (eBin dIxA (eVar 0) (eC (.int 0))) (eC (.str "and"))))
    (sSeq (sIf (bVal (eBin dEq (eUn (dFld [8] "rank") (eVar 2)) (eC (.int 0))))
    (sRet (eVar 2))
    (sNil))
    (sRet (eOwn2 8 m_Truth___and__ (eVar 2) (eCall 2 self (eCons (eBin dIxA (eVar 0) (eC (.int 2))) (eCons (eVar 1) (eNil)))))))
    (sNil))
    (sSeq (sIf (bVal (eBin dEq (eUn (dFld [8] "rank") (eVar 2)) (eC (.int 2))))
    (sRet (eVar 2))
    (sNil))
    (sRet (eOwn2 8 m_Truth___or__ (eVar 2) (eCall 2 self (eCons (eBin dIxA (eVar 0) (eC (.int 2))) (eCons (eVar 1) (eNil))))))))
def m_joined (self : List D → MH → Res D) : List D → MH → Res D := fnB 3 (b_joined self)
theorem ok_joined (T : Txt P w K mg ad fd) {n : Nat} {self : List D → MH → Res D} (ih : FnOk P w K mg base (L2N.CX P w) (12 + 2 * n) (ad 25) (fd 25) ["condition", "row"] (spD ⟨K, ad⟩ 2 self)) : FnOk P w K mg base (L2N.CX P w) (12 + 2 * n + 1) (ad 23) (fd 23) ["condition", "row"] (spD ⟨K, ad⟩ 2 (m_joined self)) := by
  refine fn_ok2 T.F23 sc_joined fun cdv A outer s H E hr tk po => ?_
  have hu := hr.units
  have hu1 := hu_of hr
  exact ds_cons (ds_set (i := 2) sc_joined.nd (de_call (ih) (hr.mono (by (try simp only [Nat.add_eq]); omega)) tk T.g25 T.F25.kp T.b25 (de_cons (de_ixA rfl hu1 (de_v 0) (de_int)) (de_cons (de_v 1) (de_nil)))))
    (ds_cons (ds_if (dt_eq rfl hu (de_ixA rfl hu1 (de_v 0) (de_int)) (de_str))
    (ds_cons (ds_if (dt_eq rfl hu (de_fld (g := ⟨K, ad⟩) T.cf_rank (de_v 2)) (de_int))
    (ds_one (ds_ret (de_v 2)))
    (ds_nil))
    (ds_one (ds_ret (de_own2 (c := 8) (de_v 2) (de_call (ih) (hr.mono (by (try simp only [Nat.add_eq]); omega)) tk T.g25 T.F25.kp T.b25 (de_cons (de_ixA rfl hu1 (de_v 0) (de_int)) (de_cons (de_v 1) (de_nil)))) T.sf8 T.om14 T.of14 (ok_Truth___and__ T) (hr.mono (by (try simp only [Nat.add_eq]); omega)) tk T.b14))))
    (ds_nil))
    (ds_cons (ds_if (dt_eq rfl hu (de_fld (g := ⟨K, ad⟩) T.cf_rank (de_v 2)) (de_int))
    (ds_one (ds_ret (de_v 2)))
    (ds_nil))
    (ds_one (ds_ret (de_own2 (c := 8) (de_v 2) (de_call (ih) (hr.mono (by (try simp only [Nat.add_eq]); omega)) tk T.g25 T.F25.kp T.b25 (de_cons (de_ixA rfl hu1 (de_v 0) (de_int)) (de_cons (de_v 1) (de_nil)))) T.sf8 T.om15 T.of15 (ok_Truth___or__ T) (hr.mono (by (try simp only [Nat.add_eq]); omega)) tk T.b15)))))
end
section
variable {P : Program} {w : World} {K : PySem.W.Frag} {mg : Str → Option Value} {base : Heap} {ad : Nat → Addr} {fd : Nat → FuncData}
theorem ok_ZeroDivisor___init__ (T : Txt P w K mg ad fd) : FnOk P w K mg base (L2N.CX P w) 3 (ad 4) (fd 4) ["self"] (spX ⟨K, ad⟩ 3 0 ["told"] xv_ZeroDivisor) := by
  exact initX_ok (g := ⟨K, ad⟩) (c := 3) (l := [("told", eTup (eCons (eC (.str "refused")) (eCons (eC (.str "zero")) (eNil))))]) (acc := fun ds => [("told", .tup [(.str "refused"), (.str "zero")])]) T.O4 sc_ZeroDivisor___init__ T.ox3 rfl rfl (fun _ _ _ _ => rfl) (fun _ _ _ _ => rfl) (fun _ _ _ _ _ _ _ => .cons (pe_var (i := 0) rfl (.inl rfl) (by decide) (by decide)) (de_tup (de_cons (de_str) (de_cons (de_str) (de_nil)))) T.ofl3_told rfl (.nil)) (fun a ds M hl => match ds, hl with | [], _ => ⟨_, _, rfl, rfl, rfl⟩) (fun _ => rfl) (fun _ => rfl) (by decide) (by decide)
end
section
variable {P : Program} {w : World} {K : PySem.W.Frag} {mg : Str → Option Value} {base : Heap} {ad : Nat → Addr} {fd : Nat → FuncData}
def b_Truth_of : SM :=
    sSeq (sIf (bVal (eBin dIs (eVar 0) (eC .non)))
    (sRet (eMakeF 8 ["rank"] (eCons (eC (.int 1)) (eNil))))
    (sNil))
    (sSeq (sIf (bVal (eVar 0))
    (sRet (eMakeF 8 ["rank"] (eCons (eC (.int 2)) (eNil))))
    (sNil))
    (sRet (eMakeF 8 ["rank"] (eCons (eC (.int 0)) (eNil)))))
def m_Truth_of : List D → MH → Res D := fnB 1 b_Truth_of
theorem ok_Truth_of (T : Txt P w K mg ad fd) : FnOk P w K mg base (L2N.CX P w) 6 (ad 10) (fd 10) ["value"] (spD ⟨K, ad⟩ 1 m_Truth_of) := by
  refine fn_ok2 T.F10 sc_Truth_of fun cdv A outer s H E hr tk po => ?_
  have hu := hr.units
  have hu1 := hu_of hr
  exact ds_cons (ds_if (dt_is (de_v 0) (de_non))
    (ds_one (ds_ret (de_makeF (c := 8) (fs := ["rank"]) T.mk8 (ok_Truth___init__ T) (hr.mono (by decide)) tk T.g8 T.b9 (de_cons (de_int) (de_nil)))))
    (ds_nil))
    (ds_cons (ds_if (dt_val (de_v 0))
    (ds_one (ds_ret (de_makeF (c := 8) (fs := ["rank"]) T.mk8 (ok_Truth___init__ T) (hr.mono (by decide)) tk T.g8 T.b9 (de_cons (de_int) (de_nil)))))
    (ds_nil))
    (ds_one (ds_ret (de_makeF (c := 8) (fs := ["rank"]) T.mk8 (ok_Truth___init__ T) (hr.mono (by decide)) tk T.g8 T.b9 (de_cons (de_int) (de_nil))))))
end
section
variable {P : Program} {w : World} {K : PySem.W.Frag} {mg : Str → Option Value} {base : Heap} {ad : Nat → Addr} {fd : Nat → FuncData}
def b_quotient : SM :=
    sSeq (sSet 2 (eBin dIxA (eVar 1) (eBin dIxA (eVar 0) (eC (.int 1)))))
    (sSeq (sSet 3 (eBin dIxA (eVar 1) (eBin dIxA (eVar 0) (eC (.int 2)))))
    (sSeq (sIf (bVal (eBin dEq (eVar 3) (eC (.int 0))))
    (sRaiseX 3 0 ["told"] xv_ZeroDivisor (eNil))
    (sNil))
    (sSeq (sIf (bOr (bVal (eBin dIs (eVar 2) (eC .non))) (bVal (eBin dIs (eVar 3) (eC .non))))
    (sRet (eMakeF 8 ["rank"] (eCons (eC (.int 1)) (eNil))))
    (sNil))
    (sRet (eStat 8 1 m_Truth_of (eCons (eBin dEq (eBin dDiv (eVar 2) (eVar 3)) (eBin dIxA (eVar 0) (eC (.int 3)))) (eNil)))))))
def m_quotient : List D → MH → Res D := fnB 4 b_quotient
theorem ok_quotient (T : Txt P w K mg ad fd) : FnOk P w K mg base (L2N.CX P w) 9 (ad 24) (fd 24) ["condition", "row"] (spD ⟨K, ad⟩ 2 m_quotient) := by
  refine fn_ok2 T.F24 sc_quotient fun cdv A outer s H E hr tk po => ?_
  have hu := hr.units
  have hu1 := hu_of hr
  exact ds_cons (ds_set (i := 2) sc_quotient.nd (de_ixA rfl hu1 (de_v 1) (de_ixA rfl hu1 (de_v 0) (de_int))))
    (ds_cons (ds_set (i := 3) sc_quotient.nd (de_ixA rfl hu1 (de_v 1) (de_ixA rfl hu1 (de_v 0) (de_int))))
    (ds_cons (ds_if (dt_eq rfl hu (de_v 3) (de_int))
    (ds_one (ds_raiseX0 T.ox3 T.oi3 T.ot3 (ok_ZeroDivisor___init__ T) (hr.mono (by decide)) tk T.b4 T.g3))
    (ds_nil))
    (ds_cons (ds_if (dt_w (dw_or (dt_is (de_v 2) (de_non)) (dw_or1 (dt_is (de_v 3) (de_non)))))
    (ds_one (ds_ret (de_makeF (c := 8) (fs := ["rank"]) T.mk8 (ok_Truth___init__ T) (hr.mono (by decide)) tk T.g8 T.b9 (de_cons (de_int) (de_nil)))))
    (ds_nil))
    (ds_one (ds_ret (de_sm (c := 8) T.sm10.choose_spec T.g8 (ok_Truth_of T) (hr.mono (by decide)) tk T.b10 (de_cons (de_eq rfl hu (de_div (de_v 2) (de_v 3)) (de_ixA rfl hu1 (de_v 0) (de_int))) (de_nil))))))))
end
section
variable {P : Program} {w : World} {K : PySem.W.Frag} {mg : Str → Option Value} {base : Heap} {ad : Nat → Addr} {fd : Nat → FuncData}
def b_truth (self : List D → MH → Res D) : SM :=
    sSeq (sSet 2 (eBin dIxA (eVar 0) (eC (.int 0))))
    (sSeq (sIf (bVal (eBin dEq (eVar 2) (eC (.str "always"))))
    (sRet (eMakeF 8 ["rank"] (eCons (eC (.int 2)) (eNil))))
    (sNil))
    (sSeq (sIf (bVal (eBin dEq (eVar 2) (eC (.str "not"))))
    (sRet (eOwn1 8 m_Truth___invert__ (eCall 2 self (eCons (eBin dIxA (eVar 0) (eC (.int 1))) (eCons (eVar 1) (eNil))))))
    (sNil))
    (sSeq (sIf (bVal (eBin dInA (eVar 2) (eC c_JOINTS)))
    (sRet (eCall 2 (m_joined self) (eCons (eVar 0) (eCons (eVar 1) (eNil)))))
    (sNil))
    (sSeq (sIf (bVal (eBin dEq (eVar 2) (eC (.str "quotient"))))
    (sRet (eCall 2 m_quotient (eCons (eVar 0) (eCons (eVar 1) (eNil)))))
    (sNil))
    (sSeq (sSet 3 (eBin dIxA (eVar 1) (eBin dIxA (eVar 0) (eC (.int 1)))))
    (sSeq (sIf (bVal (eBin dEq (eVar 2) (eC (.str "unknown"))))
    (sRet (eStat 8 1 m_Truth_of (eCons (eBin dIs (eVar 3) (eC .non)) (eNil))))
    (sNil))
    (sSeq (sIf (bVal (eBin dIs (eVar 3) (eC .non)))
    (sRet (eMakeF 8 ["rank"] (eCons (eC (.int 1)) (eNil))))
    (sNil))
    (sSeq (sIf (bVal (eBin dEq (eVar 2) (eC (.str "equal"))))
    (sRet (eStat 8 1 m_Truth_of (eCons (eBin dEq (eVar 3) (eBin dIxA (eVar 0) (eC (.int 2)))) (eNil))))
    (sNil))
    (sRet (eStat 8 1 m_Truth_of (eCons (eBin dLt (eVar 3) (eBin dIxA (eVar 0) (eC (.int 2)))) (eNil))))))))))))
def m_truth : Nat → List D → MH → Res D
  | 0 => fun _ _ => .bad
  | n + 1 => fnB 4 (b_truth (m_truth n))
theorem ok_truth (T : Txt P w K mg ad fd) : ∀ n : Nat, FnOk P w K mg base (L2N.CX P w) (12 + 2 * n) (ad 25) (fd 25) ["condition", "row"] (spD ⟨K, ad⟩ 2 (m_truth n))
  | 0 => fn_bad _
  | n + 1 => by
    have ih := ok_truth T n
    show FnOk _ _ _ _ _ _ (12 + 2 * n + 1 + 1) _ _ _ _
    refine fn_ok2 T.F25 sc_truth fun cdv A outer s H E hr tk po => ?_
    have hu := hr.units
    have hu1 := hu_of hr
    exact ds_cons (ds_set (i := 2) sc_truth.nd (de_ixA rfl hu1 (de_v 0) (de_int)))
        (ds_cons (ds_if (dt_eq rfl hu (de_v 2) (de_str))
        (ds_one (ds_ret (de_makeF (c := 8) (fs := ["rank"]) T.mk8 (ok_Truth___init__ T) (hr.mono (by (try simp only [Nat.add_eq]); omega)) tk T.g8 T.b9 (de_cons (de_int) (de_nil)))))
        (ds_nil))
        (ds_cons (ds_if (dt_eq rfl hu (de_v 2) (de_str))
        (ds_one (ds_ret (de_inv (c := 8) (de_call (ih) (hr.mono (by (try simp only [Nat.add_eq]); omega)) tk T.g25 T.F25.kp T.b25 (de_cons (de_ixA rfl hu1 (de_v 0) (de_int)) (de_cons (de_v 1) (de_nil)))) T.om17 T.of17 (ok_Truth___invert__ T) (hr.mono (by (try simp only [Nat.add_eq]); omega)) tk T.b17)))
        (ds_nil))
        (ds_cons (ds_if (dt_inA rfl hu1 (de_v 2) (de_c (pe_glob (v := .ref (ad 22)) rfl T.g22 rfl) T.r22))
        (ds_one (ds_ret (de_call (ok_joined T ih) (hr.mono (by (try simp only [Nat.add_eq]); omega)) tk T.g23 T.F23.kp T.b23 (de_cons (de_v 0) (de_cons (de_v 1) (de_nil))))))
        (ds_nil))
        (ds_cons (ds_if (dt_eq rfl hu (de_v 2) (de_str))
        (ds_one (ds_ret (de_call (ok_quotient T) (hr.mono (by (try simp only [Nat.add_eq]); omega)) tk T.g24 T.F24.kp T.b24 (de_cons (de_v 0) (de_cons (de_v 1) (de_nil))))))
        (ds_nil))
        (ds_cons (ds_set (i := 3) sc_truth.nd (de_ixA rfl hu1 (de_v 1) (de_ixA rfl hu1 (de_v 0) (de_int))))
        (ds_cons (ds_if (dt_eq rfl hu (de_v 2) (de_str))
        (ds_one (ds_ret (de_sm (c := 8) T.sm10.choose_spec T.g8 (ok_Truth_of T) (hr.mono (by (try simp only [Nat.add_eq]); omega)) tk T.b10 (de_cons (de_is (de_v 3) (de_non)) (de_nil)))))
        (ds_nil))
        (ds_cons (ds_if (dt_is (de_v 3) (de_non))
        (ds_one (ds_ret (de_makeF (c := 8) (fs := ["rank"]) T.mk8 (ok_Truth___init__ T) (hr.mono (by (try simp only [Nat.add_eq]); omega)) tk T.g8 T.b9 (de_cons (de_int) (de_nil)))))
        (ds_nil))
        (ds_cons (ds_if (dt_eq rfl hu (de_v 2) (de_str))
        (ds_one (ds_ret (de_sm (c := 8) T.sm10.choose_spec T.g8 (ok_Truth_of T) (hr.mono (by (try simp only [Nat.add_eq]); omega)) tk T.b10 (de_cons (de_eq rfl hu (de_v 3) (de_ixA rfl hu1 (de_v 0) (de_int))) (de_nil)))))
        (ds_nil))
        (ds_one (ds_ret (de_sm (c := 8) T.sm10.choose_spec T.g8 (ok_Truth_of T) (hr.mono (by (try simp only [Nat.add_eq]); omega)) tk T.b10 (de_cons (de_lt (de_v 3) (de_ixA rfl hu1 (de_v 0) (de_int))) (de_nil)))))))))))))
end
section
variable {P : Program} {w : World} {K : PySem.W.Frag} {mg : Str → Option Value} {base : Heap} {ad : Nat → Addr} {fd : Nat → FuncData}
def b_group : SM :=
    sSeq (sSet 2 (eBin dIxA (eVar 1) (eBin dIxA (eVar 0) (eC (.int 2)))))
    (sSeq (sIf (bOr (bVal (eBin dIs (eVar 2) (eC .non))) (bVal (eBin dLt (eUn (dFld [8] "rank") (eCall 2 (m_truth 20) (eCons (eBin dIxA (eVar 0) (eC (.int 3))) (eCons (eVar 1) (eNil))))) (eC (.int 2)))))
    (sRet (eC .non))
    (sNil))
    (sRet (eVar 2)))
def m_group : List D → MH → Res D := frzP (fnB 3 b_group)
theorem ok_group (T : Txt P w K mg ad fd) : FnOk P w K mg base (L2N.CX P w) 55 (ad 26) (fd 26) ["rule", "row"] (spD ⟨K, ad⟩ 2 m_group) := by
  refine fn_frzP ?_
  refine fn_ok2 T.F26 sc_group fun cdv A outer s H E hr tk po => ?_
  have hu := hr.units
  have hu1 := hu_of hr
  exact ds_cons (ds_set (i := 2) sc_group.nd (de_ixA rfl hu1 (de_v 1) (de_ixA rfl hu1 (de_v 0) (de_int))))
    (ds_cons (ds_if (dt_w (dw_or (dt_is (de_v 2) (de_non)) (dw_or1 (dt_lt (de_fld (g := ⟨K, ad⟩) T.cf_rank (de_call (ok_truth T 20) (hr.mono (by decide)) tk T.g25 T.F25.kp T.b25 (de_cons (de_ixA rfl hu1 (de_v 0) (de_int)) (de_cons (de_v 1) (de_nil))))) (de_int)))))
    (ds_one (ds_ret (de_non)))
    (ds_nil))
    (ds_one (ds_ret (de_v 2))))
end
section
variable {P : Program} {w : World} {K : PySem.W.Frag} {mg : Str → Option Value} {base : Heap} {ad : Nat → Addr} {fd : Nat → FuncData}
def b_groups_of : SM :=
    sRet (eDcP (iRows) (tgName 1) (bYes) (eVar 1) (eCall 2 m_group (eCons (eVar 0) (eCons (eVar 1) (eNil)))) [1])
def m_groups_of : List D → MH → Res D := fnB 2 b_groups_of
theorem ok_groups_of (T : Txt P w K mg ad fd) : FnOk P w K mg base (L2N.CX P w) 58 (ad 27) (fd 27) ["rule"] (spD ⟨K, ad⟩ 1 m_groups_of) := by
  refine fn_ok2 T.F27 sc_groups_of fun cdv A outer s H E hr tk po => ?_
  have hu := hr.units
  have hu1 := hu_of hr
  exact ds_one (ds_ret (de_dcRows (own := [("row", 1)]) rfl (hu8b hr) T.ar (hr.mono (by decide)) sc_groups_of.nd (blkOk_by (N := ["rule", "row"]) (sc := defScope s_groups_of) (by decide +kernel)) (tgName_sim 1) (tgName_own 1 (by decide)) (fun _ _ _ _ _ => pg_name (i := 1) sc_groups_of.nd rfl (by first | exact Or.inl rfl | exact Or.inr rfl)) (fun _ _ _ _ _ => dts_nil) (fun _ _ _ _ _ => de_v 1) (fun _ _ _ _ _ => de_call (ok_group T) (hr.mono (by decide)) takesN0 T.g26 T.F26.kp T.b26 (de_cons (de_v 0) (de_cons (de_v 1) (de_nil))))))
end
section
variable {P : Program} {w : World} {K : PySem.W.Frag} {mg : Str → Option Value} {base : Heap} {ad : Nat → Addr} {fd : Nat → FuncData}
def lp_arbiter_gap_1 : SM :=
    sSeq (sSet 8 (eBin dEq (eBin dIxP (eVar 4) (eVar 7)) (eBin dIxP (eVar 4) (eVar 6))))
    (sSeq (sSet 9 (eAnd (eBin dIsNot (eBin dIxA (eVar 6) (eVar 1)) (eC .non)) (eAnd (eBin dInP (eVar 7) (eVar 5)) (eBin dEq (eBin dIxP (eVar 5) (eVar 7)) (eBin dIxA (eVar 6) (eVar 1))))))
    (sIf (bVal (eBin dNe (eVar 8) (eAnd (eVar 9) (eOr (eVar 8) (eNot (eVar 3))))))
    (sRet (eTup (eCons (eVar 6) (eCons (eVar 7) (eNil)))))
    (sNil)))
def lp_arbiter_gap_2 : SM :=
    sIf (bVal (eBin dIsNot (eBin dIxP (eVar 4) (eVar 6)) (eC .non)))
    (sForQ 4 (tgName 7) lp_arbiter_gap_1)
    (sNil)
def b_arbiter_gap : SM :=
    sSeq (sSet 4 (eCall 1 m_groups_of (eCons (eVar 0) (eNil))))
    (sSeq (sLockP (nfE (eVar 4)) (sSet 5 (eDcP (iKeysPD (eVar 4)) (tgName 6) (bVal (eBin dEq (eUn (dFld [8] "rank") (eCall 2 (m_truth 20) (eCons (eVar 2) (eCons (eVar 6) (eNil))))) (eC (.int 2)))) (eVar 6) (eBin dIxA (eVar 6) (eVar 1)) [6])))
    (sSeq (sForQ 4 (tgName 6) lp_arbiter_gap_2)
    (sRet (eC .non))))
def m_arbiter_gap : List D → MH → Res D := frzP (fnB 10 b_arbiter_gap)
theorem ok_arbiter_gap (T : Txt P w K mg ad fd) : FnOk P w K mg base (L2N.CX P w) 61 (ad 28) (fd 28) ["rule", "column", "condition", "again"] (spD ⟨K, ad⟩ 4 m_arbiter_gap) := by
  refine fn_frzP ?_
  refine fn_ok2 T.F28 sc_arbiter_gap fun cdv A outer s H E hr tk po => ?_
  have hu := hr.units
  have hu1 := hu_of hr
  exact ds_cons (ds_set (i := 4) sc_arbiter_gap.nd (de_call (ok_groups_of T) (hr.mono (by decide)) tk T.g27 T.F27.kp T.b27 (de_cons (de_v 0) (de_nil))))
    (ds_cons (ds_lockP (ds_setDcP (own := [("row", 6)]) (i := 5) rfl (hu8b hr) (by intro p h; exact absurd h (by simp)) sc_arbiter_gap.nd (pi_keysP (de_v 4)) (itSim_keysP) (blkOk_by (N := ["rule", "column", "condition", "again", "groups", "held", "row", "other", "due", "near"]) (sc := defScope s_arbiter_gap) (by decide +kernel)) (tgName_sim 6) (tgName_own 6 (by decide)) (fun _ _ _ _ _ => pg_name (i := 6) sc_arbiter_gap.nd rfl (by first | exact Or.inl rfl | exact Or.inr rfl)) (fun _ _ _ _ _ => dts_one (dt_eq rfl hu (de_fld (g := ⟨K, ad⟩) T.cf_rank (de_call (ok_truth T 20) (hr.mono (by decide)) takesN0 T.g25 T.F25.kp T.b25 (de_cons (de_v 2) (de_cons (de_v 6) (de_nil))))) (de_int))) (fun _ _ _ _ _ => de_v 6) (fun _ _ _ _ _ => de_ixA rfl hu1 (de_v 6) (de_v 1)) (sw_trueD rfl rfl rfl (by decide +kernel))))
    (ds_cons (ds_forQ 4 (fun _ => pin_nil) po rfl (pe_var (i := 4) rfl (by first | exact Or.inl rfl | exact Or.inr (Or.inl rfl) | exact Or.inr (Or.inr rfl)) (by decide) (by decide)) (pg_name (i := 6) sc_arbiter_gap.nd rfl (by first | exact Or.inl rfl | exact Or.inr rfl)) (tgName_sim 6)
    (ds_one (ds_if (dt_isnot (de_ixP rfl (hu8 hr) (de_v 4) (de_v 6)) (de_non))
    (ds_one (ds_forQ 4 (fun _ => pin_nil) po rfl (pe_var (i := 4) rfl (by first | exact Or.inl rfl | exact Or.inr (Or.inl rfl) | exact Or.inr (Or.inr rfl)) (by decide) (by decide)) (pg_name (i := 7) sc_arbiter_gap.nd rfl (by first | exact Or.inl rfl | exact Or.inr rfl)) (tgName_sim 7)
    (ds_cons (ds_set (i := 8) sc_arbiter_gap.nd (de_eq rfl hu (de_ixP rfl (hu8 hr) (de_v 4) (de_v 7)) (de_ixP rfl (hu8 hr) (de_v 4) (de_v 6))))
    (ds_cons (ds_set (i := 9) sc_arbiter_gap.nd (de_and (de_isnot (de_ixA rfl hu1 (de_v 6) (de_v 1)) (de_non)) (de_and (de_inP rfl (hu8 hr) (de_v 7) (de_v 5)) (de_one (de_eq rfl hu (de_ixP rfl (hu8 hr) (de_v 5) (de_v 7)) (de_ixA rfl hu1 (de_v 6) (de_v 1)))))))
    (ds_one (ds_if (dt_ne rfl hu (de_v 8) (de_and (de_v 9) (de_one (de_or (de_v 8) (de_one (de_not (de_v 3)))))))
    (ds_one (ds_ret (de_tup (de_cons (de_v 6) (de_cons (de_v 7) (de_nil))))))
    (ds_nil)))))))
    (ds_nil))))
    (ds_one (ds_ret (de_non)))))
end
section
variable {P : Program} {w : World} {K : PySem.W.Frag} {mg : Str → Option Value} {base : Heap} {ad : Nat → Addr} {fd : Nat → FuncData}
def lp_law_bounds_1 : SM :=
    sSeq (sSet 8 (eBin dIxA (eVar 0) (eVar 7)))
    (sSeq (sSet 9 (eLc (iSeq (eVar 5)) (tgName 6) (bVal (eBin dNe (eCall 5 m_law_found (eCons (eVar 0) (eCons (eVar 1) (eCons (eVar 2) (eCons (eVar 6) (eCons (eVar 7) (eNil))))))) (eBin dEq (eBin dIxA (eVar 0) (eVar 6)) (eVar 8)))) (eVar 6) [6]))
    (sSeq (sIf (bVal (eBin dEq (eVar 9) (eFro (eNil))))
    (sDo (eApp (eVar 4) (eVar 7)))
    (sNil))
    (sIf (bVal (eBin dIsNot (eBin dIxA (eVar 0) (eVar 7)) (eC .non)))
    (sSeq (sDo (eApp (eVar 3) (eVar 7)))
    (sIf (bVal (eBin dNe (eVar 9) (eFro (eNil))))
    (sRet (eC .non))
    (sNil)))
    (sNil))))
def b_law_bounds : SM :=
    sSeq (sSet 3 (eLst (eNil)))
    (sSeq (sSet 4 (eLst (eNil)))
    (sSeq (sSet 5 (eLc (iRange1 (eC (.int 64))) (tgName 6) (bVal (eBin dIsNot (eBin dIxA (eVar 0) (eVar 6)) (eC .non))) (eVar 6) [6]))
    (sSeq (sForI (iRange1 (eC (.int 64))) (tgName 7) lp_law_bounds_1)
    (sRet (eLst (eCons (eVar 3) (eCons (eVar 4) (eNil))))))))
def m_law_bounds : List D → MH → Res D := frzP (fnB 10 b_law_bounds)
theorem ok_law_bounds (T : Txt P w K mg ad fd) : FnOk P w K mg base (L2N.CX P w) 6 (ad 44) (fd 44) ["_law_groups", "_law_places", "_law_again"] (spD ⟨K, ad⟩ 3 m_law_bounds) := by
  refine fn_frzP ?_
  refine fn_ok2 T.F44 sc_law_bounds fun cdv A outer s H E hr tk po => ?_
  have hu := hr.units
  have hu1 := hu_of hr
  exact ds_cons (ds_set (i := 3) sc_law_bounds.nd (de_lst (de_nil)))
    (ds_cons (ds_set (i := 4) sc_law_bounds.nd (de_lst (de_nil)))
    (ds_cons (ds_setLc (i := 5) (hpin := by intro p h; exact absurd h (by simp)) (own := [("_law_row_here", 6)]) sc_law_bounds.nd (pi_range1 rfl T.n_range (de_cons (de_int) de_nil)) (itSim_range1) (blkOk_by (N := ["_law_groups", "_law_places", "_law_again", "_law_least", "_law_most", "_law_owners", "_law_row_here", "_law_other", "_law_own", "_law_wrong"]) (sc := defScope s_law_bounds) (by decide +kernel)) (tgName_sim 6) (tgName_own 6 (by decide)) (fun _ _ _ _ _ => pg_name (i := 6) sc_law_bounds.nd rfl (by first | exact Or.inl rfl | exact Or.inr rfl)) (fun _ _ _ _ _ => dts_one (dt_isnot (de_ixA rfl hu1 (de_v 0) (de_v 6)) (de_non))) (fun _ _ _ _ _ => de_v 6) (sw_true rfl rfl rfl (by decide +kernel)))
    (ds_cons (ds_for (fun _ => pin_nil) po rfl (pi_range1 rfl T.n_range (de_cons (de_int) de_nil)) (itSim_range1) (pg_name (i := 7) sc_law_bounds.nd rfl (by first | exact Or.inl rfl | exact Or.inr rfl)) (tgName_sim 7)
    (ds_cons (ds_set (i := 8) sc_law_bounds.nd (de_ixA rfl hu1 (de_v 0) (de_v 7)))
    (ds_cons (ds_setLc (i := 9) (hpin := by intro p h; exact absurd h (by simp)) (own := [("_law_row_here", 6)]) sc_law_bounds.nd (pi_or (pi_list (de_v 5)) (pi_tup (de_v 5))) (itSim_seq rfl) (blkOk_by (N := ["_law_groups", "_law_places", "_law_again", "_law_least", "_law_most", "_law_owners", "_law_row_here", "_law_other", "_law_own", "_law_wrong"]) (sc := defScope s_law_bounds) (by decide +kernel)) (tgName_sim 6) (tgName_own 6 (by decide)) (fun _ _ _ _ _ => pg_name (i := 6) sc_law_bounds.nd rfl (by first | exact Or.inl rfl | exact Or.inr rfl)) (fun _ _ _ _ _ => dts_one (dt_ne rfl hu (de_call (ok_law_found T) (hr.mono (by decide)) takesN0 T.g42 T.F42.kp T.b42 (de_cons (de_v 0) (de_cons (de_v 1) (de_cons (de_v 2) (de_cons (de_v 6) (de_cons (de_v 7) (de_nil))))))) (de_eq rfl hu (de_ixA rfl hu1 (de_v 0) (de_v 6)) (de_v 8)))) (fun _ _ _ _ _ => de_v 6) (sw_true rfl rfl rfl (by decide +kernel)))
    (ds_cons (ds_if (dt_eq rfl hu (de_v 9) (de_fro (de_nil)))
    (ds_one (ds_do (de_app (de_v 4) (de_v 7))))
    (ds_nil))
    (ds_one (ds_if (dt_isnot (de_ixA rfl hu1 (de_v 0) (de_v 7)) (de_non))
    (ds_cons (ds_do (de_app (de_v 3) (de_v 7)))
    (ds_one (ds_if (dt_ne rfl hu (de_v 9) (de_fro (de_nil)))
    (ds_one (ds_ret (de_non)))
    (ds_nil))))
    (ds_nil)))))))
    (ds_one (ds_ret (de_lst (de_cons (de_v 3) (de_cons (de_v 4) (de_nil)))))))))
end
section
variable {P : Program} {w : World} {K : PySem.W.Frag} {mg : Str → Option Value} {base : Heap} {ad : Nat → Addr} {fd : Nat → FuncData}
def lp_arbiter_bounds_1 : SM :=
    sSeq (sSet 7 (eBin dIxP (eVar 3) (eVar 5)))
    (sSeq (sIf (bOr (bVal (eBin dIs (eBin dIxA (eVar 5) (eVar 1)) (eC .non))) (bVal (eBin dNe (eDGet2 (eVar 6) (eVar 7) (eBin dIxA (eVar 5) (eVar 1))) (eBin dIxA (eVar 5) (eVar 1)))))
    (sRet (eC .non))
    (sNil))
    (sSetIx dSetD (eVar 6) (eVar 7) (eBin dIxA (eVar 5) (eVar 1))))
def b_arbiter_bounds : SM :=
    sSeq (sSet 3 (eCall 1 m_groups_of (eCons (eVar 0) (eNil))))
    (sSeq (sLockP (nfE (eVar 3)) (sSet 4 (eLc (iKeysPD (eVar 3)) (tgName 5) (bVal (eBin dIsNot (eBin dIxP (eVar 3) (eVar 5)) (eC .non))) (eVar 5) [5])))
    (sSeq (sSet 6 (eDNew))
    (sSeq (sForI (iSeq (eVar 4)) (tgName 5) lp_arbiter_bounds_1)
    (sSeq (sIf (bVal (eVar 2))
    (sRet (eTup (eCons (eVar 4) (eCons (eArgs (dListP mkF) (eCons (eVar 3) (eNil))) (eNil)))))
    (sNil))
    (sSeq (sSet 8 (eLockK (nfE (eVar 6)) (eDc (iItemsK (eVar 6)) (tgTup [7, 9]) (bYes) (eVar 9) (eVar 7) [7, 9])))
    (sSeq (sIf (bVal (eBin dLt (eArgs dLenD (eCons (eVar 8) (eNil))) (eArgs dLenD (eCons (eVar 6) (eNil)))))
    (sRet (eC .non))
    (sNil))
    (sRet (eTup (eCons (eVar 4) (eCons (eLockP (nfE (eVar 3)) (eLc (iKeysPD (eVar 3)) (tgName 5) (bVal (eBin dEq (eDGetN (eVar 8) (eBin dIxA (eVar 5) (eVar 1)) (eBin dIxP (eVar 3) (eVar 5))) (eBin dIxP (eVar 3) (eVar 5)))) (eVar 5) [5])) (eNil)))))))))))
def m_arbiter_bounds : List D → MH → Res D := frzP (fnB 10 b_arbiter_bounds)
theorem ok_arbiter_bounds (T : Txt P w K mg ad fd) : FnOk P w K mg base (L2N.CX P w) 61 (ad 29) (fd 29) ["rule", "column", "again"] (spD ⟨K, ad⟩ 3 m_arbiter_bounds) := by
  refine fn_frzP ?_
  refine fn_ok2 T.F29 sc_arbiter_bounds fun cdv A outer s H E hr tk po => ?_
  have hu := hr.units
  have hu1 := hu_of hr
  exact ds_cons (ds_set (i := 3) sc_arbiter_bounds.nd (de_call (ok_groups_of T) (hr.mono (by decide)) tk T.g27 T.F27.kp T.b27 (de_cons (de_v 0) (de_nil))))
    (ds_cons (ds_lockP (ds_setLc (i := 4) (hpin := by intro p h; exact absurd h (by simp)) (own := [("row", 5)]) sc_arbiter_bounds.nd (pi_keysP (de_v 3)) (itSim_keysP) (blkOk_by (N := ["rule", "column", "again", "groups", "least", "row", "places", "own", "owners", "place"]) (sc := defScope s_arbiter_bounds) (by decide +kernel)) (tgName_sim 5) (tgName_own 5 (by decide)) (fun _ _ _ _ _ => pg_name (i := 5) sc_arbiter_bounds.nd rfl (by first | exact Or.inl rfl | exact Or.inr rfl)) (fun _ _ _ _ _ => dts_one (dt_isnot (de_ixP rfl (hu8 hr) (de_v 3) (de_v 5)) (de_non))) (fun _ _ _ _ _ => de_v 5) (sw_true rfl rfl rfl (by decide +kernel))))
    (ds_cons (ds_set (i := 6) sc_arbiter_bounds.nd (de_dnew))
    (ds_cons (ds_for (fun _ => pin_nil) po rfl (pi_or (pi_list (de_v 4)) (pi_tup (de_v 4))) (itSim_seq rfl) (pg_name (i := 5) sc_arbiter_bounds.nd rfl (by first | exact Or.inl rfl | exact Or.inr rfl)) (tgName_sim 5)
    (ds_cons (ds_set (i := 7) sc_arbiter_bounds.nd (de_ixP rfl (hu8 hr) (de_v 3) (de_v 5)))
    (ds_cons (ds_if (dt_w (dw_or (dt_is (de_ixA rfl hu1 (de_v 5) (de_v 1)) (de_non)) (dw_or1 (dt_ne rfl hu (de_dget2 hu1 (de_v 6) (de_v 7) (de_ixA rfl hu1 (de_v 5) (de_v 1))) (de_ixA rfl hu1 (de_v 5) (de_v 1))))))
    (ds_one (ds_ret (de_non)))
    (ds_nil))
    (ds_one (ds_setD hu1 (de_v 6) (de_v 7) (de_ixA rfl hu1 (de_v 5) (de_v 1)))))))
    (ds_cons (ds_if (dt_val (de_v 2))
    (ds_one (ds_ret (de_tup (de_cons (de_v 4) (de_cons (de_listP rfl mkF_ok (de_cons (de_v 3) (de_nil)) T.n_list) (de_nil))))))
    (ds_nil))
    (ds_cons (ds_set (i := 8) sc_arbiter_bounds.nd (de_lockK (de_dc (own := [("own", 7), ("place", 9)]) sc_arbiter_bounds.nd (pi_items (de_v 6)) (itSim_itemsK) (blkOk_by (N := ["rule", "column", "again", "groups", "least", "row", "places", "own", "owners", "place"]) (sc := defScope s_arbiter_bounds) (by decide +kernel)) (tgTup_sim rfl [7, 9]) (tgTup_own [7, 9] (by decide)) (fun _ _ _ _ _ => pg_tup rfl (pgs_cons (pg_name (i := 7) sc_arbiter_bounds.nd rfl (by first | exact Or.inl rfl | exact Or.inr rfl)) (pgs_cons (pg_name (i := 9) sc_arbiter_bounds.nd rfl (by first | exact Or.inl rfl | exact Or.inr rfl)) (pgs_nil)))) (fun _ _ _ _ _ => dts_nil) (fun _ _ _ _ _ => de_v 9) (fun _ _ _ _ _ => de_v 7))))
    (ds_cons (ds_if (dt_lt (de_lenD (de_cons (de_v 8) (de_nil)) T.n_len) (de_lenD (de_cons (de_v 6) (de_nil)) T.n_len))
    (ds_one (ds_ret (de_non)))
    (ds_nil))
    (ds_one (ds_ret (de_tup (de_cons (de_v 4) (de_cons (de_lockP (de_lc (own := [("row", 5)]) sc_arbiter_bounds.nd (pi_keysP (de_v 3)) (itSim_keysP) (blkOk_by (N := ["rule", "column", "again", "groups", "least", "row", "places", "own", "owners", "place"]) (sc := defScope s_arbiter_bounds) (by decide +kernel)) (tgName_sim 5) (tgName_own 5 (by decide)) (fun _ _ _ _ _ => pg_name (i := 5) sc_arbiter_bounds.nd rfl (by first | exact Or.inl rfl | exact Or.inr rfl)) (fun _ _ _ _ _ => dts_one (dt_eq rfl hu (de_dgetN hu1 (de_v 8) (de_ixA rfl hu1 (de_v 5) (de_v 1)) (de_ixP rfl (hu8 hr) (de_v 3) (de_v 5))) (de_ixP rfl (hu8 hr) (de_v 3) (de_v 5)))) (fun _ _ _ _ _ => de_v 5))) (de_nil))))))))))))
end
section
variable {P : Program} {w : World} {K : PySem.W.Frag} {mg : Str → Option Value} {base : Heap} {ad : Nat → Addr} {fd : Nat → FuncData}
def b_law : SM :=
    sSeq (sSet 1 (eCall 1 m_law_box (eCons (eVar 0) (eNil))))
    (sSeq (sSet 2 (eCall 2 m_law_names (eCons (eVar 1) (eCons (eC (.int 2)) (eNil)))))
    (sSeq (sSet 3 (eTup (eCons (eBin dIxA (eVar 2) (eC (.int 1))) (eCons (eBin dIxA (eVar 2) (eC (.int 0))) (eCons (eCall 2 m_law_draw (eCons (eVar 1) (eCons (eC (.int 3)) (eNil)))) (eCons (eCall 3 (m_law_condition 5) (eCons (eVar 1) (eCons (eC (.int 3)) (eCons (eC (.int 0)) (eNil))))) (eNil)))))))
    (sSeq (sSet 4 (eBin dIxA (eVar 3) (eC (.int 2))))
    (sSeq (sIf (bVal (eBin dEq (eCall 2 m_law_draw (eCons (eVar 1) (eCons (eC (.int 2)) (eNil)))) (eC (.int 1))))
    (sSet 4 (eCall 2 m_law_draw (eCons (eVar 1) (eCons (eC (.int 3)) (eNil)))))
    (sNil))
    (sSeq (sSet 5 (eBin dEq (eCall 2 m_law_draw (eCons (eVar 1) (eCons (eC (.int 2)) (eNil)))) (eC (.int 0))))
    (sSeq (sSet 6 (eCall 2 m_law_index_condition (eCons (eVar 1) (eCons (eVar 3) (eNil)))))
    (sSeq (sSet 7 (eCall 0 m_law_every eNil))
    (sSeq (sSet 8 (eLc (iSeq (eVar 7)) (tgName 9) (bYes) (eCall 2 m_law_group (eCons (eVar 3) (eCons (eVar 9) (eNil)))) [9]))
    (sSeq (sSet 10 (eLc (iSeq (eVar 7)) (tgName 9) (bYes) (eBin dIxA (eVar 9) (eVar 4)) [9]))
    (sSeq (sSet 11 (eLc (iSeq (eVar 7)) (tgName 9) (bYes) (eBin dEq (eCall 2 (m_law_truth 20) (eCons (eVar 6) (eCons (eVar 9) (eNil)))) (eC (.int 2))) [9]))
    (sSeq (sSet 12 (eCall 4 m_law_gap (eCons (eVar 8) (eCons (eVar 10) (eCons (eVar 11) (eCons (eVar 5) (eNil)))))))
    (sSeq (sSet 13 (eC .non))
    (sSeq (sIf (bVal (eBin dIsNot (eVar 12) (eC .non)))
    (sSet 13 (eTup (eCons (eBin dIxA (eVar 7) (eBin dIxA (eVar 12) (eC (.int 0)))) (eCons (eBin dIxA (eVar 7) (eBin dIxA (eVar 12) (eC (.int 1)))) (eNil)))))
    (sNil))
    (sSeq (sIf (bNot (bVal (eCall 2 (m_law_alike 8) (eCons (eCall 4 m_arbiter_gap (eCons (eVar 3) (eCons (eVar 4) (eCons (eVar 6) (eCons (eVar 5) (eNil)))))) (eCons (eVar 13) (eNil))))))
    (sRet (eC (.bl false)))
    (sNil))
    (sSeq (sSet 14 (eCall 3 m_law_bounds (eCons (eVar 8) (eCons (eVar 10) (eCons (eVar 5) (eNil))))))
    (sSeq (sIf (bVal (eBin dIs (eVar 14) (eC .non)))
    (sRet (eAnd (eBin dIsNot (eVar 12) (eC .non)) (eBin dIs (eCall 3 m_arbiter_bounds (eCons (eVar 3) (eCons (eVar 4) (eCons (eVar 5) (eNil))))) (eC .non))))
    (sNil))
    (sSeq (sSet 15 (eCall 3 m_arbiter_bounds (eCons (eVar 3) (eCons (eVar 4) (eCons (eVar 5) (eNil))))))
    (sSeq (sIf (bNot (bVal (eCall 2 (m_law_alike 8) (eCons (eVar 15) (eCons (eTup (eCons (eLc (iSeq (eBin dIxA (eVar 14) (eC (.int 0)))) (tgName 16) (bYes) (eBin dIxA (eVar 7) (eVar 16)) [16]) (eCons (eLc (iSeq (eBin dIxA (eVar 14) (eC (.int 1)))) (tgName 16) (bYes) (eBin dIxA (eVar 7) (eVar 16)) [16]) (eNil)))) (eNil))))))
    (sRet (eC (.bl false)))
    (sNil))
    (sSeq (sSet 17 (eBin (dCat mkF) (eLc (iSeq (eBin dIxA (eVar 14) (eC (.int 0)))) (tgName 16) (bNot (bVal (eBin dIxA (eVar 11) (eVar 16)))) (eVar 16) [16]) (eLc (iRange1 (eC (.int 64))) (tgName 16) (bAnd (bVal (eBin dIxA (eVar 11) (eVar 16))) (bVal (eBin dNotInA (eVar 16) (eBin dIxA (eVar 14) (eC (.int 1)))))) (eVar 16) [16])))
    (sRet (eBin dEq (eBin dEq (eVar 17) (eFro (eNil))) (eBin dIs (eVar 12) (eC .non)))))))))))))))))))))))
def m_law : List D → MH → Res D := fnB 18 b_law
theorem ok_law (T : Txt P w K mg ad fd) : FnOk P w K mg base (L2N.CX P w) 64 (ad 45) (fd 45) ["_law_script"] (spD ⟨K, ad⟩ 1 m_law) := by
  refine fn_ok2 T.F45 sc_law fun cdv A outer s H E hr tk po => ?_
  have hu := hr.units
  have hu1 := hu_of hr
  exact ds_cons (ds_set (i := 1) sc_law.nd (de_call (ok_law_box T) (hr.mono (by decide)) tk T.g30 T.F30.kp T.b30 (de_cons (de_v 0) (de_nil))))
    (ds_cons (ds_set (i := 2) sc_law.nd (de_call (ok_law_names T) (hr.mono (by decide)) tk T.g32 T.F32.kp T.b32 (de_cons (de_v 1) (de_cons (de_int) (de_nil)))))
    (ds_cons (ds_set (i := 3) sc_law.nd (de_tup (de_cons (de_ixA rfl hu1 (de_v 2) (de_int)) (de_cons (de_ixA rfl hu1 (de_v 2) (de_int)) (de_cons (de_call (ok_law_draw T) (hr.mono (by decide)) tk T.g31 T.F31.kp T.b31 (de_cons (de_v 1) (de_cons (de_int) (de_nil)))) (de_cons (de_call (ok_law_condition T 5) (hr.mono (by decide)) tk T.g34 T.F34.kp T.b34 (de_cons (de_v 1) (de_cons (de_int) (de_cons (de_int) (de_nil))))) (de_nil)))))))
    (ds_cons (ds_set (i := 4) sc_law.nd (de_ixA rfl hu1 (de_v 3) (de_int)))
    (ds_cons (ds_if (dt_eq rfl hu (de_call (ok_law_draw T) (hr.mono (by decide)) tk T.g31 T.F31.kp T.b31 (de_cons (de_v 1) (de_cons (de_int) (de_nil)))) (de_int))
    (ds_one (ds_set (i := 4) sc_law.nd (de_call (ok_law_draw T) (hr.mono (by decide)) tk T.g31 T.F31.kp T.b31 (de_cons (de_v 1) (de_cons (de_int) (de_nil))))))
    (ds_nil))
    (ds_cons (ds_set (i := 5) sc_law.nd (de_eq rfl hu (de_call (ok_law_draw T) (hr.mono (by decide)) tk T.g31 T.F31.kp T.b31 (de_cons (de_v 1) (de_cons (de_int) (de_nil)))) (de_int)))
    (ds_cons (ds_set (i := 6) sc_law.nd (de_call (ok_law_index_condition T) (hr.mono (by decide)) tk T.g41 T.F41.kp T.b41 (de_cons (de_v 1) (de_cons (de_v 3) (de_nil)))))
    (ds_cons (ds_set (i := 7) sc_law.nd (de_call0 (ok_law_every T) (hr.mono (by decide)) tk T.g39 T.F39.kp T.b39))
    (ds_cons (ds_setLc (i := 8) (hpin := by intro p h; exact absurd h (by simp)) (own := [("_law_row_here", 9)]) sc_law.nd (pi_or (pi_list (de_v 7)) (pi_tup (de_v 7))) (itSim_seq rfl) (blkOk_by (N := ["_law_script", "_law_box_here", "_law_names_here", "_law_rule", "_law_column", "_law_again", "_law_condition_here", "_law_every_here", "_law_groups", "_law_row_here", "_law_places", "_law_held", "_law_gap_here", "_law_due", "_law_bounds_here", "_law_told", "_law_k", "_law_out"]) (sc := defScope s_law) (by decide +kernel)) (tgName_sim 9) (tgName_own 9 (by decide)) (fun _ _ _ _ _ => pg_name (i := 9) sc_law.nd rfl (by first | exact Or.inl rfl | exact Or.inr rfl)) (fun _ _ _ _ _ => dts_nil) (fun _ _ _ _ _ => de_call (ok_law_group T) (hr.mono (by decide)) takesN0 T.g38 T.F38.kp T.b38 (de_cons (de_v 3) (de_cons (de_v 9) (de_nil)))) (sw_true rfl rfl rfl (by decide +kernel)))
    (ds_cons (ds_setLc (i := 10) (hpin := by intro p h; exact absurd h (by simp)) (own := [("_law_row_here", 9)]) sc_law.nd (pi_or (pi_list (de_v 7)) (pi_tup (de_v 7))) (itSim_seq rfl) (blkOk_by (N := ["_law_script", "_law_box_here", "_law_names_here", "_law_rule", "_law_column", "_law_again", "_law_condition_here", "_law_every_here", "_law_groups", "_law_row_here", "_law_places", "_law_held", "_law_gap_here", "_law_due", "_law_bounds_here", "_law_told", "_law_k", "_law_out"]) (sc := defScope s_law) (by decide +kernel)) (tgName_sim 9) (tgName_own 9 (by decide)) (fun _ _ _ _ _ => pg_name (i := 9) sc_law.nd rfl (by first | exact Or.inl rfl | exact Or.inr rfl)) (fun _ _ _ _ _ => dts_nil) (fun _ _ _ _ _ => de_ixA rfl hu1 (de_v 9) (de_v 4)) (sw_true rfl rfl rfl (by decide +kernel)))
    (ds_cons (ds_set (i := 11) sc_law.nd (de_lc (own := [("_law_row_here", 9)]) sc_law.nd (pi_or (pi_list (de_v 7)) (pi_tup (de_v 7))) (itSim_seq rfl) (blkOk_by (N := ["_law_script", "_law_box_here", "_law_names_here", "_law_rule", "_law_column", "_law_again", "_law_condition_here", "_law_every_here", "_law_groups", "_law_row_here", "_law_places", "_law_held", "_law_gap_here", "_law_due", "_law_bounds_here", "_law_told", "_law_k", "_law_out"]) (sc := defScope s_law) (by decide +kernel)) (tgName_sim 9) (tgName_own 9 (by decide)) (fun _ _ _ _ _ => pg_name (i := 9) sc_law.nd rfl (by first | exact Or.inl rfl | exact Or.inr rfl)) (fun _ _ _ _ _ => dts_nil) (fun _ _ _ _ _ => de_eq rfl hu (de_call (ok_law_truth T 20) (hr.mono (by decide)) takesN0 T.g37 T.F37.kp T.b37 (de_cons (de_v 6) (de_cons (de_v 9) (de_nil)))) (de_int))))
    (ds_cons (ds_set (i := 12) sc_law.nd (de_call (ok_law_gap T) (hr.mono (by decide)) tk T.g43 T.F43.kp T.b43 (de_cons (de_v 8) (de_cons (de_v 10) (de_cons (de_v 11) (de_cons (de_v 5) (de_nil)))))))
    (ds_cons (ds_set (i := 13) sc_law.nd (de_non))
    (ds_cons (ds_if (dt_isnot (de_v 12) (de_non))
    (ds_one (ds_set (i := 13) sc_law.nd (de_tup (de_cons (de_ixA rfl hu1 (de_v 7) (de_ixA rfl hu1 (de_v 12) (de_int))) (de_cons (de_ixA rfl hu1 (de_v 7) (de_ixA rfl hu1 (de_v 12) (de_int))) (de_nil))))))
    (ds_nil))
    (ds_cons (ds_if (dt_not (dt_val (de_call (ok_law_alike T 8) (hr.mono (by decide)) tk T.g40 T.F40.kp T.b40 (de_cons (de_call (ok_arbiter_gap T) (hr.mono (by decide)) tk T.g28 T.F28.kp T.b28 (de_cons (de_v 3) (de_cons (de_v 4) (de_cons (de_v 6) (de_cons (de_v 5) (de_nil)))))) (de_cons (de_v 13) (de_nil))))))
    (ds_one (ds_ret (de_bl)))
    (ds_nil))
    (ds_cons (ds_set (i := 14) sc_law.nd (de_call (ok_law_bounds T) (hr.mono (by decide)) tk T.g44 T.F44.kp T.b44 (de_cons (de_v 8) (de_cons (de_v 10) (de_cons (de_v 5) (de_nil))))))
    (ds_cons (ds_if (dt_is (de_v 14) (de_non))
    (ds_one (ds_ret (de_and (de_isnot (de_v 12) (de_non)) (de_one (de_is (de_call (ok_arbiter_bounds T) (hr.mono (by decide)) tk T.g29 T.F29.kp T.b29 (de_cons (de_v 3) (de_cons (de_v 4) (de_cons (de_v 5) (de_nil))))) (de_non))))))
    (ds_nil))
    (ds_cons (ds_set (i := 15) sc_law.nd (de_call (ok_arbiter_bounds T) (hr.mono (by decide)) tk T.g29 T.F29.kp T.b29 (de_cons (de_v 3) (de_cons (de_v 4) (de_cons (de_v 5) (de_nil))))))
    (ds_cons (ds_if (dt_not (dt_val (de_call (ok_law_alike T 8) (hr.mono (by decide)) tk T.g40 T.F40.kp T.b40 (de_cons (de_v 15) (de_cons (de_tup (de_cons (de_lc (own := [("_law_k", 16)]) sc_law.nd (pi_or (pi_list (de_ixA rfl hu1 (de_v 14) (de_int))) (pi_tup (de_ixA rfl hu1 (de_v 14) (de_int)))) (itSim_seq rfl) (blkOk_by (N := ["_law_script", "_law_box_here", "_law_names_here", "_law_rule", "_law_column", "_law_again", "_law_condition_here", "_law_every_here", "_law_groups", "_law_row_here", "_law_places", "_law_held", "_law_gap_here", "_law_due", "_law_bounds_here", "_law_told", "_law_k", "_law_out"]) (sc := defScope s_law) (by decide +kernel)) (tgName_sim 16) (tgName_own 16 (by decide)) (fun _ _ _ _ _ => pg_name (i := 16) sc_law.nd rfl (by first | exact Or.inl rfl | exact Or.inr rfl)) (fun _ _ _ _ _ => dts_nil) (fun _ _ _ _ _ => de_ixA rfl hu1 (de_v 7) (de_v 16))) (de_cons (de_lc (own := [("_law_k", 16)]) sc_law.nd (pi_or (pi_list (de_ixA rfl hu1 (de_v 14) (de_int))) (pi_tup (de_ixA rfl hu1 (de_v 14) (de_int)))) (itSim_seq rfl) (blkOk_by (N := ["_law_script", "_law_box_here", "_law_names_here", "_law_rule", "_law_column", "_law_again", "_law_condition_here", "_law_every_here", "_law_groups", "_law_row_here", "_law_places", "_law_held", "_law_gap_here", "_law_due", "_law_bounds_here", "_law_told", "_law_k", "_law_out"]) (sc := defScope s_law) (by decide +kernel)) (tgName_sim 16) (tgName_own 16 (by decide)) (fun _ _ _ _ _ => pg_name (i := 16) sc_law.nd rfl (by first | exact Or.inl rfl | exact Or.inr rfl)) (fun _ _ _ _ _ => dts_nil) (fun _ _ _ _ _ => de_ixA rfl hu1 (de_v 7) (de_v 16))) (de_nil)))) (de_nil))))))
    (ds_one (ds_ret (de_bl)))
    (ds_nil))
    (ds_cons (ds_set (i := 17) sc_law.nd (de_cat rfl mkF_ok (de_lc (own := [("_law_k", 16)]) sc_law.nd (pi_or (pi_list (de_ixA rfl hu1 (de_v 14) (de_int))) (pi_tup (de_ixA rfl hu1 (de_v 14) (de_int)))) (itSim_seq rfl) (blkOk_by (N := ["_law_script", "_law_box_here", "_law_names_here", "_law_rule", "_law_column", "_law_again", "_law_condition_here", "_law_every_here", "_law_groups", "_law_row_here", "_law_places", "_law_held", "_law_gap_here", "_law_due", "_law_bounds_here", "_law_told", "_law_k", "_law_out"]) (sc := defScope s_law) (by decide +kernel)) (tgName_sim 16) (tgName_own 16 (by decide)) (fun _ _ _ _ _ => pg_name (i := 16) sc_law.nd rfl (by first | exact Or.inl rfl | exact Or.inr rfl)) (fun _ _ _ _ _ => dts_one (dt_not (dt_val (de_ixA rfl hu1 (de_v 11) (de_v 16))))) (fun _ _ _ _ _ => de_v 16)) (de_lc (own := [("_law_k", 16)]) sc_law.nd (pi_range1 rfl T.n_range (de_cons (de_int) de_nil)) (itSim_range1) (blkOk_by (N := ["_law_script", "_law_box_here", "_law_names_here", "_law_rule", "_law_column", "_law_again", "_law_condition_here", "_law_every_here", "_law_groups", "_law_row_here", "_law_places", "_law_held", "_law_gap_here", "_law_due", "_law_bounds_here", "_law_told", "_law_k", "_law_out"]) (sc := defScope s_law) (by decide +kernel)) (tgName_sim 16) (tgName_own 16 (by decide)) (fun _ _ _ _ _ => pg_name (i := 16) sc_law.nd rfl (by first | exact Or.inl rfl | exact Or.inr rfl)) (fun _ _ _ _ _ => dts_one (dt_w (dw_and (dt_val (de_ixA rfl hu1 (de_v 11) (de_v 16))) (dw_and1 (dt_notinA rfl hu1 (de_v 16) (de_ixA rfl hu1 (de_v 14) (de_int))))))) (fun _ _ _ _ _ => de_v 16))))
    (ds_one (ds_ret (de_eq rfl hu (de_eq rfl hu (de_v 17) (de_fro (de_nil))) (de_is (de_v 12) (de_non))))))))))))))))))))))))
end

end
end K13
namespace K13
open PySem L2 T2
/-! ### groups -/
theorem truth_is : m_truth 20 = truthM 8 3 isi 20 := rfl
theorem ltruth_is : m_law_truth 20 = lawTruthM 20 := rfl
def grp (r : Rl) (w : Rw) : Vl := if r.k.ev w = .t then w.at r.c else none
structure RlOk (r : Rl) : Prop where
  n : nameOkB r.n = true
  nl : Low r.n
  t : PyData.strOk r.t = true
  k : r.k.lv ≤ 6 ∧ r.k.hq = false
theorem at_ix {w : Rw} {c : C3} {M : MH} : dIxA w.d (.int c.i) M = .ok (Vl.d (w.at c)) M := by
  cases c
  · exact ixT0
  · exact ixT1
  · exact ixT2
theorem vl_isnon {v : Vl} {M : MH} : dIs (Vl.d v) .non M = .ok (.bl (decide (v = none))) M := by
  rcases v with _ | _ | _ | _ <;> rfl
theorem vl_notnon {v : Vl} {M : MH} : dIsNot (Vl.d v) .non M = .ok (.bl (decide (v ≠ none))) M := by
  rcases v with _ | _ | _ | _ <;> rfl
theorem vl_eq {a b : Vl} {M : MH} : dEq (Vl.d a) (Vl.d b) M = .ok (.bl (decide (a = b))) M := by
  rcases a with _ | _ | _ | _ <;> rcases b with _ | _ | _ | _ <;> kernel_rfl
theorem group_run {r : Rl} {w : Rw} {M : MH} (h : RlOk r) : m_group [r.d, w.d] M = .ok (Vl.d (grp r w)) M := by
  refine frzP_pd (k := 1) (G := []) ?_ (pd_vl _)
  rw [List.append_nil]
  have ht := truth_run (cT := 8) (cZ := 3) (isi := isi) rfl (c := r.k) (k := 20) (by have := h.k.1; omega) (r := w) (M := M)
  have he := ev_noq (c := r.k) (r := w) h.k.2
  let E1 : Env2 := [some r.d, some w.d, some (Vl.d (w.at r.c))]
  have x1 : sSet 2 (eBin dIxA (eVar 1) (eBin dIxA (eVar 0) (eC (.int 2)))) [some r.d, some w.d, none] M = .nx E1 M := by
    refine set_nx ?_
    rw [z_bin, show eVar 1 [some r.d, some w.d, none] M = .ok w.d M from rfl, z_bin_ok, z_bin, show eVar 0 [some r.d, some w.d, none] M = .ok r.d M from rfl, z_bin_ok, z_c, z_un_ok, show dIxA r.d (.int 2) M = .ok (.int r.c.i) M from ixT2, z_un_ok, at_ix]
  have a1 : bVal (eBin dIs (eVar 2) (eC .non)) E1 M = .ok (decide (w.at r.c = none)) M := by
    rw [z_val, z_bin, show eVar 2 E1 M = .ok (Vl.d (w.at r.c)) M from rfl, z_bin_ok, z_c, z_un_ok, vl_isnon, z_val_ok]
  have a2 : bVal (eBin dLt (eUn (dFld [8] "rank") (eCall 2 (m_truth 20) (eCons (eBin dIxA (eVar 0) (eC (.int 3))) (eCons (eVar 1) (eNil))))) (eC (.int 2))) E1 M = .ok (!decide (r.k.ev w = .t)) M := by
    have c1 : eCall 2 (m_truth 20) (eCons (eBin dIxA (eVar 0) (eC (.int 3))) (eCons (eVar 1) (eNil))) E1 M = resT 8 3 (r.k.ev w) M := by
      have hx : eBin dIxA (eVar 0) (eC (.int 3)) E1 M = .ok r.k.d M := by
        show dIxA r.d (.int 3) M = _
        exact ixT3
      rw [z_call, z_cons, hx, z_cons1, z_cons, show eVar 1 E1 M = .ok w.d M from rfl, z_cons1, z_anil, z_cons2, z_cons2, z_args_ok, fcal2, truth_is, ht]
    have key : ∀ i : Int, resT 8 3 (r.k.ev w) M = .ok (tv 8 i) M → bVal (eBin dLt (eUn (dFld [8] "rank") (eCall 2 (m_truth 20) (eCons (eBin dIxA (eVar 0) (eC (.int 3))) (eCons (eVar 1) (eNil))))) (eC (.int 2))) E1 M = .ok (decide (i < 2)) M := fun i hi => by
      rw [hi] at c1
      rw [z_val, z_bin, z_un, c1, z_un_ok, rank_tv, z_bin_ok, z_c, z_un_ok, lt_i, z_val_ok]
    cases hv : r.k.ev w with
    | f => rw [key 0 (by rw [hv]; rfl)]; rfl
    | u => rw [key 1 (by rw [hv]; rfl)]; rfl
    | t => rw [key 2 (by rw [hv]; rfl)]; rfl
    | e => exact absurd hv he
  refine fn_rt' ?_
  show b_group [some r.d, some w.d, none] M = _
  unfold b_group grp
  by_cases hn : w.at r.c = none
  · rw [decide_eq_true hn] at a1
    have : (if r.k.ev w = .t then w.at r.c else none) = none := by rw [hn]; split <;> rfl
    rw [this]
    exact seq_run x1 (seq_rt' (ifT_rt (by rw [T2.z_or, a1, z_or_t]) rfl))
  · rw [decide_eq_false hn] at a1
    by_cases hv : r.k.ev w = .t
    · rw [if_pos hv]
      rw [decide_eq_true hv] at a2
      exact seq_run x1 (seq_run (ifFn (by rw [T2.z_or, a1, z_or_f, a2]; rfl)) rfl)
    · rw [if_neg hv]
      rw [decide_eq_false hv] at a2
      exact seq_run x1 (seq_rt' (ifT_rt (by rw [T2.z_or, a1, z_or_f, a2]; rfl) rfl))
theorem lgroup_run {r : Rl} {w : Rw} {M : MH} (h : RlOk r) : m_law_group [r.d, w.d] M = .ok (Vl.d (grp r w)) M := by
  refine frzP_pd (k := 1) (G := []) ?_ (pd_vl _)
  rw [List.append_nil]
  have ht := lawTruth_run (c := r.k) (k := 20) (by have := h.k.1; omega) (r := w) (M := M)
  let E1 : Env2 := [some r.d, some w.d]
  have a2 : bVal (eBin dEq (eCall 2 (m_law_truth 20) (eCons (eBin dIxA (eVar 0) (eC (.int 3))) (eCons (eVar 1) (eNil)))) (eC (.int 2))) E1 M = .ok (decide (r.k.ev w = .t)) M := by
    have hx : eBin dIxA (eVar 0) (eC (.int 3)) E1 M = .ok r.k.d M := by
      show dIxA r.d (.int 3) M = _
      exact ixT3
    rw [z_val, z_bin, z_call, z_cons, hx, z_cons1, z_cons, show eVar 1 E1 M = .ok w.d M from rfl, z_cons1, z_anil, z_cons2, z_cons2, z_args_ok, fcal2, ltruth_is, ht, z_bin_ok, z_c, z_un_ok, eq_int, z_val_ok]
    cases r.k.ev w <;> rfl
  refine fn_rt' ?_
  show b_law_group E1 M = _
  unfold b_law_group grp
  by_cases hv : r.k.ev w = .t
  · rw [if_pos hv]
    rw [decide_eq_true hv] at a2
    refine seq_rt' (ifT_rt a2 (ret_rt ?_))
    rw [z_bin, show eVar 1 E1 M = .ok w.d M from rfl, z_bin_ok, z_bin, show eVar 0 E1 M = .ok r.d M from rfl, z_bin_ok, z_c, z_un_ok, show dIxA r.d (.int 2) M = .ok (.int r.c.i) M from ixT2, z_un_ok, at_ix]
  · rw [if_neg hv]
    rw [decide_eq_false hv] at a2
    exact seq_run (ifFn a2) rfl
/-- the dict of all rows -/
abbrev gO (r : Rl) : MO := .dp (rowsR.map Rw.k) (rowsR.map fun w => Vl.d (grp r w))
abbrev gL (r : Rl) : MO := .lp (rowsR.map Rw.k) (rowsR.map fun w => Vl.d (grp r w))
theorem groups_run {r : Rl} {M : MH} (h : RlOk r) : m_groups_of [r.d] M = .ok (.ref M.length) (M ++ [gO r]) := by
  have hi : iRows [some r.d, none] M = .ok (.vals (rowsR.map Rw.d)) M := by rw [← rowsD_R]; rfl
  have ft : rowsR.filter (fun _ => true) = rowsR := List.filter_eq_self.mpr fun _ _ => rfl
  have q := St.dcp (tg := tgName 1) (tt := bYes) (mk := eVar 1) (mv := eCall 2 m_group (eCons (eVar 0) (eCons (eVar 1) (eNil)))) (vs := [1]) (p := fun _ => true) (y := Rw.d) (z := fun w => Vl.d (grp r w)) (key := Rw.k) hi Rw.key
    (fun w _ M' => St.pair (e1 := [some r.d, some w.d]) (b := true) rfl rfl (fun _ => rfl) fun _ => St.call (St.cons rfl (St.cons rfl St.nil)) rfl (group_run h)) (by rw [List.nodup_iff_pairwise_ne, List.pairwise_map]; exact rowsR_nd.imp fun n e => n (Rw.k_inj e)) (by rw [rowsR_len]; decide)
  rw [ft] at q
  exact St.fn (St.ret q)
theorem gix {r : Rl} {w : Rw} {M : MH} {p : Nat} (hp : pOf M p = some (rowsR.map Rw.k, rowsR.map fun w => Vl.d (grp r w))) : dIxP (.ref p) w.d M = .ok (Vl.d (grp r w)) M := ixP_row hp (mem_rowsR w)
end K13
namespace K13
open PySem L2 T2
/-! ### the first two rows that part the index from the rule -/
section
variable (r : Rl) (c : C3) (ag : Bool) (held : Rw → Bool)
/-- the second row is found under the first one's value -/
def fnd (w o : Rw) : Bool := decide (w.at c ≠ none) && decide (w.at c = o.at c) && (decide (grp r w = grp r o) || !ag)
def odd (w o : Rw) : Bool := (held o && fnd r c ag w o) != decide (grp r w = grp r o)
def inner (k : Nat) : Option Nat := (List.range 64).find? fun l => odd r c ag held (rowAt k) (rowAt l)
def gapK : Option Nat := (List.range 64).find? fun k => decide (grp r (rowAt k) ≠ none) && (inner r c ag held k).isSome
def gapI : Option (Nat × Nat) := (gapK r c ag held).map fun k => (k, (inner r c ag held k).getD 0)
def gapD : D := match gapI r c ag held with
  | some (k, l) => .tup [.int (k : Nat), .int (l : Nat)]
  | none => .non
def gapR : D := match gapI r c ag held with
  | some (k, l) => .tup [(rowAt k).d, (rowAt l).d]
  | none => .non
end
/-- the law's three lists stand in the memory -/
structure Lists (r : Rl) (c : C3) (held : Rw → Bool) (M : MH) (g p h : Nat) : Prop where
  g : M[g]? = some (.lst (rowsR.map fun w => Vl.d (grp r w)))
  p : M[p]? = some (.lst (rowsR.map fun w => Vl.d (w.at c)))
  h : M[h]? = some (.lst (rowsR.map fun w => D.bl (held w)))
theorem row_at {M : MH} {p k : Nat} {f : Rw → D} (h : M[p]? = some (.lst (rowsR.map f))) (hk : k < 64) : dIxA (.ref p) (.int (k : Nat)) M = .ok (f (rowAt k)) M := row_ix h (by rw [List.getElem?_map, rowsR_get hk]; rfl)
theorem seq_ct {a b : SM} {e e1 : Env2} {M M1 : MH} (h : a e M = .ct e1 M1) : sSeq a b e M = .ct e1 M1 := by rw [y_seq, h, y_seq_ct]
section
variable {r : Rl} {c : C3} {ag : Bool} {held : Rw → Bool} {M : MH} {g p h k l : Nat}
theorem found_run (hg : M[g]? = some (.lst (rowsR.map fun w => Vl.d (grp r w)))) (hp : M[p]? = some (.lst (rowsR.map fun w => Vl.d (w.at c)))) (hk : k < 64) (hl : l < 64) :
    m_law_found [.ref g, .ref p, .bl ag, .int (k : Nat), .int (l : Nat)] M = .ok (.bl (fnd r c ag (rowAt k) (rowAt l))) M := by
  refine frzP_0 (k := 1) (St.fn ?_) (.inr (.inl ⟨_, rfl⟩))
  have pk := row_at hp hk
  have pl := row_at hp hl
  have gk := row_at hg hk
  have gl := row_at hg hl
  have t := St.bor2 (b1 := decide ((rowAt k).at c = none)) (b2 := decide ((rowAt k).at c ≠ (rowAt l).at c)) (e := [some (.ref g), some (.ref p), some (.bl ag), some (.int (k : Nat)), some (.int (l : Nat))])
    (c := bVal (eBin dIs (eBin dIxA (eVar 1) (eVar 3)) (eC .non))) (d := bVal (eBin dNe (eBin dIxA (eVar 1) (eVar 3)) (eBin dIxA (eVar 1) (eVar 4))))
    (St.val (St.bin (St.bin rfl rfl pk) rfl vl_isnon)) fun _ => St.val (St.bin (St.bin rfl rfl pk) (St.bin rfl rfl pl) vl_ne)
  have o := St.eor (x := decide (grp r (rowAt k) = grp r (rowAt l))) (y := !ag) (e := [some (.ref g), some (.ref p), some (.bl ag), some (.int (k : Nat)), some (.int (l : Nat))]) (a := eBin dEq (eBin dIxA (eVar 0) (eVar 3)) (eBin dIxA (eVar 0) (eVar 4))) (b := eNot (eVar 2))
    (St.bin (St.bin rfl rfl gk) (St.bin rfl rfl gl) vl_eq) fun _ => St.enot rfl
  unfold fnd
  by_cases h1 : (rowAt k).at c = none
  · rw [decide_eq_true h1] at t
    rw [decide_eq_false (fun z => z h1)]
    exact St.seqR (St.ifT t (St.ret rfl))
  · by_cases h2 : (rowAt k).at c = (rowAt l).at c
    · rw [decide_eq_false h1, decide_eq_false (fun z => z h2)] at t
      rw [decide_eq_true h1, decide_eq_true h2]
      exact St.seq (St.ifF t rfl) (St.ret o)
    · rw [decide_eq_false h1, decide_eq_true h2] at t
      rw [decide_eq_true h1, decide_eq_false h2]
      exact St.seqR (St.ifT t (St.ret rfl))
theorem opt_none {α : Type} {o : Option α} (h : o.isSome = false) : o = none := by cases o <;> simp_all
theorem lgap_in (L : Lists r c held M g p h) (hk : k < 64) (e : Env2) (he : ∃ x y, e = [some (.ref g), some (.ref p), some (.ref h), some (.bl ag), some (.int (k : Nat)), x, y]) :
    (∃ l, inner r c ag held k = some l ∧ sForI (iRange1 (eC (.int 64))) (tgName 5) lp_law_gap_1 e M = .rt (.tup [.int (k : Nat), .int (l : Nat)]) M) ∨ (inner r c ag held k = none ∧ ∃ e', (∃ x y, e' = [some (.ref g), some (.ref p), some (.ref h), some (.bl ag), some (.int (k : Nat)), x, y]) ∧ sForI (iRange1 (eC (.int 64))) (tgName 5) lp_law_gap_1 e M = .nx e' M) := by
  rw [z_for, rng64, z_for_v, rng_map]
  refine for_find' (g := fun l => .tup [.int (k : Nat), .int (l : Nat)]) (I := fun e => ∃ x y, e = [some (.ref g), some (.ref p), some (.ref h), some (.bl ag), some (.int (k : Nat)), x, y]) (List.range 64) (fun l hl e hI => ?_) e he
  obtain ⟨x, y, rfl⟩ := hI
  have hl := List.mem_range.mp hl
  have s6 : sSet 6 (eAnd (eBin dIxA (eVar 2) (eVar 5)) (eCall 5 m_law_found (eCons (eVar 0) (eCons (eVar 1) (eCons (eVar 3) (eCons (eVar 4) (eCons (eVar 5) (eNil)))))))) [some (.ref g), some (.ref p), some (.ref h), some (.bl ag), some (.int (k : Nat)), some (.int (l : Nat)), y] M =
      .nx [some (.ref g), some (.ref p), some (.ref h), some (.bl ag), some (.int (k : Nat)), some (.int (l : Nat)), some (.bl (held (rowAt l) && fnd r c ag (rowAt k) (rowAt l)))] M :=
    St.set (St.eand (St.bin rfl rfl (row_at L.h hl)) fun _ => St.call (St.cons rfl (St.cons rfl (St.cons rfl (St.cons rfl (St.cons rfl St.nil))))) rfl (found_run L.g L.p hk hl))
  have t : bVal (eBin dNe (eVar 6) (eBin dEq (eBin dIxA (eVar 0) (eVar 4)) (eBin dIxA (eVar 0) (eVar 5)))) [some (.ref g), some (.ref p), some (.ref h), some (.bl ag), some (.int (k : Nat)), some (.int (l : Nat)), some (.bl (held (rowAt l) && fnd r c ag (rowAt k) (rowAt l)))] M = .ok (odd r c ag held (rowAt k) (rowAt l)) M :=
    St.val (St.bin rfl (St.bin (St.bin rfl rfl (row_at L.g hk)) (St.bin rfl rfl (row_at L.g hl)) vl_eq) bl_ne)
  refine ⟨fun ho => ?_, fun ho => ⟨[some (.ref g), some (.ref p), some (.ref h), some (.bl ag), some (.int (k : Nat)), some (.int (l : Nat)), some (.bl (held (rowAt l) && fnd r c ag (rowAt k) (rowAt l)))], .inl (St.seq s6 ?_), some (.int (l : Nat)), some (.bl (held (rowAt l) && fnd r c ag (rowAt k) (rowAt l))), rfl⟩⟩
  · rw [ho] at t
    exact St.seq s6 (St.ifT t (St.ret (St.tup (St.cons rfl (St.cons rfl St.nil)))))
  · rw [ho] at t
    exact St.ifF t rfl
theorem lgap_run (L : Lists r c held M g p h) : m_law_gap [.ref g, .ref p, .ref h, .bl ag] M = .ok (gapD r c ag held) M := by
  have key : fnB 7 b_law_gap [.ref g, .ref p, .ref h, .bl ag] M = .ok (gapD r c ag held) M := by
    refine St.fn ?_
    show b_law_gap [some (.ref g), some (.ref p), some (.ref h), some (.bl ag), none, none, none] M = _
    have q := for_find' (i := 4) (body := lp_law_gap_2) (M := M) (f := fun k : Nat => D.int (k : Nat)) (g := fun k => .tup [.int (k : Nat), .int ((inner r c ag held k).getD 0 : Nat)]) (p := fun k => decide (grp r (rowAt k) ≠ none) && (inner r c ag held k).isSome)
      (I := fun e => ∃ x y z, e = [some (.ref g), some (.ref p), some (.ref h), some (.bl ag), x, y, z]) (List.range 64) (fun k hk e hI => by
        obtain ⟨x, y, z, rfl⟩ := hI
        have hk := List.mem_range.mp hk
        have t : bVal (eBin dIs (eBin dIxA (eVar 0) (eVar 4)) (eC .non)) [some (.ref g), some (.ref p), some (.ref h), some (.bl ag), some (.int (k : Nat)), y, z] M = .ok (decide (grp r (rowAt k) = none)) M :=
          St.val (St.bin (St.bin rfl rfl (row_at L.g hk)) rfl vl_isnon)
        have w := lgap_in (ag := ag) L hk [some (.ref g), some (.ref p), some (.ref h), some (.bl ag), some (.int (k : Nat)), y, z] ⟨_, _, rfl⟩
        by_cases hn : grp r (rowAt k) = none
        · rw [decide_eq_true hn] at t
          rw [decide_eq_false (fun z => z hn)]
          exact ⟨fun z => (nomatch z), fun _ => ⟨[some (.ref g), some (.ref p), some (.ref h), some (.bl ag), some (.int (k : Nat)), y, z], .inr (seq_ct (St.ifT t rfl)), some (.int (k : Nat)), y, z, rfl⟩⟩
        · rw [decide_eq_false hn] at t
          rw [decide_eq_true hn, Bool.true_and]
          rcases w with ⟨l, hl, hw⟩ | ⟨hl, e', ⟨x', y', rfl⟩, hw⟩
          · rw [hl]
            exact ⟨fun _ => St.seq (St.ifF t rfl) hw, fun z => (nomatch z)⟩
          · rw [hl]
            exact ⟨fun z => (nomatch z), fun _ => ⟨[some (.ref g), some (.ref p), some (.ref h), some (.bl ag), some (.int (k : Nat)), x', y'], .inl (St.seq (St.ifF t rfl) hw), some (.int (k : Nat)), x', y', rfl⟩⟩) [some (.ref g), some (.ref p), some (.ref h), some (.bl ag), none, none, none] ⟨_, _, _, rfl⟩
    unfold gapD gapI gapK
    rcases q with ⟨k, h1, h2⟩ | ⟨h1, e', ⟨x, y, z, rfl⟩, h2⟩
    · rw [h1]
      refine St.seqR ?_
      rw [z_for, rng64, z_for_v, rng_map]
      exact h2
    · rw [h1]
      refine St.seq (e1 := [some (.ref g), some (.ref p), some (.ref h), some (.bl ag), x, y, z]) (M1 := M) ?_ (St.ret rfl)
      rw [z_for, rng64, z_for_v, rng_map]
      exact h2
  refine frzP_0 (k := 3) key ?_
  unfold gapD
  cases gapI r c ag held with
  | none => exact .inl rfl
  | some q =>
    refine pd_tup (by simp) fun a ha => ?_
    rcases List.mem_cons.mp ha with rfl | ha
    · exact pd_int
    · obtain rfl := List.mem_singleton.mp ha
      exact pd_int
end
end K13
namespace K13
open PySem L2 T2
/-! ### arbiter_gap -/
/-- the rows held: those at which the condition is true -/
def hld (q : Cnd) (w : Rw) : Bool := decide (q.ev w = .t)
theorem rank_run {q : Cnd} {w : Rw} {M : MH} {e : Env2} {a b : EM} (hq : q.lv ≤ 20 ∧ q.hq = false) (ha : a e M = .ok q.d M) (hb : b e M = .ok w.d M) :
    bVal (eBin dEq (eUn (dFld [8] "rank") (eCall 2 (m_truth 20) (eCons a (eCons b (eNil))))) (eC (.int 2))) e M = .ok (hld q w) M := by
  have ht := truth_run (cT := 8) (cZ := 3) (isi := isi) rfl (c := q) (k := 20) hq.1 (r := w) (M := M)
  have he := ev_noq (c := q) (r := w) hq.2
  have key : ∀ i : Int, resT 8 3 (q.ev w) M = .ok (tv 8 i) M → bVal (eBin dEq (eUn (dFld [8] "rank") (eCall 2 (m_truth 20) (eCons a (eCons b (eNil))))) (eC (.int 2))) e M = .ok (i == 2) M := fun i hi => by
    have hc : eCall 2 (m_truth 20) (eCons a (eCons b (eNil))) e M = .ok (tv 8 i) M := St.call (St.cons ha (St.cons hb St.nil)) rfl (by rw [truth_is, ht, hi])
    exact St.val (St.bin (St.un hc rank_tv) rfl eq_int)
  unfold hld
  cases hv : q.ev w with
  | f => rw [key 0 (by rw [hv]; rfl)]; rfl
  | u => rw [key 1 (by rw [hv]; rfl)]; rfl
  | t => rw [key 2 (by rw [hv]; rfl)]; rfl
  | e => exact absurd hv he
section
variable {r : Rl} {c : C3} {q : Cnd} {ag : Bool} {M : MH} {k : Nat}
/-- the memory in the walk -/
abbrev aM (r : Rl) (c : C3) (q : Cnd) (M : MH) : MH := M ++ [gL r, .dp ((rowsR.filter (hld q)).map Rw.k) ((rowsR.filter (hld q)).map fun w => Vl.d (w.at c))]
theorem aM_g : (aM r c q M)[M.length]? = some (gL r) := by simp
theorem aM_h : (aM r c q M)[M.length + 1]? = some (.dp ((rowsR.filter (hld q)).map Rw.k) ((rowsR.filter (hld q)).map fun w => Vl.d (w.at c))) := by
  rw [List.getElem?_append_right (by omega), Nat.add_sub_cancel_left]; rfl
abbrev aE (r : Rl) (c : C3) (q : Cnd) (ag : Bool) (p : Nat) (x y z u : Option D) : Env2 := [some r.d, some (.int c.i), some q.d, some (.bl ag), some (.ref p), some (.ref (p + 1)), x, y, z, u]
theorem agap_in (e : Env2) (he : ∃ y z u, e = aE r c q ag M.length (some (rowAt k).d) y z u) :
    (∃ l, inner r c ag (hld q) k = some l ∧ sForQ 4 (tgName 7) lp_arbiter_gap_1 e (aM r c q M) = .rt (.tup [(rowAt k).d, (rowAt l).d]) (aM r c q M)) ∨ (inner r c ag (hld q) k = none ∧ ∃ e', (∃ y z u, e' = aE r c q ag M.length (some (rowAt k).d) y z u) ∧ sForQ 4 (tgName 7) lp_arbiter_gap_1 e (aM r c q M) = .nx e' (aM r c q M)) := by
  have walk : sForQ 4 (tgName 7) lp_arbiter_gap_1 e (aM r c q M) = forV (tgName 7) lp_arbiter_gap_1 ((List.range 64).map fun l => (rowAt l).d) e (aM r c q M) := by
    obtain ⟨y, z, u, rfl⟩ := he
    refine St.forQ_lp (p := M.length) rfl aM_g ?_
    rw [keys_rows, rowsR_at, List.map_map]
    rfl
  rw [walk]
  refine for_find' (g := fun l => .tup [(rowAt k).d, (rowAt l).d]) (I := fun e => ∃ y z u, e = aE r c q ag M.length (some (rowAt k).d) y z u) (List.range 64) (fun l hl e hI => ?_) e he
  obtain ⟨y, z, u, rfl⟩ := hI
  generalize rowAt k = w
  generalize rowAt l = o
  have gw : dIxP (.ref M.length) w.d (aM r c q M) = .ok (Vl.d (grp r w)) (aM r c q M) := gix (pOf_lp aM_g)
  have go : dIxP (.ref M.length) o.d (aM r c q M) = .ok (Vl.d (grp r o)) (aM r c q M) := gix (pOf_lp aM_g)
  have mem : o ∈ rowsR.filter (hld q) ↔ hld q o = true := by rw [List.mem_filter]; exact ⟨fun z => z.2, fun z => ⟨mem_rowsR o, z⟩⟩
  have dm : decide (o ∈ rowsR.filter (hld q)) = hld q o := by
    cases hh : hld q o with
    | true => exact decide_eq_true (mem.mpr hh)
    | false => exact decide_eq_false fun z => by rw [mem, hh] at z; cases z
  let du : Bool := decide (grp r o = grp r w)
  let ne : Bool := decide (w.at c ≠ none) && (hld q o && decide (o.at c = w.at c))
  have s8 : sSet 8 (eBin dEq (eBin dIxP (eVar 4) (eVar 7)) (eBin dIxP (eVar 4) (eVar 6))) (aE r c q ag M.length (some w.d) (some o.d) z u) (aM r c q M) = .nx (aE r c q ag M.length (some w.d) (some o.d) (some (.bl du)) u) (aM r c q M) :=
    St.set (St.bin (St.bin rfl rfl go) (St.bin rfl rfl gw) vl_eq)
  have s9 : sSet 9 (eAnd (eBin dIsNot (eBin dIxA (eVar 6) (eVar 1)) (eC .non)) (eAnd (eBin dInP (eVar 7) (eVar 5)) (eBin dEq (eBin dIxP (eVar 5) (eVar 7)) (eBin dIxA (eVar 6) (eVar 1))))) (aE r c q ag M.length (some w.d) (some o.d) (some (.bl du)) u) (aM r c q M) = .nx (aE r c q ag M.length (some w.d) (some o.d) (some (.bl du)) (some (.bl ne))) (aM r c q M) := by
    refine St.set (St.eand (St.bin (St.bin rfl rfl at_ix) rfl vl_notnon) fun _ => St.eand (x := hld q o) (St.bin rfl rfl ?_) fun ho => St.bin (St.bin rfl rfl ?_) (St.bin rfl rfl at_ix) vl_eq)
    · rw [inP_row (pOf_dp aM_h), dm]
    · exact ixP_row (pOf_dp aM_h) (mem.mpr ho)
  have t : bVal (eBin dNe (eVar 8) (eAnd (eVar 9) (eOr (eVar 8) (eNot (eVar 3))))) (aE r c q ag M.length (some w.d) (some o.d) (some (.bl du)) (some (.bl ne))) (aM r c q M) = .ok (odd r c ag (hld q) w o) (aM r c q M) := by
    have v := St.val (St.bin (f := dNe) (a := eVar 8) (e := aE r c q ag M.length (some w.d) (some o.d) (some (.bl du)) (some (.bl ne))) (M := aM r c q M) rfl (St.eand (x := ne) (a := eVar 9) (b := eOr (eVar 8) (eNot (eVar 3))) (y := du || !ag) rfl fun _ => St.eor (x := du) rfl fun _ => St.enot (x := ag) rfl) bl_ne)
    rw [v]
    have e1 : decide (grp r w = grp r o) = du := decide_eq_decide.mpr ⟨Eq.symm, Eq.symm⟩
    have e2 : decide (w.at c = o.at c) = decide (o.at c = w.at c) := decide_eq_decide.mpr ⟨Eq.symm, Eq.symm⟩
    unfold odd fnd
    rw [e1, e2]
    show Res.ok (du != ((decide (w.at c ≠ none) && (hld q o && decide (o.at c = w.at c))) && (du || !ag))) _ = _
    cases du <;> cases hld q o <;> cases decide (w.at c ≠ none) <;> cases decide (o.at c = w.at c) <;> cases ag <;> rfl
  refine ⟨fun ho => ?_, fun ho => ⟨aE r c q ag M.length (some w.d) (some o.d) (some (.bl du)) (some (.bl ne)), .inl (St.seq s8 (St.seq s9 ?_)), some o.d, some (.bl du), some (.bl ne), rfl⟩⟩
  · rw [ho] at t
    exact St.seq s8 (St.seq s9 (St.ifT t (St.ret (St.tup (St.cons rfl (St.cons rfl St.nil))))))
  · rw [ho] at t
    exact St.ifF t rfl
theorem agap_run (hr : RlOk r) (hq : q.lv ≤ 20 ∧ q.hq = false) : m_arbiter_gap [r.d, .int c.i, q.d, .bl ag] M = .ok (gapR r c ag (hld q)) M := by
  have key : ∃ G, fnB 10 b_arbiter_gap [r.d, .int c.i, q.d, .bl ag] M = .ok (gapR r c ag (hld q)) (M ++ G) := by
    refine ⟨[gO r, .dp ((rowsR.filter (hld q)).map Rw.k) ((rowsR.filter (hld q)).map fun w => Vl.d (w.at c))], St.fn ?_⟩
    have s4 : sSet 4 (eCall 1 m_groups_of (eCons (eVar 0) (eNil))) [some r.d, some (.int c.i), some q.d, some (.bl ag), none, none, none, none, none, none] M = .nx [some r.d, some (.int c.i), some q.d, some (.bl ag), some (.ref M.length), none, none, none, none, none] (M ++ [gO r]) :=
      St.set (St.call (St.cons rfl St.nil) rfl (groups_run hr))
    have o1 : (M ++ [gO r])[M.length]? = some (gO r) := by simp
    have o2 : ((M ++ [gO r]).set M.length (gL r)) = M ++ [gL r] := by simp
    have it : iKeysPD (eVar 4) [some r.d, some (.int c.i), some q.d, some (.bl ag), some (.ref M.length), none, none, none, none, none] (M ++ [gL r]) = .ok (.vals (rowsR.map Rw.d)) (M ++ [gL r]) := by
      rw [← keys_rows]; exact St.itP (p := M.length) (ds := rowsR.map fun w => Vl.d (grp r w)) rfl (by simp)
    have d5 := St.dcp (tg := tgName 6) (tt := bVal (eBin dEq (eUn (dFld [8] "rank") (eCall 2 (m_truth 20) (eCons (eVar 2) (eCons (eVar 6) (eNil))))) (eC (.int 2)))) (mk := eVar 6) (mv := eBin dIxA (eVar 6) (eVar 1)) (vs := [6]) (p := hld q) (y := Rw.d) (z := fun w => Vl.d (w.at c)) (key := Rw.k) it Rw.key
      (fun w _ M' => St.pair (e1 := [some r.d, some (.int c.i), some q.d, some (.bl ag), some (.ref M.length), none, some w.d, none, none, none]) rfl (rank_run hq rfl rfl) (fun _ => rfl) fun _ => St.bin rfl rfl at_ix) (by rw [List.nodup_iff_pairwise_ne, List.pairwise_map]; exact rowsR_nd.imp fun n e => n (Rw.k_inj e)) (by rw [rowsR_len]; decide)
    have s5 : sLockP (nfE (eVar 4)) (sSet 5 (eDcP (iKeysPD (eVar 4)) (tgName 6) (bVal (eBin dEq (eUn (dFld [8] "rank") (eCall 2 (m_truth 20) (eCons (eVar 2) (eCons (eVar 6) (eNil))))) (eC (.int 2)))) (eVar 6) (eBin dIxA (eVar 6) (eVar 1)) [6])) [some r.d, some (.int c.i), some q.d, some (.bl ag), some (.ref M.length), none, none, none, none, none] (M ++ [gO r]) =
        .nx [some r.d, some (.int c.i), some q.d, some (.bl ag), some (.ref M.length), some (.ref (M.length + 1)), none, none, none, none] (M ++ [gO r, .dp ((rowsR.filter (hld q)).map Rw.k) ((rowsR.filter (hld q)).map fun w => Vl.d (w.at c))]) := by
      have z := St.lockSP (s := sSet 5 (eDcP (iKeysPD (eVar 4)) (tgName 6) (bVal (eBin dEq (eUn (dFld [8] "rank") (eCall 2 (m_truth 20) (eCons (eVar 2) (eCons (eVar 6) (eNil))))) (eC (.int 2)))) (eVar 6) (eBin dIxA (eVar 6) (eVar 1)) [6])) (nf := nfE (eVar 4)) (p := M.length) (ks' := rowsR.map Rw.k) (ds' := rowsR.map fun w => Vl.d (grp r w)) (St.nfe (M' := M ++ [gO r]) (e := [some r.d, some (.int c.i), some q.d, some (.bl ag), some (.ref M.length), none, none, none, none, none]) rfl) o1 (by rw [o2]; exact St.set d5) (by rw [List.getElem?_append_left (by simp)]; simp)
      rw [z]
      simp
    have w := for_find' (i := 6) (body := lp_arbiter_gap_2) (M := aM r c q M) (f := fun k : Nat => (rowAt k).d) (g := fun k => .tup [(rowAt k).d, (rowAt ((inner r c ag (hld q) k).getD 0)).d]) (p := fun k => decide (grp r (rowAt k) ≠ none) && (inner r c ag (hld q) k).isSome)
      (I := fun e => ∃ x y z u, e = aE r c q ag M.length x y z u) (List.range 64) (fun k hk e hI => by
        obtain ⟨x, y, z, u, rfl⟩ := hI
        have t : bVal (eBin dIsNot (eBin dIxP (eVar 4) (eVar 6)) (eC .non)) (aE r c q ag M.length (some (rowAt k).d) y z u) (aM r c q M) = .ok (decide (grp r (rowAt k) ≠ none)) (aM r c q M) :=
          St.val (St.bin (St.bin rfl rfl (gix (pOf_lp aM_g))) rfl vl_notnon)
        have v := agap_in (r := r) (c := c) (q := q) (ag := ag) (M := M) (k := k) (aE r c q ag M.length (some (rowAt k).d) y z u) ⟨_, _, _, rfl⟩
        by_cases hn : grp r (rowAt k) = none
        · rw [decide_eq_false (fun z => z hn)] at t ⊢
          exact ⟨fun z => (nomatch z), fun _ => ⟨aE r c q ag M.length (some (rowAt k).d) y z u, .inl (St.ifF t rfl), some (rowAt k).d, y, z, u, rfl⟩⟩
        · rw [decide_eq_true hn] at t ⊢
          rw [Bool.true_and]
          rcases v with ⟨l, hl, hw⟩ | ⟨hl, e', ⟨y', z', u', rfl⟩, hw⟩
          · rw [hl]
            exact ⟨fun _ => St.ifT t hw, fun z => (nomatch z)⟩
          · rw [hl]
            exact ⟨fun z => (nomatch z), fun _ => ⟨aE r c q ag M.length (some (rowAt k).d) y' z' u', .inl (St.ifT t hw), some (rowAt k).d, y', z', u', rfl⟩⟩) (aE r c q ag M.length none none none none) ⟨_, _, _, _, rfl⟩
    have rws : ((rowsR.map Rw.k).map keyV) = (List.range 64).map fun k => (rowAt k).d := by rw [keys_rows, rowsR_at, List.map_map]; rfl
    have c1 : (M ++ [gO r, MO.dp ((rowsR.filter (hld q)).map Rw.k) ((rowsR.filter (hld q)).map fun w => Vl.d (w.at c))])[M.length]? = some (gO r) := by simp
    have c2 : (M ++ [gO r, MO.dp ((rowsR.filter (hld q)).map Rw.k) ((rowsR.filter (hld q)).map fun w => Vl.d (w.at c))]).set M.length (gL r) = aM r c q M := by simp [aM]
    have c3 : (aM r c q M).set M.length (gO r) = M ++ [gO r, MO.dp ((rowsR.filter (hld q)).map Rw.k) ((rowsR.filter (hld q)).map fun w => Vl.d (w.at c))] := by simp [aM]
    refine St.seq s4 (St.seq s5 ?_)
    unfold gapR gapI gapK
    rcases w with ⟨k, h1, h2⟩ | ⟨h1, e', ⟨x, y, z, u, rfl⟩, h2⟩
    · rw [h1]
      refine St.seqR (St.forQ_dp (p := M.length) rfl c1 ?_)
      rw [rws, c2, h2]
      unfold unlkP
      dsimp only
      rw [aM_g]
      dsimp only
      rw [c3]
      rfl
    · rw [h1]
      refine St.seq (e1 := aE r c q ag M.length x y z u) (St.forQ_dp (p := M.length) rfl c1 ?_) (St.ret rfl)
      rw [rws, c2, h2]
      unfold unlkP
      dsimp only
      rw [aM_g]
      dsimp only
      rw [c3]
  obtain ⟨G, key⟩ := key
  refine frzP_pd (k := 3) key ?_
  unfold gapR
  cases gapI r c ag (hld q) with
  | none => exact .inl rfl
  | some q =>
    refine pd_tup (by simp) fun a ha => ?_
    rcases List.mem_cons.mp ha with rfl | ha
    · exact pd_row _
    · obtain rfl := List.mem_singleton.mp ha
      exact pd_row _
end
end K13
namespace K13
open PySem L2 T2
/-! ### the law's bounds -/
section
variable (r : Rl) (c : C3) (ag : Bool)
def own (k : Nat) : Bool := decide (grp r (rowAt k) ≠ none)
def ownK : List Nat := (List.range 64).filter (own r)
def wrong (l : Nat) : List Nat := (ownK r).filter fun k => fnd r c ag (rowAt k) (rowAt l) != decide (grp r (rowAt k) = grp r (rowAt l))
def okL (l : Nat) : Bool := (wrong r c ag l).isEmpty
def leastL (n : Nat) : List Nat := (List.range n).filter (own r)
def mostL (n : Nat) : List Nat := (List.range n).filter (okL r c ag)
/-- a row that may neither be held nor left out -/
def stuck (l : Nat) : Bool := own r l && !okL r c ag l
def noB : Bool := (List.range 64).any (stuck r c ag)
def lbD : D := if noB r c ag = true then .non else .fro [.fro ((leastL r 64).map fun k => D.int (k : Nat)), .fro ((mostL r c ag 64).map fun k => D.int (k : Nat))]
end
theorem nbs {ks : List Nat} : ∀ a ∈ ks.map fun k => D.int (k : Nat), Nb 3 a := fun a ha => by
  obtain ⟨k, _, rfl⟩ := List.mem_map.mp ha
  exact nb_int
theorem isnil {M : MH} {n : Nat} {ks : List Nat} (h : M[n]? = some (.lst (ks.map fun k => D.int (k : Nat)))) : dEq (.ref n) (.fro []) M = .ok (.bl ks.isEmpty) M := by
  rw [eq_lst h nbs, eq_nb (k := 4) (by decide) (nb_fro nbs) (nb_fro fun a h => absurd h (by simp))]
  cases ks <;> simp
theorem ne_lst {n : Nat} {ds : List D} {y : D} {M : MH} (h : M[n]? = some (.lst ds)) (hn : ∀ a ∈ ds, Nb 3 a) : dNe (.ref n) y M = dNe (.fro ds) y M := by
  obtain ⟨p, h1, -, -⟩ := nb_P (nb_fro hn)
  have e : toP M 4 (.ref n) = toP M 4 (.fro ds) := by
    rw [toP_ref, h]
    dsimp only
    rw [← toP_fro]
    unfold toP
    rw [h1 (rfOf M 3), h1 (rfOf M 4)]
  unfold dNe
  rw [e]
theorem notnil {M : MH} {n : Nat} {ks : List Nat} (h : M[n]? = some (.lst (ks.map fun k => D.int (k : Nat)))) : dNe (.ref n) (.fro []) M = .ok (.bl (!ks.isEmpty)) M := by
  rw [ne_lst h nbs, ne_nb (k := 4) (by decide) (nb_fro nbs) (nb_fro fun a h => absurd h (by simp))]
  cases ks <;> simp
section
variable {r : Rl} {c : C3} {ag : Bool} {M : MH} {g p : Nat}
abbrev numsO (ks : List Nat) : MO := .lst (ks.map fun k => D.int (k : Nat))
/-- the memory in the walk -/
abbrev bM (r : Rl) (c : C3) (ag : Bool) (M : MH) (l : Nat) (G : MH) : MH := M ++ numsO (leastL r l) :: numsO (mostL r c ag l) :: numsO (ownK r) :: G
theorem bM0 {l : Nat} {G : MH} : (bM r c ag M l G)[M.length]? = some (numsO (leastL r l)) := by simp
theorem bM1 {l : Nat} {G : MH} : (bM r c ag M l G)[M.length + 1]? = some (numsO (mostL r c ag l)) := by rw [List.getElem?_append_right (by omega), Nat.add_sub_cancel_left]; rfl
theorem bM2 {l : Nat} {G : MH} : (bM r c ag M l G)[M.length + 2]? = some (numsO (ownK r)) := by rw [List.getElem?_append_right (by omega), Nat.add_sub_cancel_left]; rfl
theorem bMold {l i : Nat} {G : MH} {o : MO} (h : M[i]? = some o) : (bM r c ag M l G)[i]? = some o := by
  rw [List.getElem?_append_left (List.getElem?_eq_some_iff.mp h).1]; exact h
abbrev bE (g p : Nat) (ag : Bool) (n : Nat) (x6 x7 x8 x9 : Option D) : Env2 := [some (.ref g), some (.ref p), some (.bl ag), some (.ref n), some (.ref (n + 1)), some (.ref (n + 2)), x6, x7, x8, x9]
theorem step_l {l : Nat} : leastL r (l + 1) = if own r l = true then leastL r l ++ [l] else leastL r l := by
  unfold leastL
  rw [List.range_succ, List.filter_append]
  cases h : own r l <;> simp [h]
theorem step_m {l : Nat} : mostL r c ag (l + 1) = if okL r c ag l = true then mostL r c ag l ++ [l] else mostL r c ag l := by
  unfold mostL
  rw [List.range_succ, List.filter_append]
  cases h : okL r c ag l <;> simp [h]
theorem len_f {n : Nat} {q : Nat → Bool} : (((List.range n).filter q).map fun k => D.int (k : Nat)).length ≤ n := by
  rw [List.length_map]
  exact Nat.le_trans (List.length_filter_le _ _) (by simp)
/-- a turn -/
theorem lb_turn (hg : M[g]? = some (.lst (rowsR.map fun w => Vl.d (grp r w)))) (hp : M[p]? = some (.lst (rowsR.map fun w => Vl.d (w.at c)))) {l : Nat} (hl : l < 64) {G : MH} {x6 x8 x9 : Option D} :
    lp_law_bounds_1 (bE g p ag M.length x6 (some (.int (l : Nat))) x8 x9) (bM r c ag M l G) = (if stuck r c ag l = true then .rt .non (M ++ numsO (leastL r (l + 1)) :: numsO (mostL r c ag l) :: numsO (ownK r) :: (G ++ [numsO (wrong r c ag l)]))
      else .nx (bE g p ag M.length x6 (some (.int (l : Nat))) (some (Vl.d (grp r (rowAt l)))) (some (.ref (M.length + 3 + G.length)))) (bM r c ag M (l + 1) (G ++ [numsO (wrong r c ag l)]))) := by
  let e8 := bE g p ag M.length x6 (some (.int (l : Nat))) (some (Vl.d (grp r (rowAt l)))) x9
  let e9 := bE g p ag M.length x6 (some (.int (l : Nat))) (some (Vl.d (grp r (rowAt l)))) (some (.ref (M.length + 3 + G.length)))
  let G' := G ++ [numsO (wrong r c ag l)]
  have s8 : sSet 8 (eBin dIxA (eVar 0) (eVar 7)) (bE g p ag M.length x6 (some (.int (l : Nat))) x8 x9) (bM r c ag M l G) = .nx e8 (bM r c ag M l G) := St.set (St.bin rfl rfl (row_at (bMold hg) hl))
  have hlen : (bM r c ag M l G).length = M.length + 3 + G.length := by simp; omega
  have grow : bM r c ag M l G ++ [numsO (wrong r c ag l)] = bM r c ag M l G' := by simp [bM, G']
  have s9 : sSet 9 (eLc (iSeq (eVar 5)) (tgName 6) (bVal (eBin dNe (eCall 5 m_law_found (eCons (eVar 0) (eCons (eVar 1) (eCons (eVar 2) (eCons (eVar 6) (eCons (eVar 7) (eNil))))))) (eBin dEq (eBin dIxA (eVar 0) (eVar 6)) (eVar 8)))) (eVar 6) [6]) e8 (bM r c ag M l G) = .nx e9 (bM r c ag M l G') := by
    have q := T2.lc_all (mo := eVar 5) (tg := tgName 6) (tt := bVal (eBin dNe (eCall 5 m_law_found (eCons (eVar 0) (eCons (eVar 1) (eCons (eVar 2) (eCons (eVar 6) (eCons (eVar 7) (eNil))))))) (eBin dEq (eBin dIxA (eVar 0) (eVar 6)) (eVar 8)))) (m := eVar 6) (vs := [6]) (e := e8) (M0 := bM r c ag M l G) (M := bM r c ag M l G) (l := .ref (M.length + 2)) (f := fun k : Nat => D.int (k : Nat)) (g := fun k => if (fnd r c ag (rowAt k) (rowAt l) != decide (grp r (rowAt k) = grp r (rowAt l))) = true then some (.int (k : Nat)) else none) (xs := ownK r) rfl (row_it bM2) (fun k hk acc => by
      have hk := List.mem_range.mp (List.mem_filter.mp hk).1
      have a1 : ∀ i o, M[i]? = some o → (bM r c ag M l G ++ [.lst acc])[i]? = some o := fun i o z => by
        have q := bMold (r := r) (c := c) (ag := ag) (l := l) (G := G) z
        rw [List.getElem?_append_left (List.getElem?_eq_some_iff.mp q).1]; exact q
      exact St.lcs (e1 := bE g p ag M.length (some (.int (k : Nat))) (some (.int (l : Nat))) (some (Vl.d (grp r (rowAt l)))) x9) rfl (St.val (St.bin (St.call (St.cons rfl (St.cons rfl (St.cons rfl (St.cons rfl (St.cons rfl St.nil))))) rfl (found_run (a1 _ _ hg) (a1 _ _ hp) hk hl)) (St.bin (St.bin rfl rfl (row_at (a1 _ _ hg) hk)) rfl vl_eq) bl_ne)) fun _ => rfl) (by unfold ownK; exact Nat.le_trans (List.length_filter_le _ _) (by simp))
    rw [fm_if, hlen] at q
    exact (St.set q).trans (by rw [show (bM r c ag M l G ++ [MO.lst (((ownK r).filter fun k => fnd r c ag (rowAt k) (rowAt l) != decide (grp r (rowAt k) = grp r (rowAt l))).map fun k => D.int (k : Nat))]) = bM r c ag M l G ++ [numsO (wrong r c ag l)] from rfl, grow]; rfl)
  have wr : ∀ A B : List Nat, (M ++ numsO A :: numsO B :: numsO (ownK r) :: G')[M.length + 3 + G.length]? = some (numsO (wrong r c ag l)) := fun A B => by
    rw [List.getElem?_append_right (by omega), show M.length + 3 + G.length - M.length = G.length + 3 by omega]
    simp [G']
  have t1 : bVal (eBin dEq (eVar 9) (eFro (eNil))) e9 (bM r c ag M l G') = .ok (okL r c ag l) (bM r c ag M l G') := St.val (St.bin rfl (St.fro St.nil) (isnil (wr _ _)))
  have m1 : sIf (bVal (eBin dEq (eVar 9) (eFro (eNil)))) (sDo (eApp (eVar 4) (eVar 7))) (sNil) e9 (bM r c ag M l G') = .nx e9 (M ++ numsO (leastL r l) :: numsO (mostL r c ag (l + 1)) :: numsO (ownK r) :: G') := by
    rw [step_m]
    cases ho : okL r c ag l with
    | false => rw [ho] at t1; rw [if_neg (by decide)]; exact St.ifF t1 rfl
    | true =>
      rw [ho] at t1
      rw [if_pos rfl]
      refine St.ifT t1 ((St.sdo (St.app (n := M.length + 1) rfl ⟨_, bM1⟩ rfl bM1 (Nat.lt_of_le_of_lt len_f (by omega)))).trans ?_)
      congr 1
      rw [List.set_append_right _ _ (by omega), Nat.add_sub_cancel_left]
      simp
  have t2 : bVal (eBin dIsNot (eBin dIxA (eVar 0) (eVar 7)) (eC .non)) e9 (M ++ numsO (leastL r l) :: numsO (mostL r c ag (l + 1)) :: numsO (ownK r) :: G') = .ok (own r l) (M ++ numsO (leastL r l) :: numsO (mostL r c ag (l + 1)) :: numsO (ownK r) :: G') := by
    have hg' : (M ++ numsO (leastL r l) :: numsO (mostL r c ag (l + 1)) :: numsO (ownK r) :: G')[g]? = some (.lst (rowsR.map fun w => Vl.d (grp r w))) := by
      rw [List.getElem?_append_left (List.getElem?_eq_some_iff.mp hg).1]; exact hg
    exact St.val (St.bin (St.bin rfl rfl (row_at hg' hl)) rfl vl_notnon)
  unfold stuck
  cases ho : own r l with
  | false =>
    rw [ho] at t2
    rw [Bool.false_and, if_neg (by decide)]
    refine St.seq s8 (St.seq s9 (St.seq m1 ((St.ifF t2 rfl).trans ?_)))
    unfold bM
    rw [step_l, ho, if_neg (by decide)]
    rfl
  | true =>
    rw [ho] at t2
    rw [Bool.true_and]
    have ap : sDo (eApp (eVar 3) (eVar 7)) e9 (M ++ numsO (leastL r l) :: numsO (mostL r c ag (l + 1)) :: numsO (ownK r) :: G') = .nx e9 (M ++ numsO (leastL r (l + 1)) :: numsO (mostL r c ag (l + 1)) :: numsO (ownK r) :: G') := by
      have h0 : (M ++ numsO (leastL r l) :: numsO (mostL r c ag (l + 1)) :: numsO (ownK r) :: G')[M.length]? = some (numsO (leastL r l)) := by simp
      refine (St.sdo (St.app (n := M.length) rfl ⟨_, h0⟩ rfl h0 (Nat.lt_of_le_of_lt len_f (by omega)))).trans ?_
      rw [step_l, ho, if_pos rfl]
      simp
    have t3 : bVal (eBin dNe (eVar 9) (eFro (eNil))) e9 (M ++ numsO (leastL r (l + 1)) :: numsO (mostL r c ag (l + 1)) :: numsO (ownK r) :: G') = .ok (!okL r c ag l) (M ++ numsO (leastL r (l + 1)) :: numsO (mostL r c ag (l + 1)) :: numsO (ownK r) :: G') := St.val (St.bin rfl (St.fro St.nil) (notnil (wr _ _)))
    refine St.seq s8 (St.seq s9 (St.seq m1 (St.ifT t2 (St.seq ap ?_))))
    cases hk : okL r c ag l with
    | false =>
      rw [hk] at t3
      rw [Bool.not_false, if_pos rfl]
      refine (St.ifT t3 (St.ret rfl)).trans ?_
      rw [step_m, hk, if_neg (by decide)]
    | true =>
      rw [hk] at t3
      rw [Bool.not_true, if_neg (by decide)]
      exact St.ifF t3 rfl
theorem lb_loop (hg : M[g]? = some (.lst (rowsR.map fun w => Vl.d (grp r w)))) (hp : M[p]? = some (.lst (rowsR.map fun w => Vl.d (w.at c)))) : ∀ (n l : Nat), l + n = 64 → ∀ (G : MH) (x6 x7 x8 x9 : Option D),
    (∃ G', (List.range' l n).any (stuck r c ag) = true ∧ forV (tgName 7) lp_law_bounds_1 ((List.range' l n).map fun k => D.int (k : Nat)) (bE g p ag M.length x6 x7 x8 x9) (bM r c ag M l G) = .rt .non (M ++ G')) ∨
    ((List.range' l n).any (stuck r c ag) = false ∧ ∃ G' y6 y7 y8 y9, forV (tgName 7) lp_law_bounds_1 ((List.range' l n).map fun k => D.int (k : Nat)) (bE g p ag M.length x6 x7 x8 x9) (bM r c ag M l G) = .nx (bE g p ag M.length y6 y7 y8 y9) (bM r c ag M 64 G'))
  | 0, l, h, G, x6, x7, x8, x9 => by
    obtain rfl : l = 64 := by omega
    exact .inr ⟨rfl, G, x6, x7, x8, x9, rfl⟩
  | n + 1, l, h, G, x6, x7, x8, x9 => by
    have t := lb_turn (ag := ag) hg hp (l := l) (by omega) (G := G) (x6 := x6) (x8 := x8) (x9 := x9)
    rw [List.range'_succ, List.map_cons, List.any_cons]
    cases hs : stuck r c ag l with
    | true =>
      rw [hs, if_pos rfl] at t
      exact .inl ⟨_, by rw [Bool.true_or], St.fvR rfl t⟩
    | false =>
      rw [hs, if_neg (by decide)] at t
      rw [Bool.false_or]
      rcases lb_loop hg hp n (l + 1) (by omega) (G ++ [numsO (wrong r c ag l)]) x6 (some (.int (l : Nat))) (some (Vl.d (grp r (rowAt l)))) (some (.ref (M.length + 3 + G.length))) with ⟨G', a, b⟩ | ⟨a, G', y6, y7, y8, y9, b⟩
      · exact .inl ⟨G', a, St.fvN rfl t b⟩
      · exact .inr ⟨a, G', y6, y7, y8, y9, St.fvN rfl t b⟩
theorem lbounds_run (hg : M[g]? = some (.lst (rowsR.map fun w => Vl.d (grp r w)))) (hp : M[p]? = some (.lst (rowsR.map fun w => Vl.d (w.at c)))) : m_law_bounds [.ref g, .ref p, .bl ag] M = .ok (lbD r c ag) M := by
  have s3 : sSet 3 (eLst eNil) (env0 10 [.ref g, .ref p, .bl ag]) M = .nx [some (.ref g), some (.ref p), some (.bl ag), some (.ref M.length), none, none, none, none, none, none] (M ++ [.lst []]) := St.set (St.lst St.nil)
  have s4 : sSet 4 (eLst eNil) [some (.ref g), some (.ref p), some (.bl ag), some (.ref M.length), none, none, none, none, none, none] (M ++ [.lst []]) = .nx [some (.ref g), some (.ref p), some (.bl ag), some (.ref M.length), some (.ref (M.length + 1)), none, none, none, none, none] (M ++ [.lst [], .lst []]) :=
    (St.set (St.lst St.nil)).trans (by simp)
  have old : ∀ acc : List D, (M ++ [MO.lst [], MO.lst []] ++ [MO.lst acc])[g]? = some (.lst (rowsR.map fun w => Vl.d (grp r w))) := fun acc => by
    rw [List.append_assoc, List.getElem?_append_left (List.getElem?_eq_some_iff.mp hg).1]; exact hg
  have s5 : sSet 5 (eLc (iRange1 (eC (.int 64))) (tgName 6) (bVal (eBin dIsNot (eBin dIxA (eVar 0) (eVar 6)) (eC .non))) (eVar 6) [6]) [some (.ref g), some (.ref p), some (.bl ag), some (.ref M.length), some (.ref (M.length + 1)), none, none, none, none, none] (M ++ [.lst [], .lst []]) = .nx (bE g p ag M.length none none none none) (bM r c ag M 0 []) := by
    have q := St.lcv (tg := tgName 6) (tt := bVal (eBin dIsNot (eBin dIxA (eVar 0) (eVar 6)) (eC .non))) (m := eVar 6) (vs := [6]) (e := [some (.ref g), some (.ref p), some (.bl ag), some (.ref M.length), some (.ref (M.length + 1)), none, none, none, none, none]) (f := fun k : Nat => D.int (k : Nat)) (g := fun k => if own r k = true then some (.int (k : Nat)) else none) (xs := List.range 64) (it := iRange1 (eC (.int 64))) (M0 := M ++ [.lst [], .lst []]) (M := M ++ [.lst [], .lst []]) (by rw [rng64, rng_map])
      (fun k hk acc => St.lcs (e1 := [some (.ref g), some (.ref p), some (.bl ag), some (.ref M.length), some (.ref (M.length + 1)), none, some (.int (k : Nat)), none, none, none]) rfl (St.val (St.bin (St.bin rfl rfl (row_at (old acc) (List.mem_range.mp hk))) rfl vl_notnon)) fun _ => rfl) (by simp)
    rw [fm_if] at q
    refine (St.set q).trans ?_
    simp only [List.length_append, List.length_cons, List.length_nil, List.append_assoc, List.cons_append, List.nil_append]
    rfl
  have rg : (List.range 64).map (fun k => D.int (k : Nat)) = (List.range' 0 64).map fun k => D.int (k : Nat) := by rw [List.range_eq_range']
  have nb : noB r c ag = (List.range' 0 64).any (stuck r c ag) := by unfold noB; rw [List.range_eq_range']
  unfold lbD
  rw [nb]
  rcases lb_loop (ag := ag) hg hp 64 0 rfl [] none none none none with ⟨G', a, b⟩ | ⟨a, G', y6, y7, y8, y9, b⟩
  · rw [a, if_pos rfl]
    refine frzP_pd (k := 1) (G := G') (St.fn (St.seq s3 (St.seq s4 (St.seq s5 (St.seqR ?_))))) (.inl rfl)
    rw [z_for, rng64, z_for_v, rng_map, rg]
    exact b
  · rw [a, if_neg (by decide)]
    have e := St.fn (n := 10) (b := b_law_bounds) (ds := [.ref g, .ref p, .bl ag]) (M := M) (St.seq s3 (St.seq s4 (St.seq s5 (St.seq (e1 := bE g p ag M.length y6 y7 y8 y9) (M1 := bM r c ag M 64 G') (by rw [z_for, rng64, z_for_v, rng_map, rg]; exact b) (St.ret (St.lst (St.cons rfl (St.cons rfl St.nil))))))))
    have hl : (bM r c ag M 64 G').length = M.length + 3 + G'.length := by simp; omega
    rw [List.append_assoc] at e
    refine frzP_ok e ?_
    rw [← List.append_assoc]
    have at0 : ∀ i o, (bM r c ag M 64 G')[i]? = some o → (bM r c ag M 64 G' ++ [MO.lst [.ref M.length, .ref (M.length + 1)]])[i]? = some o := fun i o z => by
      rw [List.getElem?_append_left (List.getElem?_eq_some_iff.mp z).1]; exact z
    have low : ∀ ks : List Nat, fzAs (rfz (bM r c ag M 64 G' ++ [MO.lst [.ref M.length, .ref (M.length + 1)]]) M.length 2) (ks.map fun k => D.int (k : Nat)) = some (ks.map fun k => D.int (k : Nat)) := fun ks => fzs_low (lows_of fun a ha => by
      obtain ⟨k, _, rfl⟩ := List.mem_map.mp ha
      exact trivial)
    refine fz_list (ds := [.ref M.length, .ref (M.length + 1)]) (by rw [hl]; omega) (by simp) ?_
    unfold fzAs
    rw [fz_list (by omega) (at0 _ _ bM0) (low _)]
    unfold fzAs
    rw [fz_list (by omega) (at0 _ _ bM1) (low _)]
    rfl
end
end K13
namespace K13
open PySem L2 T2
/-! ### a dict from values to values -/
def ck (c : C3) : Key := .inl c.i
theorem ck_inj : ∀ a b : C3, ck a = ck b → a = b := by intro a b; cases a <;> cases b <;> decide
section
def pfind (l : List (C3 × C3)) (a : C3) : Option C3 := (l.find? fun e => decide (e.1 = a)).map (·.2)
def pput (l : List (C3 × C3)) (a x : C3) : List (C3 × C3) := if a ∈ l.map (·.1) then l.map (fun e => if e.1 = a then (a, x) else e) else l ++ [(a, x)]
def pK (l : List (C3 × C3)) : List Key := l.map fun e => ck e.1
def pV (l : List (C3 × C3)) : List D := l.map fun e => D.int e.2.i
variable {l : List (C3 × C3)} {a b x : C3}
theorem ak_get : kGet (pK l) (pV l) (ck a) = (l.find? fun e => decide (e.1 = a)).map fun e => D.int e.2.i := by
  unfold kGet pK pV
  induction l with
  | nil => rfl
  | cons y l ih =>
    rw [List.map_cons, List.map_cons, List.zip_cons_cons, List.find?_cons, List.find?_cons]
    by_cases h : y.1 = a
    · rw [decide_eq_true (by rw [h]), decide_eq_true h]
      rfl
    · rw [decide_eq_false (fun z => h (ck_inj _ _ z)), decide_eq_false h]
      exact ih
theorem ak_mem : ck a ∈ pK l ↔ a ∈ l.map (·.1) := by
  unfold pK
  simp only [List.mem_map]
  exact ⟨fun ⟨e, h, z⟩ => ⟨e, h, ck_inj _ _ z⟩, fun ⟨e, h, z⟩ => ⟨e, h, by rw [z]⟩⟩
theorem ak_put : kPutD (ck a) (.int x.i) (pK l) (pV l) = (pK (pput l a x), pV (pput l a x)) := by
  unfold kPutD pput
  by_cases h : a ∈ l.map (·.1)
  · rw [if_pos ((ak_mem).mpr h), if_pos h]
    clear h
    have h1 : pK (l.map fun e => if e.1 = a then (a, x) else e) = pK l := by
      unfold pK
      rw [List.map_map]
      refine List.map_congr_left fun e _ => ?_
      show ck (if e.1 = a then (a, x) else e).1 = ck e.1
      by_cases h : e.1 = a
      · rw [if_pos h, h]
      · rw [if_neg h]
    rw [h1]
    clear h1
    congr 1
    unfold pK pV
    induction l with
    | nil => rfl
    | cons e l ih =>
      rw [List.map_cons, List.map_cons, List.zipWith_cons_cons, ih, List.map_cons, List.map_cons]
      congr 1
      by_cases h : e.1 = a
      · rw [if_pos (by rw [h]), if_pos h]
      · rw [if_neg (fun z => h (ck_inj _ _ z)), if_neg h]
  · rw [if_neg (fun z => h ((ak_mem).mp z)), if_neg h]
    unfold pK pV
    rw [List.map_append, List.map_append]
    rfl
theorem pfind_put : pfind (pput l a x) b = if b = a then some x else pfind l b := by
  unfold pfind pput
  by_cases h : a ∈ l.map (·.1)
  · rw [if_pos h]
    induction l with
    | nil => exact absurd h (List.not_mem_nil)
    | cons e l ih =>
      rw [List.map_cons, List.find?_cons, List.find?_cons]
      by_cases he : e.1 = a
      · rw [if_pos he]
        by_cases hb : b = a
        · rw [decide_eq_true hb.symm, if_pos hb]
          rfl
        · rw [decide_eq_false (fun z => hb z.symm), decide_eq_false (fun z => hb (z.symm.trans he)), if_neg hb]
          by_cases hm : a ∈ l.map (·.1)
          · have := ih hm
            rw [if_neg hb] at this
            exact this
          · have hq : l.map (fun e => if e.1 = a then (a, x) else e) = l := by
              conv => rhs; rw [← List.map_id l]
              refine List.map_congr_left fun e he => ?_
              rw [if_neg fun z => hm (List.mem_map.mpr ⟨e, he, z⟩)]
              rfl
            rw [hq]
      · rw [if_neg he]
        have hm : a ∈ l.map (·.1) := by
          rw [List.map_cons] at h
          exact (List.mem_cons.mp h).resolve_left fun z => he z.symm
        by_cases hb : e.1 = b
        · rw [decide_eq_true hb]
          by_cases hba : b = a
          · exact absurd (hb.trans hba) he
          · rw [if_neg hba]
        · rw [decide_eq_false hb]
          exact ih hm
  · rw [if_neg h, List.find?_append]
    by_cases hb : b = a
    · subst hb
      have : l.find? (fun e => decide (e.1 = b)) = none := by
        rw [List.find?_eq_none]
        intro e he z
        exact h (List.mem_map.mpr ⟨e, he, of_decide_eq_true z⟩)
      rw [this, if_pos rfl]
      simp
    · rw [if_neg hb]
      cases hq : l.find? (fun e => decide (e.1 = b)) with
      | some e => rfl
      | none => simp [Ne.symm hb]
theorem pput_nd (h : (l.map (·.1)).Nodup) : ((pput l a x).map (·.1)).Nodup := by
  unfold pput
  by_cases hm : a ∈ l.map (·.1)
  · rw [if_pos hm, List.map_map]
    have : (l.map ((fun e : C3 × C3 => e.1) ∘ fun e => if e.1 = a then (a, x) else e)) = l.map (·.1) := by
      refine List.map_congr_left fun e _ => ?_
      show (if e.1 = a then (a, x) else e).1 = e.1
      by_cases h : e.1 = a
      · rw [if_pos h, h]
      · rw [if_neg h]
    rw [this]
    exact h
  · rw [if_neg hm, List.map_append]
    refine List.nodup_append.mpr ⟨h, by simp, fun y hy z hz => ?_⟩
    rw [List.mem_singleton.mp hz]
    exact fun q => hm (by rw [← show y = a from q]; exact hy)
theorem pfind_of (h : (l.map (·.1)).Nodup) {e : C3 × C3} (he : e ∈ l) : pfind l e.1 = some e.2 := by
  unfold pfind
  induction l with
  | nil => exact absurd he (List.not_mem_nil)
  | cons y l ih =>
    rw [List.map_cons, List.nodup_cons] at h
    rw [List.find?_cons]
    rcases List.mem_cons.mp he with rfl | hm
    · rw [decide_eq_true rfl]
      rfl
    · rw [decide_eq_false fun z => h.1 (List.mem_map.mpr ⟨e, hm, z.symm⟩)]
      exact ih h.2 hm

theorem pfind_mem (h : pfind l a = some x) : (a, x) ∈ l := by
  unfold pfind at h
  obtain ⟨e, he, rfl⟩ := Option.map_eq_some_iff.mp h
  have h1 := List.find?_some he
  obtain rfl : e.1 = a := of_decide_eq_true h1
  exact List.mem_of_find?_eq_some he
theorem pput_len : (pput l a x).length ≤ l.length + 1 := by
  unfold pput
  split
  · rw [List.length_map]; omega
  · rw [List.length_append]; exact Nat.le_refl _
/-- turned round -/
def turn (l : List (C3 × C3)) : List (C3 × C3) := l.foldl (fun acc e => pput acc e.2 e.1) []
theorem fold_nd : ∀ (l acc : List (C3 × C3)), (acc.map (·.1) ++ l.map (·.2)).Nodup → l.foldl (fun acc e => pput acc e.2 e.1) acc = acc ++ l.map fun e => (e.2, e.1)
  | [], acc, _ => by simp
  | e :: l, acc, h => by
    have hn : e.2 ∉ acc.map (·.1) := fun z => by
      rw [List.nodup_append] at h
      exact h.2.2 _ z _ (List.mem_map.mpr ⟨e, List.mem_cons_self, rfl⟩) rfl
    rw [List.foldl_cons, show pput acc e.2 e.1 = acc ++ [(e.2, e.1)] by unfold pput; rw [if_neg hn], fold_nd l (acc ++ [(e.2, e.1)]) (by simpa using h)]
    simp
theorem turn_nd (h : (l.map (·.2)).Nodup) : turn l = l.map fun e => (e.2, e.1) := by
  unfold turn
  rw [fold_nd l [] (by simpa using h)]
  rfl
theorem fold_len : ∀ (l acc : List (C3 × C3)), (l.foldl (fun acc e => pput acc e.2 e.1) acc).length ≤ acc.length + l.length
  | [], acc => Nat.le_refl _
  | e :: l, acc => by
    rw [List.foldl_cons, List.length_cons]
    have := fold_len l (pput acc e.2 e.1)
    have := pput_len (l := acc) (a := e.2) (x := e.1)
    omega
theorem put_keys : (pput l a x).map (·.1) = if a ∈ l.map (·.1) then l.map (·.1) else l.map (·.1) ++ [a] := by
  unfold pput
  split
  · rw [List.map_map]
    refine List.map_congr_left fun e _ => ?_
    show (if e.1 = a then (a, x) else e).1 = e.1
    by_cases h : e.1 = a
    · rw [if_pos h, h]
    · rw [if_neg h]
  · rw [List.map_append]; rfl
theorem fold_lt : ∀ (l acc : List (C3 × C3)), (acc.map (·.1)).Nodup → ¬ (acc.map (·.1) ++ l.map (·.2)).Nodup → (l.foldl (fun acc e => pput acc e.2 e.1) acc).length < acc.length + l.length
  | [], acc, h, n => absurd (by simpa using h) n
  | e :: l, acc, h, n => by
    rw [List.foldl_cons, List.length_cons]
    by_cases hm : e.2 ∈ acc.map (·.1)
    · have := fold_len l (pput acc e.2 e.1)
      have e2 : (pput acc e.2 e.1).length = acc.length := by unfold pput; rw [if_pos hm, List.length_map]
      omega
    · have k1 : (pput acc e.2 e.1).map (·.1) = acc.map (·.1) ++ [e.2] := by rw [put_keys, if_neg hm]
      have := fold_lt l (pput acc e.2 e.1) (pput_nd h) (by rw [k1, List.append_assoc]; exact n)
      have := pput_len (l := acc) (a := e.2) (x := e.1)
      omega
theorem turn_lt (h : ¬ (l.map (·.2)).Nodup) : (turn l).length < l.length := by
  have := fold_lt l [] List.nodup_nil (by simpa using h)
  simpa [turn] using this
theorem pK_len : (pK l).length = l.length := by unfold pK; rw [List.length_map]
theorem pV_len : (pV l).length = l.length := by unfold pV; rw [List.length_map]
abbrev pO (l : List (C3 × C3)) : MO := .dk (pK l) (pV l)
theorem ck_of (a : C3) : keyOf (.int a.i) = some (ck a) := rfl
theorem set_dk {M : MH} {n : Nat} (h : M[n]? = some (pO l)) (hl : l.length ≤ 1000) : dSetD (.ref n) (.int a.i) (.int x.i) M = some (M.set n (pO (pput l a x))) := by
  unfold dSetD
  dsimp only
  rw [h]
  dsimp only
  rw [ck_of]
  dsimp only
  rw [if_pos (by rw [pV_len]; exact hl), ak_put]
/-- a dict turned round by a comprehension over its items -/
theorem items_p : itemsD (pK l) (pV l) = l.map fun (e : C3 × C3) => D.tup [.int e.1.i, .int e.2.i] := by
  unfold itemsD pK pV
  induction l with
  | nil => rfl
  | cons e l ih => rw [List.map_cons, List.map_cons, List.zipWith_cons_cons, ih]; rfl
theorem dc_turn {tg : TgM} {tt : BM} {mk mv : EM} {e : Env2} {M : MH} : ∀ (l acc : List (C3 × C3)), (∀ y ∈ l, ∀ M', dcStep tg tt mk mv e (.tup [.int y.1.i, .int y.2.i]) M' = .ok (some (ck y.2, .int y.1.i)) M') → acc.length + l.length ≤ 1000 →
    dcV tg tt mk mv e M.length (l.map fun (e : C3 × C3) => D.tup [.int e.1.i, .int e.2.i]) (M ++ [pO acc]) = .ok (.ref M.length) (M ++ [pO (l.foldl (fun acc e => pput acc e.2 e.1) acc)])
  | [], acc, _, _ => rfl
  | y :: l, acc, h, hl => by
    rw [List.map_cons, List.foldl_cons]
    unfold dcV
    rw [h y List.mem_cons_self]
    have p : T2.putAt M.length (some (ck y.2, .int y.1.i)) (M ++ [pO acc]) = some (M ++ [pO (pput acc y.2 y.1)]) := by
      unfold T2.putAt
      dsimp only
      have e0 : (M ++ [pO acc])[M.length]? = some (pO acc) := by simp
      rw [e0]
      dsimp only
      rw [if_pos (by rw [pV_len]; rw [List.length_cons] at hl; omega), ak_put]
      simp
    show (match T2.putAt M.length (some (ck y.2, .int y.1.i)) (M ++ [pO acc]) with
      | some M2 => dcV tg tt mk mv e M.length (l.map fun (e : C3 × C3) => D.tup [.int e.1.i, .int e.2.i]) M2
      | none => .bad) = _
    rw [p]
    have := pput_len (l := acc) (a := y.2) (x := y.1)
    rw [List.length_cons] at hl
    exact dc_turn l (pput acc y.2 y.1) (fun z hz => h z (List.mem_cons_of_mem _ hz)) (by omega)
end
end K13
namespace K13
open PySem L2 T2
/-! ### arbiter_bounds: the walk -/
section
variable (r : Rl) (c : C3)
/-- the rows that may not be left out -/
def leastR : List Rw := rowsR.filter fun w => decide (grp r w ≠ none)
/-- what is found beside a row -/
def seen (ps : List (C3 × C3)) (w : Rw) : Vl := match grp r w with
  | some g => (match pfind ps g with
    | some p => some p
    | none => w.at c)
  | none => none
def badW (ps : List (C3 × C3)) (w : Rw) : Bool := decide (w.at c = none) || decide (seen r c ps w ≠ w.at c)
def putW (ps : List (C3 × C3)) (w : Rw) : List (C3 × C3) := match grp r w, w.at c with
  | some g, some p => pput ps g p
  | _, _ => ps
def walkP : List (C3 × C3) → List Rw → Option (List (C3 × C3))
  | ps, [] => some ps
  | ps, w :: ws => if badW r c ps w = true then none else walkP (putW r c ps w) ws
/-- whose place is taken by nobody else -/
def freeW (os : List (C3 × C3)) (w : Rw) : Bool := match w.at c with
  | none => true
  | some p => (match pfind os p with
    | some g => decide (some g = grp r w)
    | none => true)
def abD (ag : Bool) : D := match walkP r c [] (leastR r) with
  | none => .non
  | some ps => if ag = true then .tup [.fro ((leastR r).map Rw.d), .fro (rowsR.map Rw.d)]
    else if (turn ps).length < ps.length then .non else .tup [.fro ((leastR r).map Rw.d), .fro ((rowsR.filter (freeW r c (turn ps))).map Rw.d)]
end
section
variable {r : Rl} {c : C3} {ag : Bool} {M : MH}
abbrev cM (r : Rl) (M : MH) (ps : List (C3 × C3)) : MH := M ++ [gO r, .lst ((leastR r).map Rw.d), pO ps]
abbrev cE (r : Rl) (c : C3) (ag : Bool) (n : Nat) (x5 x7 : Option D) : Env2 := [some r.d, some (.int c.i), some (.bl ag), some (.ref n), some (.ref (n + 1)), x5, some (.ref (n + 2)), x7, none, none]
theorem cM0 {ps : List (C3 × C3)} : (cM r M ps)[M.length]? = some (gO r) := by simp
theorem cM1 {ps : List (C3 × C3)} : (cM r M ps)[M.length + 1]? = some (.lst ((leastR r).map Rw.d)) := by rw [List.getElem?_append_right (by omega), Nat.add_sub_cancel_left]; rfl
theorem cM2 {ps : List (C3 × C3)} : (cM r M ps)[M.length + 2]? = some (pO ps) := by rw [List.getElem?_append_right (by omega), Nat.add_sub_cancel_left]; rfl
theorem cset {ps qs : List (C3 × C3)} : (cM r M ps).set (M.length + 2) (pO qs) = cM r M qs := by
  rw [List.set_append_right _ _ (by omega), Nat.add_sub_cancel_left]; rfl
theorem ab_turn {ps : List (C3 × C3)} {w : Rw} (hw : grp r w ≠ none) (hl : ps.length ≤ 1000) {x7 : Option D} :
    lp_arbiter_bounds_1 (cE r c ag M.length (some w.d) x7) (cM r M ps) = if badW r c ps w = true then .rt .non (cM r M ps) else .nx (cE r c ag M.length (some w.d) (some (Vl.d (grp r w)))) (cM r M (putW r c ps w)) := by
  obtain ⟨g, hg⟩ : ∃ g, grp r w = some g := by cases h : grp r w with
    | none => exact absurd h hw
    | some g => exact ⟨g, rfl⟩
  have gd : Vl.d (grp r w) = .int g.i := by rw [hg]; rfl
  let e7 := cE r c ag M.length (some w.d) (some (.int g.i))
  have s7 : sSet 7 (eBin dIxP (eVar 3) (eVar 5)) (cE r c ag M.length (some w.d) x7) (cM r M ps) = .nx e7 (cM r M ps) := (St.set (St.bin rfl rfl (gix (r := r) (w := w) (pOf_dp cM0)))).trans (by rw [gd]; rfl)
  have pl : eBin dIxA (eVar 5) (eVar 1) e7 (cM r M ps) = .ok (Vl.d (w.at c)) (cM r M ps) := St.bin rfl rfl at_ix
  have get : eDGet2 (eVar 6) (eVar 7) (eBin dIxA (eVar 5) (eVar 1)) e7 (cM r M ps) = .ok (Vl.d (seen r c ps w)) (cM r M ps) := by
    rw [St.dget2 (mo := eVar 6) (mk := eVar 7) (e := e7) (k := ck g) rfl cM2 rfl pl cM2 rfl, ak_get]
    unfold seen pfind
    rw [hg]
    dsimp only
    cases ps.find? fun e => decide (e.1 = g) <;> rfl
  have t : bOr (bVal (eBin dIs (eBin dIxA (eVar 5) (eVar 1)) (eC .non))) (bVal (eBin dNe (eDGet2 (eVar 6) (eVar 7) (eBin dIxA (eVar 5) (eVar 1))) (eBin dIxA (eVar 5) (eVar 1)))) e7 (cM r M ps) = .ok (badW r c ps w) (cM r M ps) :=
    St.bor2 (St.val (St.bin pl rfl vl_isnon)) fun _ => St.val (St.bin get pl vl_ne)
  rw [gd]
  cases hb : badW r c ps w with
  | true =>
    rw [hb] at t
    rw [if_pos rfl]
    exact St.seq s7 (St.seqR (St.ifT t (St.ret rfl)))
  | false =>
    rw [hb] at t
    rw [if_neg (by decide)]
    obtain ⟨p, hp⟩ : ∃ p, w.at c = some p := by
      cases h : w.at c with
      | none => unfold badW at hb; rw [h] at hb; cases hb
      | some p => exact ⟨p, rfl⟩
    have pl' : eBin dIxA (eVar 5) (eVar 1) e7 (cM r M ps) = .ok (.int p.i) (cM r M ps) := by rw [pl, hp]; rfl
    refine St.seq s7 (St.seq (St.ifF t rfl) ((St.setIx pl' rfl rfl (set_dk cM2 hl)).trans ?_))
    rw [cset]
    unfold putW
    rw [hg, hp]
theorem putW_len {ps : List (C3 × C3)} {w : Rw} : (putW r c ps w).length ≤ ps.length + 1 := by
  unfold putW
  split
  · exact pput_len
  · omega
theorem ab_loop : ∀ (ws : List Rw) (ps : List (C3 × C3)) (x5 x7 : Option D), (∀ w ∈ ws, grp r w ≠ none) → ps.length + ws.length ≤ 1000 →
    (∃ qs, walkP r c ps ws = none ∧ forV (tgName 5) lp_arbiter_bounds_1 (ws.map Rw.d) (cE r c ag M.length x5 x7) (cM r M ps) = .rt .non (cM r M qs)) ∨
    (∃ qs y5 y7, walkP r c ps ws = some qs ∧ qs.length ≤ ps.length + ws.length ∧ forV (tgName 5) lp_arbiter_bounds_1 (ws.map Rw.d) (cE r c ag M.length x5 x7) (cM r M ps) = .nx (cE r c ag M.length y5 y7) (cM r M qs))
  | [], ps, x5, x7, _, _ => .inr ⟨ps, x5, x7, rfl, Nat.le_refl _, rfl⟩
  | w :: ws, ps, x5, x7, h, hl => by
    rw [List.length_cons] at hl
    have t := ab_turn (r := r) (c := c) (ag := ag) (M := M) (h w List.mem_cons_self) (ps := ps) (by omega) (x7 := x7)
    rw [List.map_cons]
    unfold walkP
    cases hb : badW r c ps w with
    | true =>
      rw [hb, if_pos rfl] at t
      exact .inl ⟨ps, by rw [if_pos rfl], St.fvR rfl t⟩
    | false =>
      rw [hb, if_neg (by decide)] at t
      rw [if_neg (by decide)]
      have := putW_len (r := r) (c := c) (ps := ps) (w := w)
      rcases ab_loop ws (putW r c ps w) (some w.d) (some (Vl.d (grp r w))) (fun v hv => h v (List.mem_cons_of_mem _ hv)) (by omega) with ⟨qs, a, b⟩ | ⟨qs, y5, y7, a, l, b⟩
      · exact .inl ⟨qs, a, St.fvN rfl t b⟩
      · exact .inr ⟨qs, y5, y7, a, by rw [List.length_cons]; omega, St.fvN rfl t b⟩
theorem ab_for {e : Env2} {x5 x7 : Option D} (he : e = cE r c ag M.length x5 x7) : sForI (iSeq (eVar 4)) (tgName 5) lp_arbiter_bounds_1 e (cM r M []) = forV (tgName 5) lp_arbiter_bounds_1 ((leastR r).map Rw.d) e (cM r M []) := by
  subst he
  refine for_items_J (I := fun i e M' => ∃ ps x y, e = cE r c ag M.length x y ∧ M' = cM r M ps ∧ ps.length ≤ i) (m := eVar 4) (l := .ref (M.length + 1)) rfl (row_li cM1) ⟨[], x5, x7, rfl, rfl, Nat.le_refl _⟩ (fun i e M' ⟨ps, x, y, h1, h2, _⟩ => by rw [h2]; exact row_li cM1) fun i x hx e e1 M' hI ht e2 M2 hb => ?_
  obtain ⟨ps, x5', x7', rfl, rfl, hl⟩ := hI
  rw [List.getElem?_map] at hx
  obtain ⟨w, hw, rfl⟩ := Option.map_eq_some_iff.mp hx
  have hm := (List.mem_filter.mp (List.mem_of_getElem? hw)).2
  have hi : i < 64 := Nat.lt_of_lt_of_le (List.getElem?_eq_some_iff.mp hw).1 (Nat.le_trans (List.length_filter_le _ _) (by rw [rowsR_len]; exact Nat.le_refl _))
  have t := ab_turn (r := r) (c := c) (ag := ag) (M := M) (of_decide_eq_true hm) (ps := ps) (by omega) (x7 := x7')
  cases ht
  have t' : lp_arbiter_bounds_1 ((cE r c ag M.length x5' x7').set 5 (some w.d)) (cM r M ps) = _ := t
  cases hbw : badW r c ps w with
  | true =>
    rw [hbw, if_pos rfl] at t'
    rw [t'] at hb
    rcases hb with z | z <;> cases z
  | false =>
    rw [hbw, if_neg (by decide)] at t'
    rw [t'] at hb
    have := putW_len (r := r) (c := c) (ps := ps) (w := w)
    rcases hb with z | z <;> cases z
    exact ⟨_, _, _, rfl, rfl, by omega⟩
end
end K13
namespace K13
open PySem L2 T2
/-! ### arbiter_bounds -/
section
variable {r : Rl} {c : C3} {ag : Bool} {M : MH}
theorem leastR_len : (leastR r).length ≤ 64 := Nat.le_trans (List.length_filter_le _ _) (by rw [rowsR_len]; exact Nat.le_refl _)
theorem low_rows {xs : List Rw} : D.lows 0 (xs.map Rw.d) := lows_of fun a ha => by
  obtain ⟨w, _, rfl⟩ := List.mem_map.mp ha
  exact low_pd (pd_row (k := 0) w)
theorem fz_two {M : MH} {k a b : Nat} {xs ys : List Rw} (ha : k ≤ a) (h1 : M[a]? = some (.lst (xs.map Rw.d))) (hb : k ≤ b) (h2 : M[b]? = some (.lst (ys.map Rw.d))) : fzA (rfz M k 4) (.tup [.ref a, .ref b]) = some (.tup [.fro (xs.map Rw.d), .fro (ys.map Rw.d)]) := by
  unfold fzA fzAs
  rw [fz_list ha h1 (fzs_low low_rows)]
  unfold fzAs
  rw [fz_list hb h2 (fzs_low low_rows)]
  rfl
theorem fz_two' {M : MH} {k a : Nat} {xs ys : List Rw} (ha : k ≤ a) (h1 : M[a]? = some (.lst (xs.map Rw.d))) : fzA (rfz M k 4) (.tup [.ref a, .fro (ys.map Rw.d)]) = some (.tup [.fro (xs.map Rw.d), .fro (ys.map Rw.d)]) := by
  unfold fzA fzAs
  rw [fz_list ha h1 (fzs_low low_rows)]
  unfold fzAs
  rw [fz_low (low_fro fun a ha => by
    obtain ⟨w, _, rfl⟩ := List.mem_map.mp ha
    exact low_pd (pd_row (k := 0) w))]
  rfl
/-- up to the walk -/
theorem ab_start (hr : RlOk r) {rest : SM} {res : SR} (h : rest (cE r c ag M.length none none) (cM r M []) = res) :
    sSeq (sSet 3 (eCall 1 m_groups_of (eCons (eVar 0) (eNil)))) (sSeq (sLockP (nfE (eVar 3)) (sSet 4 (eLc (iKeysPD (eVar 3)) (tgName 5) (bVal (eBin dIsNot (eBin dIxP (eVar 3) (eVar 5)) (eC .non))) (eVar 5) [5]))) (sSeq (sSet 6 (eDNew)) rest)) [some r.d, some (.int c.i), some (.bl ag), none, none, none, none, none, none, none] M = res := by
  have s3 : sSet 3 (eCall 1 m_groups_of (eCons (eVar 0) (eNil))) [some r.d, some (.int c.i), some (.bl ag), none, none, none, none, none, none, none] M = .nx [some r.d, some (.int c.i), some (.bl ag), some (.ref M.length), none, none, none, none, none, none] (M ++ [gO r]) :=
    St.set (St.call (St.cons rfl St.nil) rfl (groups_run hr))
  have o1 : (M ++ [gO r])[M.length]? = some (gO r) := by simp
  have o2 : ((M ++ [gO r]).set M.length (gL r)) = M ++ [gL r] := by simp
  have it : iKeysPD (eVar 3) [some r.d, some (.int c.i), some (.bl ag), some (.ref M.length), none, none, none, none, none, none] (M ++ [gL r]) = .ok (.vals (rowsR.map Rw.d)) (M ++ [gL r]) := by
    rw [← keys_rows]; exact St.itP (p := M.length) (ds := rowsR.map fun w => Vl.d (grp r w)) rfl (by simp)
  have l4 := St.lcv (tg := tgName 5) (tt := bVal (eBin dIsNot (eBin dIxP (eVar 3) (eVar 5)) (eC .non))) (m := eVar 5) (vs := [5]) (f := Rw.d) (g := fun w => if decide (grp r w ≠ none) = true then some w.d else none) it
    (fun w _ acc => St.lcs (e1 := [some r.d, some (.int c.i), some (.bl ag), some (.ref M.length), none, some w.d, none, none, none, none]) rfl (St.val (St.bin (St.bin rfl rfl (gix (r := r) (w := w) (pOf_lp (by simp)))) rfl vl_notnon)) fun _ => rfl) (by rw [rowsR_len]; decide)
  rw [fm_if] at l4
  have s4 : sLockP (nfE (eVar 3)) (sSet 4 (eLc (iKeysPD (eVar 3)) (tgName 5) (bVal (eBin dIsNot (eBin dIxP (eVar 3) (eVar 5)) (eC .non))) (eVar 5) [5])) [some r.d, some (.int c.i), some (.bl ag), some (.ref M.length), none, none, none, none, none, none] (M ++ [gO r]) =
      .nx [some r.d, some (.int c.i), some (.bl ag), some (.ref M.length), some (.ref (M.length + 1)), none, none, none, none, none] (M ++ [gO r, .lst ((leastR r).map Rw.d)]) := by
    have z := St.lockSP (s := sSet 4 (eLc (iKeysPD (eVar 3)) (tgName 5) (bVal (eBin dIsNot (eBin dIxP (eVar 3) (eVar 5)) (eC .non))) (eVar 5) [5])) (nf := nfE (eVar 3)) (p := M.length) (ks' := rowsR.map Rw.k) (ds' := rowsR.map fun w => Vl.d (grp r w)) (St.nfe (M' := M ++ [gO r]) (e := [some r.d, some (.int c.i), some (.bl ag), some (.ref M.length), none, none, none, none, none, none]) rfl) o1 (by rw [o2]; exact St.set l4) (by rw [List.getElem?_append_left (by simp)]; simp)
    rw [z]
    simp [leastR]
  have s6 : sSet 6 eDNew [some r.d, some (.int c.i), some (.bl ag), some (.ref M.length), some (.ref (M.length + 1)), none, none, none, none, none] (M ++ [gO r, .lst ((leastR r).map Rw.d)]) = .nx (cE r c ag M.length none none) (cM r M []) := by
    have : eDNew [some r.d, some (.int c.i), some (.bl ag), some (.ref M.length), some (.ref (M.length + 1)), none, none, none, none, none] (M ++ [gO r, .lst ((leastR r).map Rw.d)]) = .ok (.ref (M.length + 2)) (cM r M []) := by
      rw [y_eDNew]; simp [cM, pK, pV]
    exact St.set this
  exact St.seq s3 (St.seq s4 (St.seq s6 h))
theorem abounds_run (hr : RlOk r) : m_arbiter_bounds [r.d, .int c.i, .bl ag] M = .ok (abD r c ag) M := by
  have loop := ab_loop (r := r) (c := c) (ag := ag) (M := M) (leastR r) [] none none (fun w hw => of_decide_eq_true (List.mem_filter.mp hw).2) (by have := leastR_len (r := r); simp; omega)
  rw [← ab_for rfl] at loop
  unfold abD
  rcases loop with ⟨qs, a, b⟩ | ⟨qs, y5, y7, a, hl, b⟩
  · rw [a]
    exact frzP_pd (k := 1) (G := [gO r, .lst ((leastR r).map Rw.d), pO qs]) (St.fn (ab_start hr (St.seqR b))) (.inl rfl)
  · rw [a]
    dsimp only
    have hq : qs.length ≤ 64 := by have := leastR_len (r := r); simp at hl; omega
    cases ag with
    | true =>
      rw [if_pos rfl]
      have e := St.fn (n := 10) (b := b_arbiter_bounds) (ds := [r.d, .int c.i, .bl true]) (M := M) (ab_start hr (St.seq b (St.seqR (St.ifT (c := bVal (eVar 2)) (St.val rfl) (St.ret (St.tup (St.cons rfl (St.cons (St.listP (p := M.length) (mk := mkF) (St.cons rfl St.nil) (pOf_dp cM0) (r := .ok (.fro (rowsR.map Rw.d)) (cM r M qs)) (by rw [keys_rows]; rfl)) St.nil))))))))
      exact frzP_ok (G := [gO r, .lst ((leastR r).map Rw.d), pO qs]) e (fz_two' (by omega) cM1)
    | false =>
      rw [if_neg (by decide)]
      let e0 := cE r c false M.length y5 y7
      let e8 : Env2 := [some r.d, some (.int c.i), some (.bl false), some (.ref M.length), some (.ref (M.length + 1)), y5, some (.ref (M.length + 2)), y7, some (.ref (M.length + 3)), none]
      let M1 : MH := (cM r M qs).set (M.length + 2) (.lk (pK qs) (pV qs))
      let M5 : MH := cM r M qs ++ [pO (turn qs)]
      have len1 : M1.length = M.length + 3 := by simp [M1]
      have it : iItemsK (eVar 6) e0 M1 = .ok (.vals (itemsD (pK qs) (pV qs))) M1 := by
        have : M1[M.length + 2]? = some (.lk (pK qs) (pV qs)) := by simp only [M1]; rw [List.getElem?_set_self (by simp)]
        unfold iItemsK
        show (match M1[M.length + 2]? with
          | some (.lk ks ds) => Res.ok (IV.vals (itemsD ks ds)) M1
          | _ => .bad) = _
        rw [this]
      have dc : eDc (iItemsK (eVar 6)) (tgTup [7, 9]) (bYes) (eVar 9) (eVar 7) [7, 9] e0 M1 = .ok (.ref (M.length + 3)) (M1 ++ [pO (turn qs)]) := by
        have q := dc_turn (tg := tgTup [7, 9]) (tt := bYes) (mk := eVar 9) (mv := eVar 7) (e := wipe2 e0 [7, 9]) (M := M1) qs [] (fun y _ M' => rfl) (by simp; omega)
        unfold eDc
        rw [it, items_p]
        rw [len1] at q
        dsimp only
        rw [len1]
        exact q
      have s8 : sSet 8 (eLockK (nfE (eVar 6)) (eDc (iItemsK (eVar 6)) (tgTup [7, 9]) (bYes) (eVar 9) (eVar 7) [7, 9])) e0 (cM r M qs) = .nx e8 M5 := by
        have z := St.lockE (nf := nfE (eVar 6)) (m := eDc (iItemsK (eVar 6)) (tgTup [7, 9]) (bYes) (eVar 9) (eVar 7) [7, 9]) (e := e0) (p := M.length + 2) (ks' := pK qs) (ds' := pV qs) (St.nfe (M' := cM r M qs) rfl) cM2 dc (by rw [List.getElem?_append_left (by rw [len1]; omega)]; simp only [M1]; rw [List.getElem?_set_self (by simp)])
        have back : (M1 ++ [pO (turn qs)]).set (M.length + 2) (.dk (pK qs) (pV qs)) = M5 := set_back cM2
        rw [back] at z
        exact St.set z
      have o2 : M5[M.length + 2]? = some (pO qs) := by simp only [M5]; rw [List.getElem?_append_left (by simp)]; exact cM2
      have o3 : M5[M.length + 3]? = some (pO (turn qs)) := by simp only [M5]; rw [List.getElem?_append_right (by simp)]; simp
      have o0 : M5[M.length]? = some (gO r) := by simp only [M5]; rw [List.getElem?_append_left (by simp)]; exact cM0
      have o1 : M5[M.length + 1]? = some (.lst ((leastR r).map Rw.d)) := by simp only [M5]; rw [List.getElem?_append_left (by simp)]; exact cM1
      have ln : ∀ i l, M5[i]? = some (pO l) → dLenD [.ref i] M5 = .ok (.int l.length) M5 := fun i l h => by
        unfold dLenD
        dsimp only
        rw [h]
        dsimp only
        rw [pK_len]
      have t : bVal (eBin dLt (eArgs dLenD (eCons (eVar 8) (eNil))) (eArgs dLenD (eCons (eVar 6) (eNil)))) e8 M5 = .ok (decide ((turn qs).length < qs.length)) M5 := by
        refine (St.val (St.bin (St.args (St.cons rfl St.nil) (ln _ _ o3)) (St.args (St.cons rfl St.nil) (ln _ _ o2)) lt_i)).trans ?_
        congr 1
        exact decide_eq_decide.mpr (by omega)
      by_cases hlt : (turn qs).length < qs.length
      · rw [if_pos hlt]
        rw [decide_eq_true hlt] at t
        have rt : sIf (bVal (eBin dLt (eArgs dLenD (eCons (eVar 8) (eNil))) (eArgs dLenD (eCons (eVar 6) (eNil))))) (sRet (eC .non)) (sNil) e8 M5 = .rt .non (M ++ [gO r, .lst ((leastR r).map Rw.d), pO qs, pO (turn qs)]) := (St.ifT t (St.ret rfl)).trans (by simp [M5])
        exact frzP_pd (k := 1) (St.fn (ab_start hr (St.seq b (St.seq (St.ifF (c := bVal (eVar 2)) (St.val rfl) rfl) (St.seq s8 (St.seqR rt)))))) (.inl rfl)
      · rw [if_neg hlt]
        rw [decide_eq_false hlt] at t
        let ML : MH := M5.set M.length (gL r)
        have l0 : ML[M.length]? = some (gL r) := by simp only [ML]; rw [List.getElem?_set_self (by simp [M5])]
        have l3 : ML[M.length + 3]? = some (pO (turn qs)) := by simp only [ML]; rw [List.getElem?_set_ne (by omega)]; exact o3
        have itk : iKeysPD (eVar 3) e8 ML = .ok (.vals (rowsR.map Rw.d)) ML := by rw [← keys_rows]; exact St.itP (p := M.length) rfl l0
        have lenL : ML.length = M.length + 4 := by simp [ML, M5]
        have lc := St.lcv (tg := tgName 5) (tt := bVal (eBin dEq (eDGetN (eVar 8) (eBin dIxA (eVar 5) (eVar 1)) (eBin dIxP (eVar 3) (eVar 5))) (eBin dIxP (eVar 3) (eVar 5)))) (m := eVar 5) (vs := [5]) (f := Rw.d) (g := fun w => if freeW r c (turn qs) w = true then some w.d else none) itk
          (fun w _ acc => by
            have a0 : (ML ++ [.lst acc])[M.length]? = some (gL r) := by rw [List.getElem?_append_left (by omega)]; exact l0
            have a3 : (ML ++ [.lst acc])[M.length + 3]? = some (pO (turn qs)) := by rw [List.getElem?_append_left (by omega)]; exact l3
            let ew : Env2 := [some r.d, some (.int c.i), some (.bl false), some (.ref M.length), some (.ref (M.length + 1)), some w.d, some (.ref (M.length + 2)), y7, some (.ref (M.length + 3)), none]
            have gg : eBin dIxP (eVar 3) (eVar 5) ew (ML ++ [.lst acc]) = .ok (Vl.d (grp r w)) (ML ++ [.lst acc]) := St.bin rfl rfl (gix (pOf_lp a0))
            have pl : eBin dIxA (eVar 5) (eVar 1) ew (ML ++ [.lst acc]) = .ok (Vl.d (w.at c)) (ML ++ [.lst acc]) := St.bin rfl rfl at_ix
            refine St.lcs (e1 := ew) rfl ?_ fun _ => rfl
            unfold freeW
            cases hp : w.at c with
            | none =>
              rw [hp] at pl
              refine (St.val (St.bin (St.getN (mo := eVar 8) rfl a3 pl gg a3) gg vl_eq)).trans ?_
              rw [decide_eq_true rfl]
            | some p =>
              rw [hp] at pl
              have gi := St.getI (mo := eVar 8) (e := ew) rfl a3 pl gg a3
              have ag' := ak_get (l := turn qs) (a := p)
              unfold ck at ag'
              rw [ag'] at gi
              unfold pfind
              cases hf : (turn qs).find? fun e => decide (e.1 = p) with
              | none =>
                rw [hf] at gi
                simp only [hf, Option.map_none]
                refine (St.val (St.bin gi gg vl_eq)).trans ?_
                rw [decide_eq_true rfl]
              | some y =>
                rw [hf] at gi
                simp only [hf, Option.map_some]
                exact St.val (St.bin gi gg (vl_eq (a := some y.2)))) (by rw [rowsR_len]; decide)
        rw [fm_if, lenL] at lc
        have lk := St.lockP (nf := nfE (eVar 3)) (e := e8) (p := M.length) (ks' := rowsR.map Rw.k) (ds' := rowsR.map fun w => Vl.d (grp r w)) (St.nfe (M' := M5) rfl) o0 lc (by rw [List.getElem?_append_left (by omega)]; exact l0)
        have back : (ML ++ [MO.lst ((rowsR.filter (freeW r c (turn qs))).map Rw.d)]).set M.length (gO r) = M5 ++ [MO.lst ((rowsR.filter (freeW r c (turn qs))).map Rw.d)] := set_back o0
        rw [back] at lk
        have e := St.fn (n := 10) (b := b_arbiter_bounds) (ds := [r.d, .int c.i, .bl false]) (M := M) (ab_start hr (St.seq b (St.seq (St.ifF (c := bVal (eVar 2)) (St.val rfl) rfl) (St.seq s8 (St.seq (St.ifF t rfl) (St.ret (St.tup (St.cons rfl (St.cons lk St.nil)))))))))
        have full : M5 ++ [MO.lst ((rowsR.filter (freeW r c (turn qs))).map Rw.d)] = M ++ [gO r, .lst ((leastR r).map Rw.d), pO qs, pO (turn qs), MO.lst ((rowsR.filter (freeW r c (turn qs))).map Rw.d)] := by simp [M5]
        rw [full] at e
        refine frzP_ok e (fz_two (by omega) ?_ (by omega) ?_)
        · rw [← full, List.getElem?_append_left (by simp [M5])]; exact o1
        · rw [← full, List.getElem?_append_right (by simp [M5])]; simp [M5]
end
end K13
namespace K13
open PySem L2 T2
/-! ### the plain law: what the program finds is what the law says -/
section
variable {r : Rl} {c : C3} {ag : Bool} {held : Rw → Bool}
/-- some row may neither be held nor left out -/
def NoW (r : Rl) (c : C3) (ag : Bool) : Prop := ∃ w o, grp r w ≠ none ∧ grp r o ≠ none ∧ fnd r c ag w o ≠ decide (grp r w = grp r o)
def MostW (r : Rl) (c : C3) (ag : Bool) (o : Rw) : Prop := ∀ w, grp r w ≠ none → fnd r c ag w o = decide (grp r w = grp r o)
theorem all_rows {P : Rw → Prop} : (∀ w, P w) ↔ ∀ k, k < 64 → P (rowAt k) :=
  ⟨fun h k _ => h _, fun h w => by
    have := mem_rowsR w
    rw [rowsR_at] at this
    obtain ⟨k, hk, rfl⟩ := List.mem_map.mp this
    exact h k (List.mem_range.mp hk)⟩
theorem okL_iff {l : Nat} : okL r c ag l = true ↔ MostW r c ag (rowAt l) := by
  unfold okL wrong MostW
  rw [List.isEmpty_iff, List.filter_eq_nil_iff, all_rows]
  constructor
  · intro h k hk hn
    have := h k (by unfold ownK own; rw [List.mem_filter]; exact ⟨List.mem_range.mpr hk, decide_eq_true hn⟩)
    rw [bne_iff_ne, ne_eq, Classical.not_not] at this
    exact this
  · intro h k hk
    unfold ownK own at hk
    rw [List.mem_filter] at hk
    rw [bne_iff_ne, ne_eq, Classical.not_not]
    exact h k (List.mem_range.mp hk.1) (of_decide_eq_true hk.2)
theorem noB_iff : noB r c ag = true ↔ NoW r c ag := by
  unfold noB NoW
  rw [List.any_eq_true]
  constructor
  · rintro ⟨l, hl, h⟩
    unfold stuck own at h
    rw [Bool.and_eq_true] at h
    have h2 : ¬ MostW r c ag (rowAt l) := fun z => by rw [okL_iff.mpr z] at h; exact absurd h.2 (by decide)
    unfold MostW at h2
    simp only [Classical.not_forall] at h2
    obtain ⟨w, hw, hq⟩ := h2
    exact ⟨w, rowAt l, hw, of_decide_eq_true h.1, hq⟩
  · rintro ⟨w, o, hw, ho, hq⟩
    have := mem_rowsR o
    rw [rowsR_at] at this
    obtain ⟨l, hl, rfl⟩ := List.mem_map.mp this
    refine ⟨l, hl, ?_⟩
    unfold stuck own
    rw [Bool.and_eq_true]
    refine ⟨decide_eq_true ho, ?_⟩
    cases hk : okL r c ag l with
    | false => rfl
    | true => exact absurd (okL_iff.mp hk w hw) hq
/-- what is known of the places taken so far -/
structure J (r : Rl) (c : C3) (pre : List Rw) (ps : List (C3 × C3)) : Prop where
  row : ∀ w ∈ pre, ∃ g p, grp r w = some g ∧ w.at c = some p ∧ pfind ps g = some p
  ent : ∀ g p, pfind ps g = some p → ∃ w ∈ pre, grp r w = some g ∧ w.at c = some p
  nd : (ps.map (·.1)).Nodup
theorem J.step {pre : List Rw} {ps : List (C3 × C3)} {w : Rw} (j : J r c pre ps) (hw : grp r w ≠ none) (hb : badW r c ps w = false) : J r c (pre ++ [w]) (putW r c ps w) := by
  obtain ⟨g, hg⟩ : ∃ g, grp r w = some g := by cases h : grp r w with
    | none => exact absurd h hw
    | some g => exact ⟨g, rfl⟩
  unfold badW at hb
  rw [Bool.or_eq_false_iff] at hb
  obtain ⟨p, hp⟩ : ∃ p, w.at c = some p := by cases h : w.at c with
    | none => rw [h] at hb; exact absurd hb.1 (by simp)
    | some p => exact ⟨p, rfl⟩
  have hs : seen r c ps w = w.at c := Classical.not_not.mp (of_decide_eq_false hb.2)
  have e : putW r c ps w = pput ps g p := by unfold putW; rw [hg, hp]
  have same : ∀ q, pfind ps g = some q → q = p := fun q hq => by
    unfold seen at hs
    rw [hg] at hs
    dsimp only at hs
    rw [hq, hp] at hs
    exact Option.some.inj hs
  rw [e]
  refine ⟨fun v hv => ?_, fun g' p' h => ?_, pput_nd j.nd⟩
  · rcases List.mem_append.mp hv with hv | hv
    · obtain ⟨g', p', h1, h2, h3⟩ := j.row v hv
      refine ⟨g', p', h1, h2, ?_⟩
      rw [pfind_put]
      by_cases hgg : g' = g
      · subst hgg
        rw [if_pos rfl, same p' h3]
      · rw [if_neg hgg, h3]
    · obtain rfl := List.mem_singleton.mp hv
      exact ⟨g, p, hg, hp, by rw [pfind_put, if_pos rfl]⟩
  · rw [pfind_put] at h
    by_cases hgg : g' = g
    · rw [if_pos hgg] at h
      exact ⟨w, by simp, by rw [hg, hgg], by rw [hp]; exact h⟩
    · rw [if_neg hgg] at h
      obtain ⟨v, hv, h1⟩ := j.ent g' p' h
      exact ⟨v, List.mem_append_left _ hv, h1⟩
/-- a bad row: its place is unknown, or a row of its group lies elsewhere -/
theorem J.bad {pre : List Rw} {ps : List (C3 × C3)} {w : Rw} (j : J r c pre ps) (hw : grp r w ≠ none) (hb : badW r c ps w = true) : w.at c = none ∨ ∃ v, grp r v = grp r w ∧ v.at c ≠ w.at c := by
  unfold badW at hb
  rw [Bool.or_eq_true] at hb
  rcases hb with hb | hb
  · exact .inl (of_decide_eq_true hb)
  · right
    have hs := of_decide_eq_true hb
    unfold seen at hs
    cases hg : grp r w with
    | none => exact absurd hg hw
    | some g =>
      rw [hg] at hs
      dsimp only at hs
      cases hf : pfind ps g with
      | none => rw [hf] at hs; exact absurd rfl hs
      | some p =>
        rw [hf] at hs
        obtain ⟨v, _, h1, h2⟩ := j.ent g p hf
        exact ⟨v, h1, by rw [h2]; exact hs⟩
theorem walk_J : ∀ (ws pre : List Rw) (ps : List (C3 × C3)), J r c pre ps → (∀ w ∈ ws, grp r w ≠ none) →
    (walkP r c ps ws = none ∧ ∃ w ∈ ws, w.at c = none ∨ ∃ v, grp r v = grp r w ∧ v.at c ≠ w.at c) ∨ ∃ qs, walkP r c ps ws = some qs ∧ J r c (pre ++ ws) qs
  | [], pre, ps, j, _ => .inr ⟨ps, rfl, by rw [List.append_nil]; exact j⟩
  | w :: ws, pre, ps, j, h => by
    unfold walkP
    cases hb : badW r c ps w with
    | true => exact .inl ⟨by rw [if_pos rfl], w, List.mem_cons_self, j.bad (h w List.mem_cons_self) hb⟩
    | false =>
      rw [if_neg (by decide)]
      rcases walk_J ws (pre ++ [w]) (putW r c ps w) (j.step (h w List.mem_cons_self) hb) (fun v hv => h v (List.mem_cons_of_mem _ hv)) with ⟨a, v, hv, b⟩ | ⟨qs, a, b⟩
      · exact .inl ⟨a, v, List.mem_cons_of_mem _ hv, b⟩
      · exact .inr ⟨qs, a, by rw [List.append_assoc] at b; exact b⟩
theorem mem_least {w : Rw} : w ∈ leastR r ↔ grp r w ≠ none := by
  unfold leastR
  rw [List.mem_filter]
  exact ⟨fun z => of_decide_eq_true z.2, fun z => ⟨mem_rowsR w, decide_eq_true z⟩⟩
/-- found by place -/
def byP (c : C3) (w o : Rw) : Prop := w.at c ≠ none ∧ w.at c = o.at c
theorem fnd_iff {w o : Rw} : fnd r c ag w o = true ↔ byP c w o ∧ (grp r w = grp r o ∨ ag = false) := by
  unfold fnd byP
  simp only [Bool.and_eq_true, Bool.or_eq_true, decide_eq_true_eq, Bool.not_eq_true']
theorem agree {a : Bool} {p : Prop} [Decidable p] : a = decide p ↔ (a = true ↔ p) := by
  constructor
  · intro h; rw [h]; exact decide_eq_true_iff
  · intro h
    cases a with
    | true => exact (decide_eq_true (h.mp rfl)).symm
    | false => exact (decide_eq_false fun z => by have := h.mpr z; cases this).symm
/-- the bounds that the program finds -/
def abW (r : Rl) (c : C3) (ag : Bool) : D := if noB r c ag = true then .non else .tup [.fro ((leastR r).map Rw.d), .fro (((List.range 64).filter (okL r c ag)).map fun k => (rowAt k).d)]
theorem most_rows {p : Rw → Bool} (h : ∀ o, p o = true ↔ MostW r c ag o) : (rowsR.filter p).map Rw.d = ((List.range 64).filter (okL r c ag)).map fun k => (rowAt k).d := by
  rw [rowsR_at, List.filter_map, List.map_map]
  have : ((List.range 64).filter (p ∘ rowAt)) = (List.range 64).filter (okL r c ag) := List.filter_congr fun k _ => by
    show p (rowAt k) = okL r c ag k
    rw [Bool.eq_iff_iff, h, okL_iff]
  rw [this]
  rfl
theorem ab_is : abD r c ag = abW r c ag := by
  have j0 : J r c [] [] := ⟨fun w h => absurd h List.not_mem_nil, fun g p h => (nomatch h), List.nodup_nil⟩
  unfold abD abW
  rcases walk_J (r := r) (c := c) (leastR r) [] [] j0 (fun w hw => mem_least.mp hw) with ⟨a, w, hw, hb⟩ | ⟨qs, a, j⟩
  · rw [a]
    have hw := mem_least.mp hw
    have n : NoW r c ag := by
      rcases hb with hb | ⟨v, h1, h2⟩
      · refine ⟨w, w, hw, hw, fun e => ?_⟩
        have := agree.mp e
        exact (fnd_iff.mp (this.mpr rfl)).1.1 hb
      · refine ⟨v, w, by rw [h1]; exact hw, hw, fun e => ?_⟩
        exact h2 (fnd_iff.mp ((agree.mp e).mpr h1)).1.2
    rw [if_pos (noB_iff.mpr n)]
  · rw [a]
    rw [List.nil_append] at j
    have own : ∀ {w : Rw}, grp r w ≠ none → ∃ g p, grp r w = some g ∧ w.at c = some p ∧ pfind qs g = some p := fun h => j.row _ (mem_least.mpr h)
    -- one group, one place
    have one : ∀ {w o : Rw}, grp r w ≠ none → grp r w = grp r o → byP c w o := fun {w o} h e => by
      obtain ⟨g, p, h1, h2, h3⟩ := own h
      obtain ⟨g', p', k1, k2, k3⟩ := own (w := o) (by rw [← e]; exact h)
      have : g = g' := Option.some.inj (h1.symm.trans (e.trans k1))
      subst this
      exact ⟨by rw [h2]; exact fun z => (nomatch z), by rw [h2, k2, ← h3, k3]⟩
    dsimp only
    cases ag with
    | true =>
      have most : ∀ o, MostW r c true o := fun o w hw => agree.mpr ⟨fun z => ((fnd_iff.mp z).2).resolve_right (by decide), fun z => fnd_iff.mpr ⟨one hw z, .inl z⟩⟩
      have n : ¬ NoW r c true := fun ⟨w, o, hw, ho, hq⟩ => hq (most o w hw)
      rw [if_pos rfl, if_neg (fun z => n (noB_iff.mp z)), ← most_rows (p := fun _ => true) fun o => ⟨fun _ => most o, fun _ => rfl⟩]
      rw [List.filter_eq_self.mpr fun _ _ => rfl]
    | false =>
      rw [if_neg (by decide)]
      by_cases nd : (qs.map (·.2)).Nodup
      · have tn := turn_nd nd
        have nd1 : ((turn qs).map (·.1)).Nodup := by rw [tn, List.map_map]; exact nd
        rw [if_neg (by rw [tn, List.length_map]; omega)]
        -- one place, one group
        have two : ∀ {w o : Rw}, grp r w ≠ none → grp r o ≠ none → byP c w o → grp r w = grp r o := fun {w o} h k e => by
          obtain ⟨g, p, h1, h2, h3⟩ := own h
          obtain ⟨g', p', k1, k2, k3⟩ := own k
          have hp : p = p' := Option.some.inj (h2.symm.trans (e.2.trans k2))
          subst hp
          have m1 : (p, g) ∈ turn qs := by rw [tn]; exact List.mem_map.mpr ⟨(g, p), pfind_mem h3, rfl⟩
          have m2 : (p, g') ∈ turn qs := by rw [tn]; exact List.mem_map.mpr ⟨(g', p), pfind_mem k3, rfl⟩
          have q1 : pfind (turn qs) p = some g := pfind_of nd1 m1
          have q2 : pfind (turn qs) p = some g' := pfind_of nd1 m2
          rw [h1, k1, Option.some.inj (q1.symm.trans q2)]
        have n : ¬ NoW r c false := fun ⟨w, o, hw, ho, hq⟩ => hq (agree.mpr ⟨fun z => two hw ho (fnd_iff.mp z).1, fun z => fnd_iff.mpr ⟨one hw z, .inr rfl⟩⟩)
        rw [if_neg (fun z => n (noB_iff.mp z)), ← most_rows (p := freeW r c (turn qs)) fun o => ?_]
        unfold freeW
        cases hp : o.at c with
        | none =>
          refine ⟨fun _ w hw => agree.mpr ⟨fun z => absurd ((fnd_iff.mp z).1.2.trans hp) (fnd_iff.mp z).1.1, fun z => ?_⟩, fun _ => rfl⟩
          exact absurd ((one hw z).2.trans hp) (one hw z).1
        | some p =>
          dsimp only
          cases hf : pfind (turn qs) p with
          | none =>
            have none' : ∀ w, grp r w ≠ none → w.at c ≠ some p := fun w hw hq => by
              obtain ⟨g, p', h1, h2, h3⟩ := own hw
              have : p' = p := Option.some.inj (h2.symm.trans hq)
              subst this
              have := pfind_of nd1 (by rw [tn]; exact List.mem_map.mpr ⟨(g, p'), pfind_mem h3, rfl⟩ : (p', g) ∈ turn qs)
              rw [hf] at this
              cases this
            refine ⟨fun _ w hw => agree.mpr ⟨fun z => absurd ((fnd_iff.mp z).1.2.trans hp) (none' w hw), fun z => absurd ((one hw z).2.trans hp) (none' w hw)⟩, fun _ => rfl⟩
          | some g =>
            dsimp only
            have he : (g, p) ∈ qs := by
              have := pfind_mem hf
              rw [tn] at this
              obtain ⟨y, hy, e⟩ := List.mem_map.mp this
              cases e
              exact hy
            obtain ⟨v, hv, v1, v2⟩ := j.ent g p (pfind_of j.nd he)
            have hvn : grp r v ≠ none := by rw [v1]; exact fun z => (nomatch z)
            have bv : byP c v o := ⟨by rw [v2]; exact fun z => (nomatch z), by rw [v2, hp]⟩
            rw [decide_eq_true_iff]
            constructor
            · intro hgo w hw
              have ho : grp r o ≠ none := by rw [← hgo]; exact fun z => (nomatch z)
              exact agree.mpr ⟨fun z => two hw ho (fnd_iff.mp z).1, fun z => fnd_iff.mpr ⟨one hw z, .inr rfl⟩⟩
            · intro m
              rw [← v1]
              exact (agree.mp (m v hvn)).mp (fnd_iff.mpr ⟨bv, .inr rfl⟩)
      · rw [if_pos (turn_lt nd)]
        -- two groups in one place
        have : ∃ g1 g2 p, (g1, p) ∈ qs ∧ (g2, p) ∈ qs ∧ g1 ≠ g2 := by
          have key : ∀ l : List (C3 × C3), (l.map (·.1)).Nodup → ¬ (l.map (·.2)).Nodup → ∃ g1 g2 p, (g1, p) ∈ l ∧ (g2, p) ∈ l ∧ g1 ≠ g2 := by
            intro l
            induction l with
            | nil => exact fun _ h => absurd List.nodup_nil h
            | cons e l ih =>
              intro h1 h2
              rw [List.map_cons, List.nodup_cons] at h1 h2
              by_cases hm : e.2 ∈ l.map (·.2)
              · obtain ⟨y, hy, e2⟩ := List.mem_map.mp hm
                refine ⟨e.1, y.1, e.2, List.mem_cons_self, List.mem_cons_of_mem _ (by rw [← e2]; exact hy), fun z => h1.1 (by rw [z]; exact List.mem_map.mpr ⟨y, hy, rfl⟩)⟩
              · obtain ⟨g1, g2, p, a, b, d⟩ := ih h1.2 fun z => h2 ⟨hm, z⟩
                exact ⟨g1, g2, p, List.mem_cons_of_mem _ a, List.mem_cons_of_mem _ b, d⟩
          exact key qs j.nd nd
        obtain ⟨g1, g2, p, m1, m2, hne⟩ := this
        obtain ⟨v1, _, a1, b1⟩ := j.ent g1 p (pfind_of j.nd m1)
        obtain ⟨v2, _, a2, b2⟩ := j.ent g2 p (pfind_of j.nd m2)
        have n : NoW r c false := ⟨v1, v2, by rw [a1]; exact fun z => (nomatch z), by rw [a2]; exact fun z => (nomatch z), fun e => by
          have := (agree.mp e).mp (fnd_iff.mpr ⟨⟨by rw [b1]; exact fun z => (nomatch z), by rw [b1, b2]⟩, .inr rfl⟩)
          rw [a1, a2] at this
          exact hne (Option.some.inj this)⟩
        rw [if_pos (noB_iff.mpr n)]
/-- no gap: the rows held lie between the bounds -/
theorem gap_none : gapI r c ag held = none ↔ ∀ w o, grp r w ≠ none → ((held o && fnd r c ag w o) = decide (grp r w = grp r o)) := by
  unfold gapI gapK
  rw [Option.map_eq_none_iff, List.find?_eq_none]
  constructor
  · intro h
    rw [all_rows]
    intro k hk
    rw [all_rows]
    intro l hl hn
    have := h k (List.mem_range.mpr hk)
    rw [decide_eq_true hn, Bool.true_and, Option.isSome_iff_ne_none, ne_eq, Classical.not_not] at this
    unfold inner at this
    rw [List.find?_eq_none] at this
    have := this l (List.mem_range.mpr hl)
    unfold odd at this
    rw [bne_iff_ne, ne_eq, Classical.not_not] at this
    exact this
  · intro h k hk z
    rw [Bool.and_eq_true] at z
    obtain ⟨z1, z2⟩ := z
    rw [Option.isSome_iff_exists] at z2
    obtain ⟨l, hl⟩ := z2
    have := List.find?_some hl
    unfold odd at this
    rw [bne_iff_ne] at this
    exact this (h _ _ (of_decide_eq_true z1))
theorem gap_some (h : NoW r c ag) : gapI r c ag held ≠ none := fun e => by
  rw [gap_none] at e
  obtain ⟨w, o, hw, ho, hq⟩ := h
  have h1 := e o o ho
  rw [decide_eq_true rfl, Bool.and_eq_true] at h1
  have h2 := e w o hw
  rw [h1.1, Bool.true_and] at h2
  exact hq h2
theorem between (n : ¬ NoW r c ag) : (∀ o, grp r o ≠ none → held o = true) ∧ (∀ o, held o = true → MostW r c ag o) ↔ gapI r c ag held = none := by
  rw [gap_none]
  constructor
  · rintro ⟨h1, h2⟩ w o hw
    cases ho : held o with
    | true => rw [Bool.true_and]; exact h2 o ho w hw
    | false =>
      rw [Bool.false_and]
      exact (decide_eq_false fun e => by have := h1 o (by rw [← e]; exact hw); rw [ho] at this; cases this).symm
  · intro h
    refine ⟨fun o ho => ?_, fun o ho w hw => ?_⟩
    · have := h o o ho
      rw [decide_eq_true rfl, Bool.and_eq_true] at this
      exact this.1
    · have := h w o hw
      rwa [ho, Bool.true_and] at this
end
end K13
namespace K13
open PySem L2 T2
/-! ### what the law draws -/
def Fine (c : Cnd) (n : Nat) : Prop := c.lv ≤ n ∧ c.hq = false
theorem draw_is : m_law_draw = drawM := rfl
theorem cond_is : m_law_condition 5 = lawCondM 5 := rfl
theorem lrow_is : m_law_row = rowM := rfl
theorem isib : IsiB isi := by constructor <;> rfl
theorem alike_is : m_law_alike 8 = alikeM isi 8 := rfl
theorem alike_ok {M : MH} {x y : D} (h : Same M 8 x y) : m_law_alike 8 [x, y] M = .ok (.bl true) M := by rw [alike_is]; exact alike_same isib 8 x y h
theorem ldraw {s : Bx} {R : MH} {n : Int} (hs : BxOk s) (h1 : 0 < n) (h2 : n < 1073741824) : ∃ r s', m_law_draw [.ref 0, .int n] (s.obj :: R) = .ok (.int r) (s'.obj :: R) ∧ 0 ≤ r ∧ r < n ∧ BxOk s' := drawE hs h1 h2
theorem lrow_run {s : Bx} {R : MH} (hs : BxOk s) : ∃ (w : Rw) (s' : Bx), m_law_row [.ref 0] (s.obj :: R) = .ok w.d (s'.obj :: R) ∧ BxOk s' := row_run hs
theorem cond3 {s : Bx} {R : MH} (hs : BxOk s) : ∃ (c : Cnd) (s' : Bx), m_law_condition 5 [.ref 0, .int 3, .int 0] (s.obj :: R) = .ok c.d (s'.obj :: R) ∧ BxOk s' ∧ Fine c 3 := by
  obtain ⟨c, s', e, h, hl, hq⟩ := lawCond_run (q := 0) (.inl rfl) 2 5 s R (by decide) hs
  exact ⟨c, s', e, h, hl, hq rfl⟩
theorem cond2 {s : Bx} {R : MH} (hs : BxOk s) : ∃ (c : Cnd) (s' : Bx), m_law_condition 5 [.ref 0, .int 2, .int 0] (s.obj :: R) = .ok c.d (s'.obj :: R) ∧ BxOk s' ∧ Fine c 2 := by
  obtain ⟨c, s', e, h, hl, hq⟩ := lawCond_run (q := 0) (.inl rfl) 1 5 s R (by decide) hs
  exact ⟨c, s', e, h, hl, hq rfl⟩
def atomP (c : C3) (v : Vl) : Cnd := match v with | none => .unk c | some a => .eql c a
theorem atom_run {c : C3} {v : Vl} {M : MH} : m_law_atom [.int c.i, Vl.d v] M = .ok (atomP c v).d M := by rcases v with _ | _ | _ | _ <;> kernel_rfl
def onlyP (w : Rw) : Cnd := .an (.an (atomP .z w.x) (atomP .o w.y)) (atomP .t w.z)
theorem only_fine (w : Rw) : Fine (onlyP w) 3 := by
  have h : ∀ c v, (atomP c v).lv = 1 ∧ (atomP c v).hq = false := fun c v => by cases v <;> exact ⟨rfl, rfl⟩
  have a := h .z w.x
  have b := h .o w.y
  have c := h .t w.z
  exact ⟨by simp [onlyP, Cnd.lv, a.1, b.1, c.1], by simp [onlyP, Cnd.hq, a.2, b.2, c.2]⟩
theorem only_run {w : Rw} {M : MH} : m_law_only [w.d] M = .ok (onlyP w).d M := by
  refine frzP_0 (k := 4) (St.fn (St.ret (St.tup (St.cons rfl (St.cons (St.tup (St.cons rfl (St.cons (St.call (St.cons rfl (St.cons (St.bin rfl rfl ixT0) St.nil)) rfl (atom_run (c := .z))) (St.cons (St.call (St.cons rfl (St.cons (St.bin rfl rfl ixT1) St.nil)) rfl (atom_run (c := .o))) St.nil)))) (St.cons (St.call (St.cons rfl (St.cons (St.bin rfl rfl ixT2) St.nil)) rfl (atom_run (c := .t))) St.nil)))))) ?_
  exact (pd_cnd (onlyP w)).mono (by have := (only_fine w).1; omega)
theorem index_run {s : Bx} {R : MH} {r : Rl} (hs : BxOk s) (hk : Fine r.k 3) : ∃ (q : Cnd) (s' : Bx), m_law_index_condition [.ref 0, r.d] (s.obj :: R) = .ok q.d (s'.obj :: R) ∧ BxOk s' ∧ Fine q 5 := by
  obtain ⟨k, s1, e1, k0, k7, h1⟩ := ldraw (R := R) (n := 7) hs (by decide) (by decide)
  obtain ⟨d, s2, e2, h2, hd⟩ := cond2 (R := R) h1
  let M : MH := s2.obj :: R
  let e : Env2 := [some (.ref 0), some r.d, some (.int k), some d.d]
  have x2 : sSet 2 (eCall 2 m_law_draw (eCons (eVar 0) (eCons (eC (.int 7)) (eNil)))) [some (.ref 0), some r.d, none, none] (s.obj :: R) = .nx [some (.ref 0), some r.d, some (.int k), none] (s1.obj :: R) := St.set (St.call (St.cons rfl (St.cons rfl St.nil)) rfl e1)
  have x3 : sSet 3 (eCall 3 (m_law_condition 5) (eCons (eVar 0) (eCons (eC (.int 2)) (eCons (eC (.int 0)) (eNil))))) [some (.ref 0), some r.d, some (.int k), none] (s1.obj :: R) = .nx e M := St.set (St.call (St.cons rfl (St.cons rfl (St.cons rfl St.nil))) rfl e2)
  have t : ∀ i : Int, bVal (eBin dEq (eVar 2) (eC (.int i))) e M = .ok (k == i) M := fun i => St.val (St.bin rfl rfl eq_int)
  have rk : eBin dIxA (eVar 1) (eC (.int 3)) e M = .ok r.k.d M := St.bin rfl rfl ixT3
  have rc : eBin dIxA (eVar 1) (eC (.int 2)) e M = .ok (.int r.c.i) M := St.bin rfl rfl ixT2
  have no : ∀ {i : Int} {a : EM}, k ≠ i → sIf (bVal (eBin dEq (eVar 2) (eC (.int i)))) (sRet a) (sNil) e M = .nx e M := fun {i a} h => by
    have t' := t i
    rw [beq_eq_false_iff_ne.mpr h] at t'
    exact St.ifF t' rfl
  have go : ∀ {i : Int} {a : EM} {x : D} {M' : MH} {b : SM}, k = i → a e M = .ok x M' → sSeq (sIf (bVal (eBin dEq (eVar 2) (eC (.int i)))) (sRet a) (sNil)) b e M = .rt x M' := fun {i a x M' b} h ha => by
    have t' := t i
    rw [beq_iff_eq.mpr h] at t'
    exact St.seqR (St.ifT t' (St.ret ha))
  have fine : ∀ {a b : Cnd}, Fine a 3 → Fine b 3 → Fine (.an a b) 5 ∧ Fine (.orr a b) 5 := fun {a b} ha hb => by
    have h1 := ha.1
    have h2 := hb.1
    refine ⟨⟨?_, by show (_ || _) = false; rw [ha.2, hb.2]; rfl⟩, ⟨?_, by show (_ || _) = false; rw [ha.2, hb.2]; rfl⟩⟩
    all_goals show max _ _ + 1 ≤ 5
    all_goals omega
  have dF : Fine d 3 := ⟨Nat.le_succ_of_le hd.1, hd.2⟩
  have start : ∀ {rest : SM} {x : D} {M' : MH}, rest e M = .rt x M' → sSeq (sSet 2 (eCall 2 m_law_draw (eCons (eVar 0) (eCons (eC (.int 7)) (eNil))))) (sSeq (sSet 3 (eCall 3 (m_law_condition 5) (eCons (eVar 0) (eCons (eC (.int 2)) (eCons (eC (.int 0)) (eNil)))))) rest) [some (.ref 0), some r.d, none, none] (s.obj :: R) = .rt x M' := fun h => St.seq x2 (St.seq x3 h)
  by_cases k1 : k = 1
  · have f1 : Fine (.no (.unk r.c)) 3 := ⟨by show 1 + 1 ≤ 3; decide, rfl⟩
    exact ⟨.an r.k (.no (.unk r.c)), s2, St.fn (start (go k1 (St.tup (St.cons rfl (St.cons rk (St.cons (St.tup (St.cons rfl (St.cons (St.tup (St.cons rfl (St.cons rc St.nil))) St.nil))) St.nil)))))), h2, (fine hk f1).1⟩
  by_cases k2 : k = 2
  · exact ⟨.orr r.k d, s2, St.fn (start (St.seq (no k1) (go k2 (St.tup (St.cons rfl (St.cons rk (St.cons rfl St.nil))))))), h2, (fine hk dF).2⟩
  by_cases k3 : k = 3
  · exact ⟨.an r.k d, s2, St.fn (start (St.seq (no k1) (St.seq (no k2) (go k3 (St.tup (St.cons rfl (St.cons rk (St.cons rfl St.nil)))))))), h2, (fine hk dF).1⟩
  by_cases k4 : k = 4
  · exact ⟨d, s2, St.fn (start (St.seq (no k1) (St.seq (no k2) (St.seq (no k3) (go k4 rfl))))), h2, Nat.le_trans hd.1 (by decide), hd.2⟩
  by_cases k5 : k = 5
  · obtain ⟨w, s3, e3, h3⟩ := lrow_run (R := R) h2
    exact ⟨onlyP w, s3, St.fn (start (St.seq (no k1) (St.seq (no k2) (St.seq (no k3) (St.seq (no k4) (go k5 (St.call (St.cons (St.call (St.cons rfl St.nil) rfl e3) St.nil) rfl only_run))))))), h3, Nat.le_trans (only_fine w).1 (by decide), (only_fine w).2⟩
  by_cases k6 : k = 6
  · exact ⟨.no d, s2, St.fn (start (St.seq (no k1) (St.seq (no k2) (St.seq (no k3) (St.seq (no k4) (St.seq (no k5) (go k6 (St.tup (St.cons rfl (St.cons rfl St.nil)))))))))), h2, by show d.lv + 1 ≤ 5; have := hd.1; omega, hd.2⟩
  · exact ⟨r.k, s2, St.fn (start (St.seq (no k1) (St.seq (no k2) (St.seq (no k3) (St.seq (no k4) (St.seq (no k5) (St.seq (no k6) (St.ret rk)))))))), h2, Nat.le_trans hk.1 (by decide), hk.2⟩
/-! ### small things -/
theorem in_nums {k : Nat} {ks : List Nat} : memD (.int (k : Nat)) (ks.map fun k => D.int (k : Nat)) = decide (k ∈ ks) := by
  unfold memD inV
  rw [List.map_map, List.any_map, Bool.eq_iff_iff]
  simp only [List.any_eq_true, decide_eq_true_eq, Function.comp_apply, vOf, eqV, beq_iff_eq]
  exact ⟨fun ⟨a, h, e⟩ => by have : a = k := Int.ofNat.inj e; exact this ▸ h, fun h => ⟨k, h, rfl⟩⟩
theorem flat_nums {ks : List Nat} : (ks.map fun k => D.int (k : Nat)).all flatD = true := by
  rw [List.all_eq_true]
  intro d hd
  obtain ⟨z, _, rfl⟩ := List.mem_map.mp hd
  rfl
theorem notin_nums {k : Nat} {ks : List Nat} {M : MH} : dNotInA (.int (k : Nat)) (.fro (ks.map fun k => D.int (k : Nat))) M = .ok (.bl (!decide (k ∈ ks))) M := by
  unfold dNotInA inResA inRes items
  dsimp only
  rw [if_pos ⟨rfl, flat_nums⟩, in_nums]
theorem rows_ok {ks : List Nat} (h : ∀ k ∈ ks, k < 64) (hl : ks.length ≤ 1000) {e : Env2} {M : MH} {l : EM} (hi : l e M = .ok (.fro (ks.map fun k => D.int (k : Nat))) M) (h7 : e[7]? = some (some (.fro rowsD))) (h16 : 16 < e.length) :
    eLc (iSeq l) (tgName 16) (bYes) (eBin dIxA (eVar 7) (eVar 16)) [16] e M = .ok (.ref M.length) (M ++ [.lst (ks.map fun k => (rowAt k).d)]) := by
  have q := T2.lc_all (tg := tgName 16) (tt := bYes) (m := eBin dIxA (eVar 7) (eVar 16)) (vs := [16]) (f := fun k : Nat => D.int (k : Nat)) (g := fun k => some (rowAt k).d) (xs := ks) hi o_itF (fun k hk acc => by
    refine St.lcs1 (e1 := (wipe2 e [16]).set 16 (some (.int (k : Nat)))) rfl (St.bin (x := .fro rowsD) (y := .int (k : Nat)) (M1 := M ++ [.lst acc]) ?_ ?_ (rowsD_at (h k hk)))
    · unfold eVar
      have : ((wipe2 e [16]).set 16 (some (D.int (k : Nat))))[7]? = some (some (.fro rowsD)) := by
        rw [List.getElem?_set_ne (by decide)]
        show (e.set 16 none)[7]? = _
        rw [List.getElem?_set_ne (by decide)]
        exact h7
      rw [this]
    · unfold eVar
      have : ((wipe2 e [16]).set 16 (some (D.int (k : Nat))))[16]? = some (some (.int (k : Nat))) := by
        rw [List.getElem?_set_self (by show 16 < (e.set 16 none).length; rw [List.length_set]; exact h16)]
      rw [this]) hl
  rw [q, fm_map]
end K13
namespace K13
open PySem L2 T2
theorem box_is : m_law_box = boxM := rfl
theorem every_is : m_law_every = everyM := rfl
section
variable {r : Rl} {c : C3} {ag : Bool} {q : Cnd} {ns : List Int} {a b : Str} {s : Bx}
/-- the law's memory and names from the lists on -/
abbrev lM (r : Rl) (c : C3) (q : Cnd) (s : Bx) : MH := [s.obj, .lst (rowsR.map fun w => Vl.d (grp r w)), .lst (rowsR.map fun w => Vl.d (w.at c)), .lst (rowsR.map fun w => D.bl (hld q w))]
abbrev lE (ns : List Int) (a b : Str) (r : Rl) (c : C3) (ag : Bool) (q : Cnd) (x9 x12 x13 x14 x15 x16 x17 : Option D) : Env2 := [some (.fro (ns.map D.int)), some (.ref 0), some (.fro [.str a, .str b]), some r.d, some (.int c.i), some (.bl ag), some q.d, some (.fro rowsD), some (.ref 1), x9, some (.ref 2), some (.ref 3), x12, x13, x14, x15, x16, x17]
theorem lM_lists : Lists r c (hld q) (lM r c q s) 1 2 3 := ⟨rfl, rfl, rfl⟩
theorem nums_lt {n : Nat} {p : Nat → Bool} (hn : n ≤ 64) : ∀ k ∈ (List.range n).filter p, k < 64 := fun k hk => Nat.lt_of_lt_of_le (List.mem_range.mp (List.mem_filter.mp hk).1) hn
theorem nums_len {p : Nat → Bool} : ((List.range 64).filter p).length ≤ 1000 := Nat.le_trans (List.length_filter_le _ _) (by simp)
theorem least_rows : ((leastL r 64).map fun k => (rowAt k).d) = (leastR r).map Rw.d := by
  unfold leastL leastR
  rw [rowsR_at, List.filter_map, List.map_map]
  rfl
theorem pd_rows {xs : List Rw} : ∀ a ∈ xs.map Rw.d, Pd 6 a := fun a ha => by
  obtain ⟨w, _, rfl⟩ := List.mem_map.mp ha
  exact pd_row w
theorem rows_len {p : Rw → Bool} : ((rowsR.filter p).map Rw.d).length ≤ 1000 := by
  rw [List.length_map]
  exact Nat.le_trans (List.length_filter_le _ _) (by rw [rowsR_len]; decide)
theorem pd_gap {held : Rw → Bool} : Pd 8 (gapR r c ag held) := by
  unfold gapR
  cases gapI r c ag held with
  | none => exact .inl rfl
  | some q =>
    refine pd_tup (by simp) fun a ha => ?_
    rcases List.mem_cons.mp ha with rfl | ha
    · exact pd_row _
    · obtain rfl := List.mem_singleton.mp ha
      exact pd_row _
theorem isnot_gap {M : MH} {held : Rw → Bool} : dIsNot (gapD r c ag held) .non M = .ok (.bl (gapI r c ag held).isSome) M := by
  unfold gapD
  cases gapI r c ag held <;> rfl
theorem is_gap {M : MH} {held : Rw → Bool} : dIs (gapD r c ag held) .non M = .ok (.bl (gapI r c ag held).isNone) M := by
  unfold gapD
  cases gapI r c ag held <;> rfl
/-- from the three lists on -/
theorem tail_run (hr : RlOk r) (hq : Fine q 5) : ∃ M', (sSeq (sSet 12 (eCall 4 m_law_gap (eCons (eVar 8) (eCons (eVar 10) (eCons (eVar 11) (eCons (eVar 5) (eNil)))))))
    (sSeq (sSet 13 (eC .non))
    (sSeq (sIf (bVal (eBin dIsNot (eVar 12) (eC .non)))
    (sSet 13 (eTup (eCons (eBin dIxA (eVar 7) (eBin dIxA (eVar 12) (eC (.int 0)))) (eCons (eBin dIxA (eVar 7) (eBin dIxA (eVar 12) (eC (.int 1)))) (eNil)))))
    (sNil))
    (sSeq (sIf (bNot (bVal (eCall 2 (m_law_alike 8) (eCons (eCall 4 m_arbiter_gap (eCons (eVar 3) (eCons (eVar 4) (eCons (eVar 6) (eCons (eVar 5) (eNil)))))) (eCons (eVar 13) (eNil))))))
    (sRet (eC (.bl false)))
    (sNil))
    (sSeq (sSet 14 (eCall 3 m_law_bounds (eCons (eVar 8) (eCons (eVar 10) (eCons (eVar 5) (eNil))))))
    (sSeq (sIf (bVal (eBin dIs (eVar 14) (eC .non)))
    (sRet (eAnd (eBin dIsNot (eVar 12) (eC .non)) (eBin dIs (eCall 3 m_arbiter_bounds (eCons (eVar 3) (eCons (eVar 4) (eCons (eVar 5) (eNil))))) (eC .non))))
    (sNil))
    (sSeq (sSet 15 (eCall 3 m_arbiter_bounds (eCons (eVar 3) (eCons (eVar 4) (eCons (eVar 5) (eNil))))))
    (sSeq (sIf (bNot (bVal (eCall 2 (m_law_alike 8) (eCons (eVar 15) (eCons (eTup (eCons (eLc (iSeq (eBin dIxA (eVar 14) (eC (.int 0)))) (tgName 16) (bYes) (eBin dIxA (eVar 7) (eVar 16)) [16]) (eCons (eLc (iSeq (eBin dIxA (eVar 14) (eC (.int 1)))) (tgName 16) (bYes) (eBin dIxA (eVar 7) (eVar 16)) [16]) (eNil)))) (eNil))))))
    (sRet (eC (.bl false)))
    (sNil))
    (sSeq (sSet 17 (eBin (dCat mkF) (eLc (iSeq (eBin dIxA (eVar 14) (eC (.int 0)))) (tgName 16) (bNot (bVal (eBin dIxA (eVar 11) (eVar 16)))) (eVar 16) [16]) (eLc (iRange1 (eC (.int 64))) (tgName 16) (bAnd (bVal (eBin dIxA (eVar 11) (eVar 16))) (bVal (eBin dNotInA (eVar 16) (eBin dIxA (eVar 14) (eC (.int 1)))))) (eVar 16) [16])))
    (sRet (eBin dEq (eBin dEq (eVar 17) (eFro (eNil))) (eBin dIs (eVar 12) (eC .non))))))))))))) (lE ns a b r c ag q none none none none none none none) (lM r c q s) = .rt (.bl true) M' := by
  let M := lM r c q s
  have s12 : sSet 12 (eCall 4 m_law_gap (eCons (eVar 8) (eCons (eVar 10) (eCons (eVar 11) (eCons (eVar 5) (eNil)))))) (lE ns a b r c ag q none none none none none none none) M = .nx (lE ns a b r c ag q none (some (gapD r c ag (hld q))) none none none none none) M :=
    St.set (St.call (St.cons rfl (St.cons rfl (St.cons rfl (St.cons rfl St.nil)))) rfl (lgap_run lM_lists))
  have s13 : sSet 13 (eC .non) (lE ns a b r c ag q none (some (gapD r c ag (hld q))) none none none none none) M = .nx (lE ns a b r c ag q none (some (gapD r c ag (hld q))) (some .non) none none none none) M := St.set rfl
  have sI : sIf (bVal (eBin dIsNot (eVar 12) (eC .non))) (sSet 13 (eTup (eCons (eBin dIxA (eVar 7) (eBin dIxA (eVar 12) (eC (.int 0)))) (eCons (eBin dIxA (eVar 7) (eBin dIxA (eVar 12) (eC (.int 1)))) (eNil))))) (sNil) (lE ns a b r c ag q none (some (gapD r c ag (hld q))) (some .non) none none none none) M =
      .nx (lE ns a b r c ag q none (some (gapD r c ag (hld q))) (some (gapR r c ag (hld q))) none none none none) M := by
    have t : bVal (eBin dIsNot (eVar 12) (eC .non)) (lE ns a b r c ag q none (some (gapD r c ag (hld q))) (some .non) none none none none) M = .ok (gapI r c ag (hld q)).isSome M := St.val (St.bin rfl rfl isnot_gap)
    cases hg : gapI r c ag (hld q) with
    | none =>
      rw [hg] at t
      refine (St.ifF t rfl).trans ?_
      unfold gapR
      rw [hg]
      rfl
    | some kl =>
      obtain ⟨k, l⟩ := kl
      rw [hg] at t
      have gd : gapD r c ag (hld q) = .tup [.int (k : Nat), .int (l : Nat)] := by unfold gapD; rw [hg]
      have gr : gapR r c ag (hld q) = .tup [(rowAt k).d, (rowAt l).d] := by unfold gapR; rw [hg]
      have hkl : k < 64 ∧ l < 64 := by
        unfold gapI at hg
        obtain ⟨k', hk', e⟩ := Option.map_eq_some_iff.mp hg
        have h1 : k' < 64 := List.mem_range.mp (List.mem_of_find?_eq_some hk')
        have h2 := List.find?_some hk'
        rw [Bool.and_eq_true, Option.isSome_iff_exists] at h2
        obtain ⟨_, l', hl'⟩ := h2
        have h3 : l' < 64 := List.mem_range.mp (List.mem_of_find?_eq_some hl')
        rw [hl'] at e
        cases e
        exact ⟨h1, h3⟩
      rw [gd] at t
      rw [gd, gr]
      exact St.ifT t (St.set (St.tup (St.cons (St.bin rfl (St.bin rfl rfl ixT0) (rowsD_at hkl.1)) (St.cons (St.bin rfl (St.bin rfl rfl ixT1) (rowsD_at hkl.2)) St.nil))))
  let e1 : Env2 := lE ns a b r c ag q none (some (gapD r c ag (hld q))) (some (gapR r c ag (hld q))) none none none none
  have a1 : sIf (bNot (bVal (eCall 2 (m_law_alike 8) (eCons (eCall 4 m_arbiter_gap (eCons (eVar 3) (eCons (eVar 4) (eCons (eVar 6) (eCons (eVar 5) (eNil)))))) (eCons (eVar 13) (eNil)))))) (sRet (eC (.bl false))) (sNil) e1 M = .nx e1 M :=
    St.ifF (St.not (b := true) (St.val (St.call (St.cons (St.call (St.cons rfl (St.cons rfl (St.cons rfl (St.cons rfl St.nil)))) rfl (agap_run hr ⟨Nat.le_trans hq.1 (by decide), hq.2⟩)) (St.cons rfl St.nil)) rfl (alike_ok (same_pd pd_gap))))) rfl
  let e2 : Env2 := lE ns a b r c ag q none (some (gapD r c ag (hld q))) (some (gapR r c ag (hld q))) (some (lbD r c ag)) none none none
  have s14 : sSet 14 (eCall 3 m_law_bounds (eCons (eVar 8) (eCons (eVar 10) (eCons (eVar 5) (eNil))))) e1 M = .nx e2 M := St.set (St.call (St.cons rfl (St.cons rfl (St.cons rfl St.nil))) rfl (lbounds_run lM_lists.g lM_lists.p))
  have ab : eCall 3 m_arbiter_bounds (eCons (eVar 3) (eCons (eVar 4) (eCons (eVar 5) (eNil)))) e2 M = .ok (abW r c ag) M := by
    rw [← ab_is]
    exact St.call (St.cons rfl (St.cons rfl (St.cons rfl St.nil))) rfl (abounds_run hr)
  by_cases hn : NoW r c ag
  · have hb := noB_iff.mpr hn
    have l1 : lbD r c ag = .non := by unfold lbD; rw [if_pos hb]
    have l2 : abW r c ag = .non := by unfold abW; rw [if_pos hb]
    have hs : (gapI r c ag (hld q)).isSome = true := by
      cases h : gapI r c ag (hld q) with
      | none => exact absurd h (gap_some hn)
      | some _ => rfl
    have t : bVal (eBin dIs (eVar 14) (eC .non)) e2 M = .ok true M := St.val (St.bin rfl rfl (by rw [l1]; rfl))
    rw [l2] at ab
    have v := St.eand (a := eBin dIsNot (eVar 12) (eC .non)) (b := eBin dIs (eCall 3 m_arbiter_bounds (eCons (eVar 3) (eCons (eVar 4) (eCons (eVar 5) (eNil))))) (eC .non)) (e := e2) (M := M) (M1 := M) (y := true) (St.bin rfl rfl isnot_gap) fun _ => St.bin ab rfl rfl
    rw [hs] at v
    exact ⟨M, St.seq s12 (St.seq s13 (St.seq sI (St.seq a1 (St.seq s14 (St.seqR (St.ifT t (St.ret v)))))))⟩
  · have hb : noB r c ag ≠ true := fun z => hn (noB_iff.mp z)
    have l1 : lbD r c ag = .fro [.fro ((leastL r 64).map fun k => D.int (k : Nat)), .fro ((mostL r c ag 64).map fun k => D.int (k : Nat))] := by unfold lbD; rw [if_neg hb]
    have l2 : abW r c ag = .tup [.fro ((leastR r).map Rw.d), .fro (((List.range 64).filter (okL r c ag)).map fun k => (rowAt k).d)] := by unfold abW; rw [if_neg hb]
    have t : bVal (eBin dIs (eVar 14) (eC .non)) e2 M = .ok false M := St.val (St.bin rfl rfl (by rw [l1]; rfl))
    let e3 : Env2 := lE ns a b r c ag q none (some (gapD r c ag (hld q))) (some (gapR r c ag (hld q))) (some (lbD r c ag)) (some (abW r c ag)) none none
    have s15 : sSet 15 (eCall 3 m_arbiter_bounds (eCons (eVar 3) (eCons (eVar 4) (eCons (eVar 5) (eNil))))) e2 M = .nx e3 M := St.set ab
    have i0 : ∀ N, eBin dIxA (eVar 14) (eC (.int 0)) e3 N = .ok (.fro ((leastL r 64).map fun k => D.int (k : Nat))) N := fun N => St.bin rfl rfl (by rw [l1]; rfl)
    have i1 : ∀ N, eBin dIxA (eVar 14) (eC (.int 1)) e3 N = .ok (.fro ((mostL r c ag 64).map fun k => D.int (k : Nat))) N := fun N => St.bin rfl rfl (by rw [l1]; rfl)
    let A : MO := .lst ((leastL r 64).map fun k => (rowAt k).d)
    let B : MO := .lst ((mostL r c ag 64).map fun k => (rowAt k).d)
    let M2 : MH := M ++ [A] ++ [B]
    have tp : eTup (eCons (eLc (iSeq (eBin dIxA (eVar 14) (eC (.int 0)))) (tgName 16) (bYes) (eBin dIxA (eVar 7) (eVar 16)) [16]) (eCons (eLc (iSeq (eBin dIxA (eVar 14) (eC (.int 1)))) (tgName 16) (bYes) (eBin dIxA (eVar 7) (eVar 16)) [16]) (eNil))) e3 M = .ok (.tup [.ref 4, .ref 5]) M2 :=
      St.tup (St.cons (rows_ok (nums_lt (Nat.le_refl _)) nums_len (i0 M) rfl (by show 16 < 18; decide)) (St.cons (rows_ok (nums_lt (Nat.le_refl _)) nums_len (i1 _) rfl (by show 16 < 18; decide)) St.nil))
    have al : m_law_alike 8 [abW r c ag, .tup [.ref 4, .ref 5]] M2 = .ok (.bl true) M2 := by
      rw [l2]
      refine alike_ok (.inr (.inr (.inr (.inr ⟨"tuple", [.fro ((leastR r).map Rw.d), .fro (((List.range 64).filter (okL r c ag)).map fun k => (rowAt k).d)], [.ref 4, .ref 5], .inl ⟨rfl, rfl⟩, .inl ⟨rfl, rfl⟩, rfl, by simp, fun i x y hx hy => ?_⟩))))
      have o4 : listItems M2 (.ref 4) = some ((leastR r).map Rw.d) := by rw [← least_rows]; rfl
      have o5 : listItems M2 (.ref 5) = some (((List.range 64).filter (okL r c ag)).map fun k => (rowAt k).d) := rfl
      have pd5 : ∀ a ∈ ((List.range 64).filter (okL r c ag)).map fun k => (rowAt k).d, Pd 6 a := fun a ha => by
        obtain ⟨k, _, rfl⟩ := List.mem_map.mp ha
        exact pd_row _
      match i, hx, hy with
      | 0, hx, hy => cases hx; cases hy; exact same_list (k := 6) rfl o4 rows_len pd_rows
      | 1, hx, hy => cases hx; cases hy; exact same_list (k := 6) rfl o5 (by rw [List.length_map]; exact nums_len) pd5
      | i + 2, hx, hy => cases hx
    have a2 : sIf (bNot (bVal (eCall 2 (m_law_alike 8) (eCons (eVar 15) (eCons (eTup (eCons (eLc (iSeq (eBin dIxA (eVar 14) (eC (.int 0)))) (tgName 16) (bYes) (eBin dIxA (eVar 7) (eVar 16)) [16]) (eCons (eLc (iSeq (eBin dIxA (eVar 14) (eC (.int 1)))) (tgName 16) (bYes) (eBin dIxA (eVar 7) (eVar 16)) [16]) (eNil)))) (eNil)))))) (sRet (eC (.bl false))) (sNil) e3 M = .nx e3 M2 :=
      St.ifF (St.not (b := true) (St.val (St.call (St.cons rfl (St.cons tp St.nil)) rfl al))) rfl
    have hd : ∀ {N : MH} {k : Nat}, N[3]? = some (.lst (rowsR.map fun w => D.bl (hld q w))) → k < 64 → dIxA (.ref 3) (.int (k : Nat)) N = .ok (.bl (hld q (rowAt k))) N := fun h hk => row_at h hk
    let out1 : List Nat := (leastL r 64).filter fun k => !hld q (rowAt k)
    let out2 : List Nat := (List.range 64).filter fun k => hld q (rowAt k) && !decide (k ∈ mostL r c ag 64)
    have c1 : eLc (iSeq (eBin dIxA (eVar 14) (eC (.int 0)))) (tgName 16) (bNot (bVal (eBin dIxA (eVar 11) (eVar 16)))) (eVar 16) [16] e3 M2 = .ok (.ref 6) (M2 ++ [.lst (out1.map fun k => D.int (k : Nat))]) := by
      have z := T2.lc_all (tg := tgName 16) (tt := bNot (bVal (eBin dIxA (eVar 11) (eVar 16)))) (m := eVar 16) (vs := [16]) (f := fun k : Nat => D.int (k : Nat)) (g := fun k => if (!hld q (rowAt k)) = true then some (D.int (k : Nat)) else none) (xs := leastL r 64) (i0 M2) o_itF (fun k hk acc => by
        have hk := nums_lt (Nat.le_refl _) k hk
        exact St.lcs (e1 := lE ns a b r c ag q none (some (gapD r c ag (hld q))) (some (gapR r c ag (hld q))) (some (lbD r c ag)) (some (abW r c ag)) (some (.int (k : Nat))) none) rfl (St.not (St.val (St.bin rfl rfl (hd rfl hk)))) fun _ => rfl) nums_len
      rw [fm_if] at z
      exact z
    have c2 : eLc (iRange1 (eC (.int 64))) (tgName 16) (bAnd (bVal (eBin dIxA (eVar 11) (eVar 16))) (bVal (eBin dNotInA (eVar 16) (eBin dIxA (eVar 14) (eC (.int 1)))))) (eVar 16) [16] e3 (M2 ++ [.lst (out1.map fun k => D.int (k : Nat))]) = .ok (.ref 7) (M2 ++ [.lst (out1.map fun k => D.int (k : Nat))] ++ [.lst (out2.map fun k => D.int (k : Nat))]) := by
      have z := St.lcv (tg := tgName 16) (tt := bAnd (bVal (eBin dIxA (eVar 11) (eVar 16))) (bVal (eBin dNotInA (eVar 16) (eBin dIxA (eVar 14) (eC (.int 1)))))) (m := eVar 16) (vs := [16]) (e := e3) (f := fun k : Nat => D.int (k : Nat)) (g := fun k => if (hld q (rowAt k) && !decide (k ∈ mostL r c ag 64)) = true then some (D.int (k : Nat)) else none) (xs := List.range 64) (it := iRange1 (eC (.int 64))) (M0 := M2 ++ [.lst (out1.map fun k => D.int (k : Nat))]) (M := M2 ++ [.lst (out1.map fun k => D.int (k : Nat))]) (by rw [rng64, rng_map])
        (fun k hk acc => St.lcs (e1 := lE ns a b r c ag q none (some (gapD r c ag (hld q))) (some (gapR r c ag (hld q))) (some (lbD r c ag)) (some (abW r c ag)) (some (.int (k : Nat))) none) rfl (St.band2 (St.val (St.bin rfl rfl (hd rfl (List.mem_range.mp hk)))) fun _ => St.val (St.bin rfl (St.bin rfl rfl (by rw [l1]; rfl)) notin_nums)) fun _ => rfl) (by simp)
      rw [fm_if] at z
      exact z
    let M3 : MH := M2 ++ [.lst (out1.map fun k => D.int (k : Nat))] ++ [.lst (out2.map fun k => D.int (k : Nat))]
    let ou : List Nat := out1 ++ out2
    let e4 : Env2 := lE ns a b r c ag q none (some (gapD r c ag (hld q))) (some (gapR r c ag (hld q))) (some (lbD r c ag)) (some (abW r c ag)) none (some (.fro (ou.map fun k => D.int (k : Nat))))
    have s17 : sSet 17 (eBin (dCat mkF) (eLc (iSeq (eBin dIxA (eVar 14) (eC (.int 0)))) (tgName 16) (bNot (bVal (eBin dIxA (eVar 11) (eVar 16)))) (eVar 16) [16]) (eLc (iRange1 (eC (.int 64))) (tgName 16) (bAnd (bVal (eBin dIxA (eVar 11) (eVar 16))) (bVal (eBin dNotInA (eVar 16) (eBin dIxA (eVar 14) (eC (.int 1)))))) (eVar 16) [16])) e3 M2 = .nx e4 M3 := by
      have z := cat_F (M := M3) (x := .ref 6) (y := .ref 7) (xs := out1.map fun k => D.int (k : Nat)) (ys := out2.map fun k => D.int (k : Nat)) rfl rfl (by
        rw [List.length_map, List.length_map]
        have h1 : out1.length ≤ 64 := Nat.le_trans (List.length_filter_le _ _) (Nat.le_trans (List.length_filter_le _ _) (by simp))
        have h2 : out2.length ≤ 64 := Nat.le_trans (List.length_filter_le _ _) (by simp)
        omega)
      rw [← List.map_append] at z
      exact St.set (St.bin c1 c2 z)
    have fin : sRet (eBin dEq (eBin dEq (eVar 17) (eFro (eNil))) (eBin dIs (eVar 12) (eC .non))) e4 M3 = .rt (.bl true) M3 := by
      have q1 : dEq (.fro (ou.map fun k => D.int (k : Nat))) (.fro []) M3 = .ok (.bl ou.isEmpty) M3 := by
        rw [eq_nb (k := 4) (by decide) (nb_fro nbs) (nb_fro fun a h => absurd h (by simp))]
        cases ou <;> simp
      have same : ou.isEmpty = (gapI r c ag (hld q)).isNone := by
        rw [Bool.eq_iff_iff, List.isEmpty_iff, Option.isNone_iff_eq_none, ← between hn]
        have k1 : out1 = [] ↔ ∀ o, grp r o ≠ none → hld q o = true := by
          show ((List.range 64).filter (own r)).filter _ = [] ↔ _
          rw [List.filter_eq_nil_iff, all_rows]
          constructor
          · intro h k hk ho
            have := h k (List.mem_filter.mpr ⟨List.mem_range.mpr hk, decide_eq_true ho⟩)
            cases hh : hld q (rowAt k) with
            | true => rfl
            | false => rw [hh] at this; exact absurd rfl this
          · intro h k hk z
            rw [List.mem_filter] at hk
            rw [h k (List.mem_range.mp hk.1) (of_decide_eq_true hk.2)] at z
            cases z
        have k2 : out2 = [] ↔ ∀ o, hld q o = true → MostW r c ag o := by
          rw [List.filter_eq_nil_iff, all_rows]
          have mm : ∀ k, k < 64 → (k ∈ mostL r c ag 64 ↔ MostW r c ag (rowAt k)) := fun k hk => by
            unfold mostL
            rw [List.mem_filter, okL_iff]
            exact ⟨fun z => z.2, fun z => ⟨List.mem_range.mpr hk, z⟩⟩
          constructor
          · intro h k hk ho
            have := h k (List.mem_range.mpr hk)
            rw [ho, Bool.true_and] at this
            rw [← mm k hk]
            cases hh : decide (k ∈ mostL r c ag 64) with
            | true => exact of_decide_eq_true hh
            | false => rw [hh] at this; exact absurd rfl this
          · intro h k hk z
            rw [Bool.and_eq_true] at z
            have := (mm k (List.mem_range.mp hk)).mpr (h k (List.mem_range.mp hk) z.1)
            rw [decide_eq_true this] at z
            exact absurd z.2 (by decide)
        rw [← k1, ← k2]
        exact List.append_eq_nil_iff
      refine St.ret (St.bin (St.bin rfl (St.fro St.nil) q1) (St.bin rfl rfl is_gap) ?_)
      rw [same, eq_bl, beq_self_eq_true]
    exact ⟨M3, St.seq s12 (St.seq s13 (St.seq sI (St.seq a1 (St.seq s14 (St.seq (St.ifF t rfl) (St.seq s15 (St.seq a2 (St.seq s17 fin))))))))⟩
end
end K13
namespace K13
open PySem L2 T2
theorem law_true (ns : List Int) (hl : ns.length ≤ 63) : ∃ M', m_law [.fro (ns.map D.int)] [] = .ok (.bl true) M' := by
  have ebox := box_run hl
  obtain ⟨zs, s1, T, e1, hE, hT, h1, hzl, hnd, hz⟩ := names_run2 (R := []) (n := 2) (s := ⟨ns, 0, 0, 0, 0⟩) ⟨Int.le_refl _⟩ (by decide)
  obtain ⟨a, b, rfl⟩ : ∃ a b, zs = [a, b] := by
    match zs, hzl with
    | [a, b], _ => exact ⟨a, b, rfl⟩
  have ha := hz a (by simp)
  have hb := hz b (by simp)
  have en : m_law_names [.ref 0, .int 2] [(⟨ns, 0, 0, 0, 0⟩ : Bx).obj] = .ok (.fro [.str a, .str b]) [s1.obj] :=
    frz_ok (T := []) (G := T) e1 box_low (fz_new (k := 3) (by decide) hT fun x hx => by
      simp only [List.map_cons, List.map_nil, List.mem_cons, List.not_mem_nil, or_false] at hx
      rcases hx with rfl | rfl
      · exact pd_str ha.2.ok
      · exact pd_str hb.2.ok)
  obtain ⟨d3, s2, e2, x2, y2, h2⟩ := ldraw (R := []) (n := 3) h1 (by decide) (by decide)
  obtain ⟨c0, rfl⟩ := c3_of x2 y2
  obtain ⟨k, s3, e3, h3, hk⟩ := cond3 (R := []) h2
  let r : Rl := ⟨b, a, c0, k⟩
  have hr : RlOk r := ⟨hb.1, hb.2, ha.2.ok, by show k.lv ≤ 6; have := hk.1; omega, hk.2⟩
  obtain ⟨d5, s4, e5, _, _, h4⟩ := ldraw (R := []) (n := 2) h3 (by decide) (by decide)
  -- the column
  obtain ⟨c, s5, h5, x5⟩ : ∃ (c : C3) (s5 : Bx), BxOk s5 ∧ sIf (bVal (eBin dEq (eCall 2 m_law_draw (eCons (eVar 1) (eCons (eC (.int 2)) (eNil)))) (eC (.int 1)))) (sSet 4 (eCall 2 m_law_draw (eCons (eVar 1) (eCons (eC (.int 3)) (eNil))))) (sNil)
      [some (.fro (ns.map D.int)), some (.ref 0), some (.fro [.str a, .str b]), some r.d, some (.int c0.i), none, none, none, none, none, none, none, none, none, none, none, none, none] [s3.obj] =
      .nx [some (.fro (ns.map D.int)), some (.ref 0), some (.fro [.str a, .str b]), some r.d, some (.int c.i), none, none, none, none, none, none, none, none, none, none, none, none, none] [s5.obj] := by
    have t : bVal (eBin dEq (eCall 2 m_law_draw (eCons (eVar 1) (eCons (eC (.int 2)) (eNil)))) (eC (.int 1))) [some (.fro (ns.map D.int)), some (.ref 0), some (.fro [.str a, .str b]), some r.d, some (.int c0.i), none, none, none, none, none, none, none, none, none, none, none, none, none] [s3.obj] = .ok (d5 == 1) [s4.obj] :=
      St.val (St.bin (St.call (St.cons rfl (St.cons rfl St.nil)) rfl e5) rfl eq_int)
    cases hd : (d5 == 1) with
    | false => rw [hd] at t; exact ⟨c0, s4, h4, St.ifF t rfl⟩
    | true =>
      rw [hd] at t
      obtain ⟨d6, s5, e6, x6, y6, h5⟩ := ldraw (R := []) (n := 3) h4 (by decide) (by decide)
      obtain ⟨c, rfl⟩ := c3_of x6 y6
      exact ⟨c, s5, h5, St.ifT t (St.set (St.call (St.cons rfl (St.cons rfl St.nil)) rfl e6))⟩
  obtain ⟨d7, s6, e7, _, _, h6⟩ := ldraw (R := []) (n := 2) h5 (by decide) (by decide)
  obtain ⟨q, s7, e8, h7, hq⟩ := index_run (R := []) (r := r) h6 hk
  let ag : Bool := d7 == 0
  obtain ⟨M', tail⟩ := tail_run (ns := ns) (a := a) (b := b) (s := s7) (ag := ag) (c := c) hr hq
  have ev : m_law_every [] [s7.obj] = .ok (.fro rowsD) [s7.obj] := by rw [every_is]; exact every_run
  have x1 : sSet 1 (eCall 1 m_law_box (eCons (eVar 0) (eNil))) [some (.fro (ns.map D.int)), none, none, none, none, none, none, none, none, none, none, none, none, none, none, none, none, none] [] = .nx [some (.fro (ns.map D.int)), some (.ref 0), none, none, none, none, none, none, none, none, none, none, none, none, none, none, none, none] [(⟨ns, 0, 0, 0, 0⟩ : Bx).obj] := St.set (St.call (St.cons rfl St.nil) rfl ebox)
  have x2' : sSet 2 (eCall 2 m_law_names (eCons (eVar 1) (eCons (eC (.int 2)) (eNil)))) [some (.fro (ns.map D.int)), some (.ref 0), none, none, none, none, none, none, none, none, none, none, none, none, none, none, none, none] [(⟨ns, 0, 0, 0, 0⟩ : Bx).obj] = .nx [some (.fro (ns.map D.int)), some (.ref 0), some (.fro [.str a, .str b]), none, none, none, none, none, none, none, none, none, none, none, none, none, none, none] [s1.obj] := St.set (St.call (St.cons rfl (St.cons rfl St.nil)) rfl en)
  have x3 : sSet 3 (eTup (eCons (eBin dIxA (eVar 2) (eC (.int 1))) (eCons (eBin dIxA (eVar 2) (eC (.int 0))) (eCons (eCall 2 m_law_draw (eCons (eVar 1) (eCons (eC (.int 3)) (eNil)))) (eCons (eCall 3 (m_law_condition 5) (eCons (eVar 1) (eCons (eC (.int 3)) (eCons (eC (.int 0)) (eNil))))) (eNil)))))) [some (.fro (ns.map D.int)), some (.ref 0), some (.fro [.str a, .str b]), none, none, none, none, none, none, none, none, none, none, none, none, none, none, none] [s1.obj] =
      .nx [some (.fro (ns.map D.int)), some (.ref 0), some (.fro [.str a, .str b]), some r.d, none, none, none, none, none, none, none, none, none, none, none, none, none, none] [s3.obj] :=
    St.set (St.tup (St.cons (St.bin rfl rfl rfl) (St.cons (St.bin rfl rfl rfl) (St.cons (St.call (St.cons rfl (St.cons rfl St.nil)) rfl e2) (St.cons (St.call (St.cons rfl (St.cons rfl (St.cons rfl St.nil))) rfl e3) St.nil)))))
  have x4 : sSet 4 (eBin dIxA (eVar 3) (eC (.int 2))) [some (.fro (ns.map D.int)), some (.ref 0), some (.fro [.str a, .str b]), some r.d, none, none, none, none, none, none, none, none, none, none, none, none, none, none] [s3.obj] = .nx [some (.fro (ns.map D.int)), some (.ref 0), some (.fro [.str a, .str b]), some r.d, some (.int c0.i), none, none, none, none, none, none, none, none, none, none, none, none, none] [s3.obj] := St.set (St.bin rfl rfl ixT2)
  have x6 : sSet 5 (eBin dEq (eCall 2 m_law_draw (eCons (eVar 1) (eCons (eC (.int 2)) (eNil)))) (eC (.int 0))) [some (.fro (ns.map D.int)), some (.ref 0), some (.fro [.str a, .str b]), some r.d, some (.int c.i), none, none, none, none, none, none, none, none, none, none, none, none, none] [s5.obj] = .nx [some (.fro (ns.map D.int)), some (.ref 0), some (.fro [.str a, .str b]), some r.d, some (.int c.i), some (.bl ag), none, none, none, none, none, none, none, none, none, none, none, none] [s6.obj] :=
    St.set (St.bin (St.call (St.cons rfl (St.cons rfl St.nil)) rfl e7) rfl eq_int)
  have x7 : sSet 6 (eCall 2 m_law_index_condition (eCons (eVar 1) (eCons (eVar 3) (eNil)))) [some (.fro (ns.map D.int)), some (.ref 0), some (.fro [.str a, .str b]), some r.d, some (.int c.i), some (.bl ag), none, none, none, none, none, none, none, none, none, none, none, none] [s6.obj] = .nx [some (.fro (ns.map D.int)), some (.ref 0), some (.fro [.str a, .str b]), some r.d, some (.int c.i), some (.bl ag), some q.d, none, none, none, none, none, none, none, none, none, none, none] [s7.obj] := St.set (St.call (St.cons rfl (St.cons rfl St.nil)) rfl e8)
  let E7 : Env2 := [some (.fro (ns.map D.int)), some (.ref 0), some (.fro [.str a, .str b]), some r.d, some (.int c.i), some (.bl ag), some q.d, some (.fro rowsD), none, none, none, none, none, none, none, none, none, none]
  have x8 : sSet 7 (eCall 0 m_law_every eNil) [some (.fro (ns.map D.int)), some (.ref 0), some (.fro [.str a, .str b]), some r.d, some (.int c.i), some (.bl ag), some q.d, none, none, none, none, none, none, none, none, none, none, none] [s7.obj] = .nx E7 [s7.obj] := St.set (St.call St.nil rfl ev)
  -- the three lists
  have g1 := lc_each (mo := eVar 7) (tg := tgName 9) (m := eCall 2 m_law_group (eCons (eVar 3) (eCons (eVar 9) (eNil)))) (vs := [9]) (e := E7) (M0 := [s7.obj]) (M := [s7.obj]) (l := .fro rowsD) (f := Rw.d) (g := fun w => Vl.d (grp r w)) (xs := rowsR) rfl (by rw [← rowsD_R]; exact o_itF)
    (fun w _ acc => St.lcs1 (e1 := E7.set 9 (some w.d)) rfl (St.call (St.cons rfl (St.cons rfl St.nil)) rfl (lgroup_run hr))) (by rw [rowsR_len]; decide)
  have g2 := lc_each (mo := eVar 7) (tg := tgName 9) (m := eBin dIxA (eVar 9) (eVar 4)) (vs := [9]) (e := E7.set 8 (some (.ref 1))) (M0 := [s7.obj, .lst (rowsR.map fun w => Vl.d (grp r w))]) (M := [s7.obj, .lst (rowsR.map fun w => Vl.d (grp r w))]) (l := .fro rowsD) (f := Rw.d) (g := fun w => Vl.d (w.at c)) (xs := rowsR) rfl (by rw [← rowsD_R]; exact o_itF)
    (fun w _ acc => St.lcs1 (e1 := (E7.set 8 (some (.ref 1))).set 9 (some w.d)) rfl (St.bin rfl rfl at_ix)) (by rw [rowsR_len]; decide)
  have g3 := lc_each (mo := eVar 7) (tg := tgName 9) (m := eBin dEq (eCall 2 (m_law_truth 20) (eCons (eVar 6) (eCons (eVar 9) (eNil)))) (eC (.int 2))) (vs := [9]) (e := (E7.set 8 (some (.ref 1))).set 10 (some (.ref 2))) (M0 := [s7.obj, .lst (rowsR.map fun w => Vl.d (grp r w)), .lst (rowsR.map fun w => Vl.d (w.at c))]) (M := [s7.obj, .lst (rowsR.map fun w => Vl.d (grp r w)), .lst (rowsR.map fun w => Vl.d (w.at c))]) (l := .fro rowsD) (f := Rw.d) (g := fun w => D.bl (hld q w)) (xs := rowsR) rfl (by rw [← rowsD_R]; exact o_itF)
    (fun w _ acc => St.lcs1 (e1 := ((E7.set 8 (some (.ref 1))).set 10 (some (.ref 2))).set 9 (some w.d)) rfl (St.bin (St.call (St.cons rfl (St.cons rfl St.nil)) rfl (lawTruth_run (c := q) (k := 20) (by have := hq.1; omega) (r := w))) rfl (by unfold hld; cases q.ev w <;> rfl))) (by rw [rowsR_len]; decide)
  refine ⟨M', St.fn ?_⟩
  show b_law [some (.fro (ns.map D.int)), none, none, none, none, none, none, none, none, none, none, none, none, none, none, none, none, none] [] = _
  exact St.seq x1 (St.seq x2' (St.seq x3 (St.seq x4 (St.seq x5 (St.seq x6 (St.seq x7 (St.seq x8 (St.seq (St.set g1) (St.seq (St.set g2) (St.seq (St.set g3) tail))))))))))
theorem law_sp {K : PySem.W.Frag} {ad : Nat → Addr} {vs : List V} {H : Hp} {Q : VK} {E : L2.XK} (hs : spLaw K vs H Q E) : spD ⟨K, ad⟩ 1 m_law vs H Q E := sp_of_true law_true hs
end K13
namespace K13
open PySem L2 T2
theorem walk {l : PySem.W.OpenLaw} {q : Program} {loose : List Str} {XP : (Str → Option Value) → Heap → Prop} {YP : World → Heap → Prop} {d : DefRec} {K : Params → PySem.W.Frag} (hn : l.most = some 63) (hdf : d.params.defaults = [])
    (hY : ∀ (w : World) (h : Heap), YP w h → (K w.params).In h)
    (F : ∀ (w : World) (mg : Str → Option Value) (fa : Addr) (h : Heap), (K w.params).In h → h.Ns mainGlobals mg → mg d.name = some (.ref fa) →
      ∃ fd : FuncData, (∀ (s : Shared) (u : Value), BindsTo s fd ⟨[u], []⟩ [("_law_script", u)]) ∧ ∀ base : Heap, (K w.params).In base → base.Ns mainGlobals mg → ∃ ad : Nat → Addr, FnOk l.prog w (K w.params) mg base (L2N.CX l.prog w) 64 fa fd ["_law_script"] (spD ⟨K w.params, ad⟩ 1 m_law)) :
    PySem.W.WalkO q loose XP YP l.row.toRowW d [] (fun f vs => PySem.call f vs) :=
  L2.walk_of (n := 63) (k := 64) (x := "_law_script") (CX := fun w => L2N.CX l.prog w) (sp := fun w => spLaw (K w.params)) hn (by decide) hdf ⟨rfl, by decide, by decide⟩ hY (fun w mg fa h KI GN hmg => (F w mg fa h KI GN hmg).imp fun fd hF => ⟨hF.1, fun base b1 b2 => (hF.2 base b1 b2).elim fun ad hok => hok.imp fun vs H Q Ex hs => law_sp hs⟩) (fun w H a ns hl _ hS => ⟨a, ns, rfl, hl, hS, fun _ => rfl⟩) fun w H s e s' hc => no_exc hc
end K13
namespace K13
open PySem L2 T2
theorem all_mk {l : PySem.W.OpenLaw} {w : World} {K : PySem.W.Frag} {h : Heap} {mg : Str → Option Value} {fa : Addr} (X : K.In h) (G : h.Ns mainGlobals mg) (hfa : mg "law" = some (.ref fa))
    {f8 f3 f30 f31 f32 f34 f35 f36 f33 f41 f39 f37 f38 f42 f43 f40 f9 f17 f14 f15 f23 f4 z180 z181 z193 f10 q10 f24 f25 f26 f27 f28 f44 f29 f45 f6 f5 f22 : Addr} {z1 z3 z4 z5 z7 z8 z10 z12 z13 z14 z16 z17 z19 z21 z22 z23 z25 z26 z28 z30 z31 z32 z34 z35 z37 z39 z40 z41 z43 z44 z46 z48 z49 z50 z52 z53 z55 z57 z58 z59 z61 z62 z64 z66 z67 z68 z70 z71 z73 z75 z76 z77 z79 z80 z82 z84 z85 z86 z88 z89 z91 z93 z94 z95 z97 z98 z100 z102 z103 z104 z106 z107 z109 z111 z112 z113 z115 z116 z118 z120 z121 z122 z124 z125 z127 z129 z130 z131 z133 z134 z136 z138 z139 z140 z142 z143 z145 z147 z148 z149 z151 z152 z154 z156 z157 z158 z160 z161 z163 z165 z166 z167 z169 z170 z172 z174 z175 z176 z178 z182 z188 z206 z208 z209 z210 z212 z213 z215 z217 z218 z219 z221 z222 z224 z226 z227 z228 z230 z231 z233 z235 z236 z237 z239 z240 z242 z244 z245 z246 z248 z249 z251 z253 z254 z255 z257 z258 z260 z262 z263 z264 z266 z267 z269 z271 z272 z273 z275 z276 z278 z280 z281 z282 z284 z285 z287 z289 z290 z291 z293 z294 : Value} {z2 z6 z11 z15 z20 z24 z29 z33 z38 z42 z47 z51 z56 z60 z65 z69 z74 z78 z83 z87 z92 z96 z101 z105 z110 z114 z119 z123 z128 z132 z137 z141 z146 z150 z155 z159 z164 z168 z173 z177 z183 z189 z200 z207 z211 z216 z220 z225 z229 z234 z238 z243 z247 z252 z256 z261 z265 z270 z274 z279 z283 z288 z292 z301 z307 : Option Addr} {z9 z18 z27 z36 z45 z54 z63 z72 z81 z90 z99 z108 z117 z126 z135 z144 z153 z162 z171 z179 z185 z190 z214 z223 z232 z241 z250 z259 z268 z277 z286 z295 z300 z306 : Array (Option Value)} {z184 : Array Value} {z186 z191 z192 : Str} {z187 z296 z297 z298 z302 z303 z304 : Tok} {z194 z195 z197 rs10 : List Value} {z196 : List Str} {z198 : Bool} {z199 : Option Bool} {z201 z202 z203 z204 z205 : Option Value} {z299 z305 : Nat}
    (a8 : PySem.W.nsIn K mainGlobals "Truth" = some (some (.ref f8)))
    (a3 : PySem.W.nsIn K mainGlobals "ZeroDivisor" = some (some (.ref f3)))
    (a30 : PySem.W.nsIn K mainGlobals "_law_box" = some (some (.ref f30)))
    (l30 : K.lookup f30 = some ⟨z1, z2, .func (PySem.W.fnOf "_law_box" "_law_box" (defArgs s_law_box) (defBody s_law_box) (defScope s_law_box) .none z3 z4 z5 z6 z7 z8), z9⟩)
    (c30 : PySem.W.codeIn K z7 "_law_box" = true)
    (k30 : PySem.W.keepIn K (.ref f30) = true)
    (a31 : PySem.W.nsIn K mainGlobals "_law_draw" = some (some (.ref f31)))
    (l31 : K.lookup f31 = some ⟨z10, z11, .func (PySem.W.fnOf "_law_draw" "_law_draw" (defArgs s_law_draw) (defBody s_law_draw) (defScope s_law_draw) .none z12 z13 z14 z15 z16 z17), z18⟩)
    (c31 : PySem.W.codeIn K z16 "_law_draw" = true)
    (k31 : PySem.W.keepIn K (.ref f31) = true)
    (a32 : PySem.W.nsIn K mainGlobals "_law_names" = some (some (.ref f32)))
    (l32 : K.lookup f32 = some ⟨z19, z20, .func (PySem.W.fnOf "_law_names" "_law_names" (defArgs s_law_names) (defBody s_law_names) (defScope s_law_names) .none z21 z22 z23 z24 z25 z26), z27⟩)
    (c32 : PySem.W.codeIn K z25 "_law_names" = true)
    (k32 : PySem.W.keepIn K (.ref f32) = true)
    (a34 : PySem.W.nsIn K mainGlobals "_law_condition" = some (some (.ref f34)))
    (l34 : K.lookup f34 = some ⟨z28, z29, .func (PySem.W.fnOf "_law_condition" "_law_condition" (defArgs s_law_condition) (defBody s_law_condition) (defScope s_law_condition) .none z30 z31 z32 z33 z34 z35), z36⟩)
    (c34 : PySem.W.codeIn K z34 "_law_condition" = true)
    (k34 : PySem.W.keepIn K (.ref f34) = true)
    (a35 : PySem.W.nsIn K mainGlobals "_law_atom" = some (some (.ref f35)))
    (l35 : K.lookup f35 = some ⟨z37, z38, .func (PySem.W.fnOf "_law_atom" "_law_atom" (defArgs s_law_atom) (defBody s_law_atom) (defScope s_law_atom) .none z39 z40 z41 z42 z43 z44), z45⟩)
    (c35 : PySem.W.codeIn K z43 "_law_atom" = true)
    (k35 : PySem.W.keepIn K (.ref f35) = true)
    (a36 : PySem.W.nsIn K mainGlobals "_law_only" = some (some (.ref f36)))
    (l36 : K.lookup f36 = some ⟨z46, z47, .func (PySem.W.fnOf "_law_only" "_law_only" (defArgs s_law_only) (defBody s_law_only) (defScope s_law_only) .none z48 z49 z50 z51 z52 z53), z54⟩)
    (c36 : PySem.W.codeIn K z52 "_law_only" = true)
    (k36 : PySem.W.keepIn K (.ref f36) = true)
    (a33 : PySem.W.nsIn K mainGlobals "_law_row" = some (some (.ref f33)))
    (l33 : K.lookup f33 = some ⟨z55, z56, .func (PySem.W.fnOf "_law_row" "_law_row" (defArgs s_law_row) (defBody s_law_row) (defScope s_law_row) .none z57 z58 z59 z60 z61 z62), z63⟩)
    (c33 : PySem.W.codeIn K z61 "_law_row" = true)
    (k33 : PySem.W.keepIn K (.ref f33) = true)
    (a41 : PySem.W.nsIn K mainGlobals "_law_index_condition" = some (some (.ref f41)))
    (l41 : K.lookup f41 = some ⟨z64, z65, .func (PySem.W.fnOf "_law_index_condition" "_law_index_condition" (defArgs s_law_index_condition) (defBody s_law_index_condition) (defScope s_law_index_condition) .none z66 z67 z68 z69 z70 z71), z72⟩)
    (c41 : PySem.W.codeIn K z70 "_law_index_condition" = true)
    (k41 : PySem.W.keepIn K (.ref f41) = true)
    (a39 : PySem.W.nsIn K mainGlobals "_law_every" = some (some (.ref f39)))
    (l39 : K.lookup f39 = some ⟨z73, z74, .func (PySem.W.fnOf "_law_every" "_law_every" (defArgs s_law_every) (defBody s_law_every) (defScope s_law_every) .none z75 z76 z77 z78 z79 z80), z81⟩)
    (c39 : PySem.W.codeIn K z79 "_law_every" = true)
    (k39 : PySem.W.keepIn K (.ref f39) = true)
    (a37 : PySem.W.nsIn K mainGlobals "_law_truth" = some (some (.ref f37)))
    (l37 : K.lookup f37 = some ⟨z82, z83, .func (PySem.W.fnOf "_law_truth" "_law_truth" (defArgs s_law_truth) (defBody s_law_truth) (defScope s_law_truth) .none z84 z85 z86 z87 z88 z89), z90⟩)
    (c37 : PySem.W.codeIn K z88 "_law_truth" = true)
    (k37 : PySem.W.keepIn K (.ref f37) = true)
    (a38 : PySem.W.nsIn K mainGlobals "_law_group" = some (some (.ref f38)))
    (l38 : K.lookup f38 = some ⟨z91, z92, .func (PySem.W.fnOf "_law_group" "_law_group" (defArgs s_law_group) (defBody s_law_group) (defScope s_law_group) .none z93 z94 z95 z96 z97 z98), z99⟩)
    (c38 : PySem.W.codeIn K z97 "_law_group" = true)
    (k38 : PySem.W.keepIn K (.ref f38) = true)
    (a42 : PySem.W.nsIn K mainGlobals "_law_found" = some (some (.ref f42)))
    (l42 : K.lookup f42 = some ⟨z100, z101, .func (PySem.W.fnOf "_law_found" "_law_found" (defArgs s_law_found) (defBody s_law_found) (defScope s_law_found) .none z102 z103 z104 z105 z106 z107), z108⟩)
    (c42 : PySem.W.codeIn K z106 "_law_found" = true)
    (k42 : PySem.W.keepIn K (.ref f42) = true)
    (a43 : PySem.W.nsIn K mainGlobals "_law_gap" = some (some (.ref f43)))
    (l43 : K.lookup f43 = some ⟨z109, z110, .func (PySem.W.fnOf "_law_gap" "_law_gap" (defArgs s_law_gap) (defBody s_law_gap) (defScope s_law_gap) .none z111 z112 z113 z114 z115 z116), z117⟩)
    (c43 : PySem.W.codeIn K z115 "_law_gap" = true)
    (k43 : PySem.W.keepIn K (.ref f43) = true)
    (a40 : PySem.W.nsIn K mainGlobals "_law_alike" = some (some (.ref f40)))
    (l40 : K.lookup f40 = some ⟨z118, z119, .func (PySem.W.fnOf "_law_alike" "_law_alike" (defArgs s_law_alike) (defBody s_law_alike) (defScope s_law_alike) .none z120 z121 z122 z123 z124 z125), z126⟩)
    (c40 : PySem.W.codeIn K z124 "_law_alike" = true)
    (k40 : PySem.W.keepIn K (.ref f40) = true)
    (om9 : PySem.W.findIn K (.ref f8) "__init__" = some (some (.ref f9)))
    (l9 : K.lookup f9 = some ⟨z127, z128, .func (PySem.W.fnOf "__init__" "Truth.__init__" (defArgs s_Truth___init__) (defBody s_Truth___init__) (defScope s_Truth___init__) .none z129 z130 z131 z132 z133 z134), z135⟩)
    (c9 : PySem.W.codeIn K z133 "Truth.__init__" = true)
    (k9 : PySem.W.keepIn K (.ref f9) = true)
    (om17 : PySem.W.findIn K (.ref f8) "__invert__" = some (some (.ref f17)))
    (l17 : K.lookup f17 = some ⟨z136, z137, .func (PySem.W.fnOf "__invert__" "Truth.__invert__" (defArgs s_Truth___invert__) (defBody s_Truth___invert__) (defScope s_Truth___invert__) .none z138 z139 z140 z141 z142 z143), z144⟩)
    (c17 : PySem.W.codeIn K z142 "Truth.__invert__" = true)
    (k17 : PySem.W.keepIn K (.ref f17) = true)
    (om14 : PySem.W.findIn K (.ref f8) (PySem.dunder Operator.BitAnd.info.2) = some (some (.ref f14)))
    (l14 : K.lookup f14 = some ⟨z145, z146, .func (PySem.W.fnOf "__and__" "Truth.__and__" (defArgs s_Truth___and__) (defBody s_Truth___and__) (defScope s_Truth___and__) .none z147 z148 z149 z150 z151 z152), z153⟩)
    (c14 : PySem.W.codeIn K z151 "Truth.__and__" = true)
    (k14 : PySem.W.keepIn K (.ref f14) = true)
    (om15 : PySem.W.findIn K (.ref f8) (PySem.dunder Operator.BitOr.info.2) = some (some (.ref f15)))
    (l15 : K.lookup f15 = some ⟨z154, z155, .func (PySem.W.fnOf "__or__" "Truth.__or__" (defArgs s_Truth___or__) (defBody s_Truth___or__) (defScope s_Truth___or__) .none z156 z157 z158 z159 z160 z161), z162⟩)
    (c15 : PySem.W.codeIn K z160 "Truth.__or__" = true)
    (k15 : PySem.W.keepIn K (.ref f15) = true)
    (a23 : PySem.W.nsIn K mainGlobals "joined" = some (some (.ref f23)))
    (l23 : K.lookup f23 = some ⟨z163, z164, .func (PySem.W.fnOf "joined" "joined" (defArgs s_joined) (defBody s_joined) (defScope s_joined) .none z165 z166 z167 z168 z169 z170), z171⟩)
    (c23 : PySem.W.codeIn K z169 "joined" = true)
    (k23 : PySem.W.keepIn K (.ref f23) = true)
    (om4 : PySem.W.findIn K (.ref f3) "__init__" = some (some (.ref f4)))
    (l4 : K.lookup f4 = some ⟨z172, z173, .func (PySem.W.ksFn "__init__" "ZeroDivisor.__init__" (defArgs s_ZeroDivisor___init__) (defBody s_ZeroDivisor___init__) (defScope s_ZeroDivisor___init__) .none z174 z175 z176 z177 (.ref z180) z178 z181), z179⟩)
    (c4 : PySem.W.codeIn K (.ref z180) "ZeroDivisor.__init__" = true)
    (oc4 : K.lookup z180 = some ⟨z182, z183, .fields z184, z185⟩)
    (ov4 : z184[2]? = some (.str z186 z187))
    (of_4 : ((l.prog.main.file : Str) == z186) = true)
    (oe4 : K.lookup z181 = some ⟨z188, z189, .cell (some (.ref f3)), z190⟩)
    (om_3 : PySem.W.mroIn K f3 (.ref f3) = some true)
    (n_super : PySem.W.nsIn K mainGlobals "super" = some none)
    (othird : PySem.W.nsIn K cStatics "thirdparty.any" = some none)
    (osin3 : PySem.W.ks_superIn K f3 f3 "__init__" = some (some (.builtin "ValueError.__init__")))
    (oisv3 : PySem.W.subIn K (.ref f3) (.type "ValueError") = some true)
    (otop : (l.prog.main.scope.names.lookup ("super" : Str)).isSome = false)
    (ok_3 : K.lookup f3 = some (excClassObj z191 z192 f3 z193 z194 z195 true z196 z197 z198 z199 z200 z201 z202 z203 z204 z205 "ValueError.__new__"))
    (ob_3 : PySem.HandSPX.refsVE z195 = true)
    (csa3 : PySem.W.findIn K (.ref f3) "__setattr__" = some (some (.builtin "object.__setattr__")))
    (xb3 : PySem.W.subIn K (.ref f3) (.type "BaseException") = some true)
    (xt3 : PySem.W.typeIn K (.ref f3) = some (.type "type"))
    (kp3 : PySem.W.keepIn K (.ref f3) = true)
    (ot3 : PySem.W.typeIn K (.ref f4) = some (.type "function"))
    (ofl3_told : PySem.W.findIn K (.ref f3) "told" = some none)
    (pa10 : PySem.W.findCls K (.ref f8) (.type "type") "of" = some (.get (.builtin "staticmethod.__get__") (.ref q10) .none (.ref f8)))
    (pr10 : PySem.W.recIn K q10 "staticmethod" = some (.ref f10 :: rs10))
    (l10 : K.lookup f10 = some ⟨z206, z207, .func (PySem.W.fnOf "of" "Truth.of" (defArgs s_Truth_of) (defBody s_Truth_of) (defScope s_Truth_of) .none z208 z209 z210 z211 z212 z213), z214⟩)
    (c10 : PySem.W.codeIn K z212 "Truth.of" = true)
    (k10 : PySem.W.keepIn K (.ref f10) = true)
    (a24 : PySem.W.nsIn K mainGlobals "quotient" = some (some (.ref f24)))
    (l24 : K.lookup f24 = some ⟨z215, z216, .func (PySem.W.fnOf "quotient" "quotient" (defArgs s_quotient) (defBody s_quotient) (defScope s_quotient) .none z217 z218 z219 z220 z221 z222), z223⟩)
    (c24 : PySem.W.codeIn K z221 "quotient" = true)
    (k24 : PySem.W.keepIn K (.ref f24) = true)
    (a25 : PySem.W.nsIn K mainGlobals "truth" = some (some (.ref f25)))
    (l25 : K.lookup f25 = some ⟨z224, z225, .func (PySem.W.fnOf "truth" "truth" (defArgs s_truth) (defBody s_truth) (defScope s_truth) .none z226 z227 z228 z229 z230 z231), z232⟩)
    (c25 : PySem.W.codeIn K z230 "truth" = true)
    (k25 : PySem.W.keepIn K (.ref f25) = true)
    (a26 : PySem.W.nsIn K mainGlobals "group" = some (some (.ref f26)))
    (l26 : K.lookup f26 = some ⟨z233, z234, .func (PySem.W.fnOf "group" "group" (defArgs s_group) (defBody s_group) (defScope s_group) .none z235 z236 z237 z238 z239 z240), z241⟩)
    (c26 : PySem.W.codeIn K z239 "group" = true)
    (k26 : PySem.W.keepIn K (.ref f26) = true)
    (a27 : PySem.W.nsIn K mainGlobals "groups_of" = some (some (.ref f27)))
    (l27 : K.lookup f27 = some ⟨z242, z243, .func (PySem.W.fnOf "groups_of" "groups_of" (defArgs s_groups_of) (defBody s_groups_of) (defScope s_groups_of) .none z244 z245 z246 z247 z248 z249), z250⟩)
    (c27 : PySem.W.codeIn K z248 "groups_of" = true)
    (k27 : PySem.W.keepIn K (.ref f27) = true)
    (a28 : PySem.W.nsIn K mainGlobals "arbiter_gap" = some (some (.ref f28)))
    (l28 : K.lookup f28 = some ⟨z251, z252, .func (PySem.W.fnOf "arbiter_gap" "arbiter_gap" (defArgs s_arbiter_gap) (defBody s_arbiter_gap) (defScope s_arbiter_gap) .none z253 z254 z255 z256 z257 z258), z259⟩)
    (c28 : PySem.W.codeIn K z257 "arbiter_gap" = true)
    (k28 : PySem.W.keepIn K (.ref f28) = true)
    (a44 : PySem.W.nsIn K mainGlobals "_law_bounds" = some (some (.ref f44)))
    (l44 : K.lookup f44 = some ⟨z260, z261, .func (PySem.W.fnOf "_law_bounds" "_law_bounds" (defArgs s_law_bounds) (defBody s_law_bounds) (defScope s_law_bounds) .none z262 z263 z264 z265 z266 z267), z268⟩)
    (c44 : PySem.W.codeIn K z266 "_law_bounds" = true)
    (k44 : PySem.W.keepIn K (.ref f44) = true)
    (a29 : PySem.W.nsIn K mainGlobals "arbiter_bounds" = some (some (.ref f29)))
    (l29 : K.lookup f29 = some ⟨z269, z270, .func (PySem.W.fnOf "arbiter_bounds" "arbiter_bounds" (defArgs s_arbiter_bounds) (defBody s_arbiter_bounds) (defScope s_arbiter_bounds) .none z271 z272 z273 z274 z275 z276), z277⟩)
    (c29 : PySem.W.codeIn K z275 "arbiter_bounds" = true)
    (k29 : PySem.W.keepIn K (.ref f29) = true)
    (a45 : PySem.W.nsIn K mainGlobals "law" = some (some (.ref f45)))
    (l45 : K.lookup f45 = some ⟨z278, z279, .func (PySem.W.fnOf "law" "law" (defArgs s_law) (defBody s_law) (defScope s_law) .none z280 z281 z282 z283 z284 z285), z286⟩)
    (c45 : PySem.W.codeIn K z284 "law" = true)
    (k45 : PySem.W.keepIn K (.ref f45) = true)
    (n_range : PySem.W.nsIn K mainGlobals "range" = some none)
    (n_isinstance : PySem.W.nsIn K mainGlobals "isinstance" = some none)
    (cpg8 : PySem.W.plainGet K f8 Str.empty = true)
    (chd8 : PySem.W.hasDictIn K f8 = true)
    (cpo8 : PySem.W.plainOver K f8 = true)
    (csa8 : PySem.W.findIn K (.ref f8) "__setattr__" = some (some (.builtin "object.__setattr__")))
    (ec8 : PySem.W.findIn K (.ref f8) "__class__" = some (some (.builtin "object.__class__")))
    (en : PySem.W.specialIn K (.builtin "object.__class__") "__get__" = some (some (.builtin "getset_descriptor.__get__")))
    (et : PySem.W.takesIn K (.builtin "object.__class__") = some true)
    (em8 : PySem.W.mroIn K f8 (.type "object") = some true)
    (ei8_8 : PySem.W.kitOne K (.ref f8) (.ref f8) = some true)
    (n_bool : PySem.W.nsIn K mainGlobals "bool" = some none)
    (n_int : PySem.W.nsIn K mainGlobals "int" = some none)
    (n_str : PySem.W.nsIn K mainGlobals "str" = some none)
    (n_tuple : PySem.W.nsIn K mainGlobals "tuple" = some none)
    (n_len : PySem.W.nsIn K mainGlobals "len" = some none)
    (n_list : PySem.W.nsIn K mainGlobals "list" = some none)
    (a6 : PySem.W.nsIn K mainGlobals "all_rows" = some (some (.ref f6)))
    (l6 : K.lookup f6 = some ⟨z287, z288, .func (PySem.W.fnOf "all_rows" "all_rows" (defArgs s_all_rows) (defBody s_all_rows) (defScope s_all_rows) .none z289 z290 z291 z292 z293 z294), z295⟩)
    (c6 : PySem.W.codeIn K z293 "all_rows" = true)
    (k6 : PySem.W.keepIn K (.ref f6) = true)
    (a5 : PySem.W.nsIn K mainGlobals "VALUES" = some (some (.ref f5)))
    (r5 : K.lookup f5 = some ⟨.type "tuple", z301, .seq #[.none, .int 0 z296, .int 1 z297, .int 2 z298] z299, z300⟩)
    (na8_rank : PySem.W.findIn K (.ref f8) "rank" = some none)
    (mm8 : PySem.W.makesIn K f8 = true)
    (of9 : PySem.W.isFn K (.ref f9) = true)
    (kp8 : PySem.W.keepIn K (.ref f8) = true)
    (of17 : PySem.W.isFn K (.ref f17) = true)
    (sf8 : PySem.W.selfFirst K f8 = true)
    (a22 : PySem.W.nsIn K mainGlobals "JOINTS" = some (some (.ref f22)))
    (r22 : K.lookup f22 = some ⟨.type "tuple", z307, .seq #[.str "not" z302, .str "and" z303, .str "or" z304] z305, z306⟩)
    (ctp8 : PySem.W.typeIn K (.ref f8) = some (.type "type"))
    (crd8 : PySem.W.readsIn K f8 (.type "type") = true)
    (cga8 : PySem.W.specialIn K (.ref f8) "__getattribute__" = some (some (.builtin "type.__getattribute__")))
    (of14 : PySem.W.isFn K (.ref f14) = true)
    (of15 : PySem.W.isFn K (.ref f15) = true)
    (n_abs : PySem.W.nsIn K mainGlobals "abs" = some none)
    : ∃ fd : FuncData, (∀ (s : Shared) (v : Value), BindsTo s fd ⟨[v], []⟩ [("_law_script", v)]) ∧ ∀ base : Heap, K.In base → base.Ns mainGlobals mg → ∃ ad : Nat → Addr, FnOk l.prog w K mg base (L2N.CX l.prog w) 64 fa fd ["_law_script"] (spD ⟨K, ad⟩ 1 m_law) := by
  have efa : fa = f45 := Value.ref.inj (Option.some.inj (hfa.symm.trans (PySem.W.mg_of X G a45)))
  have F30 := fun_mk (st := s_law_box) l30 c30 k30
  have b30 := F30.binds (ps := ["_law_script"]) fun _ _ _ _ _ _ us hl => match us, hl with | [_], _ => rfl
  have F31 := fun_mk (st := s_law_draw) l31 c31 k31
  have b31 := F31.binds (ps := ["_law_box_here", "_law_size"]) fun _ _ _ _ _ _ us hl => match us, hl with | [_, _], _ => rfl
  have F32 := fun_mk (st := s_law_names) l32 c32 k32
  have b32 := F32.binds (ps := ["_law_box_here", "_law_many"]) fun _ _ _ _ _ _ us hl => match us, hl with | [_, _], _ => rfl
  have F34 := fun_mk (st := s_law_condition) l34 c34 k34
  have b34 := F34.binds (ps := ["_law_box_here", "_law_levels", "_law_errs"]) fun _ _ _ _ _ _ us hl => match us, hl with | [_, _, _], _ => rfl
  have F35 := fun_mk (st := s_law_atom) l35 c35 k35
  have b35 := F35.binds (ps := ["_law_column", "_law_known"]) fun _ _ _ _ _ _ us hl => match us, hl with | [_, _], _ => rfl
  have F36 := fun_mk (st := s_law_only) l36 c36 k36
  have b36 := F36.binds (ps := ["_law_row_here"]) fun _ _ _ _ _ _ us hl => match us, hl with | [_], _ => rfl
  have F33 := fun_mk (st := s_law_row) l33 c33 k33
  have b33 := F33.binds (ps := ["_law_box_here"]) fun _ _ _ _ _ _ us hl => match us, hl with | [_], _ => rfl
  have F41 := fun_mk (st := s_law_index_condition) l41 c41 k41
  have b41 := F41.binds (ps := ["_law_box_here", "_law_rule"]) fun _ _ _ _ _ _ us hl => match us, hl with | [_, _], _ => rfl
  have F39 := fun_mk (st := s_law_every) l39 c39 k39
  have b39 := F39.binds (ps := []) fun _ _ _ _ _ _ us hl => match us, hl with | [], _ => rfl
  have F37 := fun_mk (st := s_law_truth) l37 c37 k37
  have b37 := F37.binds (ps := ["_law_condition_here", "_law_row_here"]) fun _ _ _ _ _ _ us hl => match us, hl with | [_, _], _ => rfl
  have F38 := fun_mk (st := s_law_group) l38 c38 k38
  have b38 := F38.binds (ps := ["_law_rule", "_law_row_here"]) fun _ _ _ _ _ _ us hl => match us, hl with | [_, _], _ => rfl
  have F42 := fun_mk (st := s_law_found) l42 c42 k42
  have b42 := F42.binds (ps := ["_law_groups", "_law_places", "_law_again", "_law_row_here", "_law_other"]) fun _ _ _ _ _ _ us hl => match us, hl with | [_, _, _, _, _], _ => rfl
  have F43 := fun_mk (st := s_law_gap) l43 c43 k43
  have b43 := F43.binds (ps := ["_law_groups", "_law_places", "_law_held", "_law_again"]) fun _ _ _ _ _ _ us hl => match us, hl with | [_, _, _, _], _ => rfl
  have F40 := fun_mk (st := s_law_alike) l40 c40 k40
  have b40 := F40.binds (ps := ["_law_actual", "_law_due"]) fun _ _ _ _ _ _ us hl => match us, hl with | [_, _], _ => rfl
  have F9 := fun_mk (st := s_Truth___init__) l9 c9 k9
  have b9 := F9.binds (ps := ["self", "rank"]) fun _ _ _ _ _ _ us hl => match us, hl with | [_, _], _ => rfl
  have F17 := fun_mk (st := s_Truth___invert__) l17 c17 k17
  have b17 := F17.binds (ps := ["self"]) fun _ _ _ _ _ _ us hl => match us, hl with | [_], _ => rfl
  have F14 := fun_mk (st := s_Truth___and__) l14 c14 k14
  have b14 := F14.binds (ps := ["self", "other"]) fun _ _ _ _ _ _ us hl => match us, hl with | [_, _], _ => rfl
  have F15 := fun_mk (st := s_Truth___or__) l15 c15 k15
  have b15 := F15.binds (ps := ["self", "other"]) fun _ _ _ _ _ _ us hl => match us, hl with | [_, _], _ => rfl
  have F23 := fun_mk (st := s_joined) l23 c23 k23
  have b23 := F23.binds (ps := ["condition", "row"]) fun _ _ _ _ _ _ us hl => match us, hl with | [_, _], _ => rfl
  have b4 : Binds K (PySem.W.ksFn "__init__" "ZeroDivisor.__init__" (defArgs s_ZeroDivisor___init__) (defBody s_ZeroDivisor___init__) (defScope s_ZeroDivisor___init__) .none z174 z175 z176 z177 (.ref z180) z178 z181) ["self"] [] := Binds.all fun us hl => match us, hl with | [_], _ => rfl
  have F10 := fun_mk (st := s_Truth_of) l10 c10 k10
  have b10 := F10.binds (ps := ["value"]) fun _ _ _ _ _ _ us hl => match us, hl with | [_], _ => rfl
  have F24 := fun_mk (st := s_quotient) l24 c24 k24
  have b24 := F24.binds (ps := ["condition", "row"]) fun _ _ _ _ _ _ us hl => match us, hl with | [_, _], _ => rfl
  have F25 := fun_mk (st := s_truth) l25 c25 k25
  have b25 := F25.binds (ps := ["condition", "row"]) fun _ _ _ _ _ _ us hl => match us, hl with | [_, _], _ => rfl
  have F26 := fun_mk (st := s_group) l26 c26 k26
  have b26 := F26.binds (ps := ["rule", "row"]) fun _ _ _ _ _ _ us hl => match us, hl with | [_, _], _ => rfl
  have F27 := fun_mk (st := s_groups_of) l27 c27 k27
  have b27 := F27.binds (ps := ["rule"]) fun _ _ _ _ _ _ us hl => match us, hl with | [_], _ => rfl
  have F28 := fun_mk (st := s_arbiter_gap) l28 c28 k28
  have b28 := F28.binds (ps := ["rule", "column", "condition", "again"]) fun _ _ _ _ _ _ us hl => match us, hl with | [_, _, _, _], _ => rfl
  have F44 := fun_mk (st := s_law_bounds) l44 c44 k44
  have b44 := F44.binds (ps := ["_law_groups", "_law_places", "_law_again"]) fun _ _ _ _ _ _ us hl => match us, hl with | [_, _, _], _ => rfl
  have F29 := fun_mk (st := s_arbiter_bounds) l29 c29 k29
  have b29 := F29.binds (ps := ["rule", "column", "again"]) fun _ _ _ _ _ _ us hl => match us, hl with | [_, _, _], _ => rfl
  have F45 := fun_mk (st := s_law) l45 c45 k45
  have b45 := F45.binds (ps := ["_law_script"]) fun _ _ _ _ _ _ us hl => match us, hl with | [_], _ => rfl
  have F6 := fun_mk (st := s_all_rows) l6 c6 k6
  have b6 := F6.binds (ps := []) fun _ _ _ _ _ _ us hl => match us, hl with | [], _ => rfl
  obtain ⟨ad, had⟩ : ∃ ad : Nat → Addr, ad = fun n => ([0, 0, 0, f3, f4, f5, f6, 0, f8, f9, f10, 0, 0, 0, f14, f15, 0, f17, 0, 0, 0, 0, f22, f23, f24, f25, f26, f27, f28, f29, f30, f31, f32, f33, f34, f35, f36, f37, f38, f39, f40, f41, f42, f43, f44, f45] : List Addr).getD n 0 := ⟨_, rfl⟩
  obtain ⟨fd, hfd⟩ : ∃ fd : Nat → FuncData, fd = fun n => match n with
    | 4 => PySem.W.ksFn "__init__" "ZeroDivisor.__init__" (defArgs s_ZeroDivisor___init__) (defBody s_ZeroDivisor___init__) (defScope s_ZeroDivisor___init__) .none z174 z175 z176 z177 (.ref z180) z178 z181
    | 9 => PySem.W.fnOf "__init__" "Truth.__init__" (defArgs s_Truth___init__) (defBody s_Truth___init__) (defScope s_Truth___init__) .none z129 z130 z131 z132 z133 z134
    | 10 => PySem.W.fnOf "of" "Truth.of" (defArgs s_Truth_of) (defBody s_Truth_of) (defScope s_Truth_of) .none z208 z209 z210 z211 z212 z213
    | 14 => PySem.W.fnOf "__and__" "Truth.__and__" (defArgs s_Truth___and__) (defBody s_Truth___and__) (defScope s_Truth___and__) .none z147 z148 z149 z150 z151 z152
    | 15 => PySem.W.fnOf "__or__" "Truth.__or__" (defArgs s_Truth___or__) (defBody s_Truth___or__) (defScope s_Truth___or__) .none z156 z157 z158 z159 z160 z161
    | 17 => PySem.W.fnOf "__invert__" "Truth.__invert__" (defArgs s_Truth___invert__) (defBody s_Truth___invert__) (defScope s_Truth___invert__) .none z138 z139 z140 z141 z142 z143
    | 23 => PySem.W.fnOf "joined" "joined" (defArgs s_joined) (defBody s_joined) (defScope s_joined) .none z165 z166 z167 z168 z169 z170
    | 24 => PySem.W.fnOf "quotient" "quotient" (defArgs s_quotient) (defBody s_quotient) (defScope s_quotient) .none z217 z218 z219 z220 z221 z222
    | 25 => PySem.W.fnOf "truth" "truth" (defArgs s_truth) (defBody s_truth) (defScope s_truth) .none z226 z227 z228 z229 z230 z231
    | 26 => PySem.W.fnOf "group" "group" (defArgs s_group) (defBody s_group) (defScope s_group) .none z235 z236 z237 z238 z239 z240
    | 27 => PySem.W.fnOf "groups_of" "groups_of" (defArgs s_groups_of) (defBody s_groups_of) (defScope s_groups_of) .none z244 z245 z246 z247 z248 z249
    | 28 => PySem.W.fnOf "arbiter_gap" "arbiter_gap" (defArgs s_arbiter_gap) (defBody s_arbiter_gap) (defScope s_arbiter_gap) .none z253 z254 z255 z256 z257 z258
    | 29 => PySem.W.fnOf "arbiter_bounds" "arbiter_bounds" (defArgs s_arbiter_bounds) (defBody s_arbiter_bounds) (defScope s_arbiter_bounds) .none z271 z272 z273 z274 z275 z276
    | 30 => PySem.W.fnOf "_law_box" "_law_box" (defArgs s_law_box) (defBody s_law_box) (defScope s_law_box) .none z3 z4 z5 z6 z7 z8
    | 31 => PySem.W.fnOf "_law_draw" "_law_draw" (defArgs s_law_draw) (defBody s_law_draw) (defScope s_law_draw) .none z12 z13 z14 z15 z16 z17
    | 32 => PySem.W.fnOf "_law_names" "_law_names" (defArgs s_law_names) (defBody s_law_names) (defScope s_law_names) .none z21 z22 z23 z24 z25 z26
    | 33 => PySem.W.fnOf "_law_row" "_law_row" (defArgs s_law_row) (defBody s_law_row) (defScope s_law_row) .none z57 z58 z59 z60 z61 z62
    | 34 => PySem.W.fnOf "_law_condition" "_law_condition" (defArgs s_law_condition) (defBody s_law_condition) (defScope s_law_condition) .none z30 z31 z32 z33 z34 z35
    | 35 => PySem.W.fnOf "_law_atom" "_law_atom" (defArgs s_law_atom) (defBody s_law_atom) (defScope s_law_atom) .none z39 z40 z41 z42 z43 z44
    | 36 => PySem.W.fnOf "_law_only" "_law_only" (defArgs s_law_only) (defBody s_law_only) (defScope s_law_only) .none z48 z49 z50 z51 z52 z53
    | 37 => PySem.W.fnOf "_law_truth" "_law_truth" (defArgs s_law_truth) (defBody s_law_truth) (defScope s_law_truth) .none z84 z85 z86 z87 z88 z89
    | 38 => PySem.W.fnOf "_law_group" "_law_group" (defArgs s_law_group) (defBody s_law_group) (defScope s_law_group) .none z93 z94 z95 z96 z97 z98
    | 39 => PySem.W.fnOf "_law_every" "_law_every" (defArgs s_law_every) (defBody s_law_every) (defScope s_law_every) .none z75 z76 z77 z78 z79 z80
    | 40 => PySem.W.fnOf "_law_alike" "_law_alike" (defArgs s_law_alike) (defBody s_law_alike) (defScope s_law_alike) .none z120 z121 z122 z123 z124 z125
    | 41 => PySem.W.fnOf "_law_index_condition" "_law_index_condition" (defArgs s_law_index_condition) (defBody s_law_index_condition) (defScope s_law_index_condition) .none z66 z67 z68 z69 z70 z71
    | 42 => PySem.W.fnOf "_law_found" "_law_found" (defArgs s_law_found) (defBody s_law_found) (defScope s_law_found) .none z102 z103 z104 z105 z106 z107
    | 43 => PySem.W.fnOf "_law_gap" "_law_gap" (defArgs s_law_gap) (defBody s_law_gap) (defScope s_law_gap) .none z111 z112 z113 z114 z115 z116
    | 44 => PySem.W.fnOf "_law_bounds" "_law_bounds" (defArgs s_law_bounds) (defBody s_law_bounds) (defScope s_law_bounds) .none z262 z263 z264 z265 z266 z267
    | 45 => PySem.W.fnOf "law" "law" (defArgs s_law) (defBody s_law) (defScope s_law) .none z280 z281 z282 z283 z284 z285
    | _ => PySem.W.fnOf "law" "law" (defArgs s_law) (defBody s_law) (defScope s_law) .none z280 z281 z282 z283 z284 z285 := ⟨_, rfl⟩
  have ea3x : ad 3 = f3 := by rw [had]; rfl
  have ea4x : ad 4 = f4 := by rw [had]; rfl
  have ea5x : ad 5 = f5 := by rw [had]; rfl
  have ea6x : ad 6 = f6 := by rw [had]; rfl
  have ea8x : ad 8 = f8 := by rw [had]; rfl
  have ea9x : ad 9 = f9 := by rw [had]; rfl
  have ea10x : ad 10 = f10 := by rw [had]; rfl
  have ea14x : ad 14 = f14 := by rw [had]; rfl
  have ea15x : ad 15 = f15 := by rw [had]; rfl
  have ea17x : ad 17 = f17 := by rw [had]; rfl
  have ea22x : ad 22 = f22 := by rw [had]; rfl
  have ea23x : ad 23 = f23 := by rw [had]; rfl
  have ea24x : ad 24 = f24 := by rw [had]; rfl
  have ea25x : ad 25 = f25 := by rw [had]; rfl
  have ea26x : ad 26 = f26 := by rw [had]; rfl
  have ea27x : ad 27 = f27 := by rw [had]; rfl
  have ea28x : ad 28 = f28 := by rw [had]; rfl
  have ea29x : ad 29 = f29 := by rw [had]; rfl
  have ea30x : ad 30 = f30 := by rw [had]; rfl
  have ea31x : ad 31 = f31 := by rw [had]; rfl
  have ea32x : ad 32 = f32 := by rw [had]; rfl
  have ea33x : ad 33 = f33 := by rw [had]; rfl
  have ea34x : ad 34 = f34 := by rw [had]; rfl
  have ea35x : ad 35 = f35 := by rw [had]; rfl
  have ea36x : ad 36 = f36 := by rw [had]; rfl
  have ea37x : ad 37 = f37 := by rw [had]; rfl
  have ea38x : ad 38 = f38 := by rw [had]; rfl
  have ea39x : ad 39 = f39 := by rw [had]; rfl
  have ea40x : ad 40 = f40 := by rw [had]; rfl
  have ea41x : ad 41 = f41 := by rw [had]; rfl
  have ea42x : ad 42 = f42 := by rw [had]; rfl
  have ea43x : ad 43 = f43 := by rw [had]; rfl
  have ea44x : ad 44 = f44 := by rw [had]; rfl
  have ea45x : ad 45 = f45 := by rw [had]; rfl
  have ef4x : fd 4 = PySem.W.ksFn "__init__" "ZeroDivisor.__init__" (defArgs s_ZeroDivisor___init__) (defBody s_ZeroDivisor___init__) (defScope s_ZeroDivisor___init__) .none z174 z175 z176 z177 (.ref z180) z178 z181 := by rw [hfd]; rfl
  have ef9x : fd 9 = PySem.W.fnOf "__init__" "Truth.__init__" (defArgs s_Truth___init__) (defBody s_Truth___init__) (defScope s_Truth___init__) .none z129 z130 z131 z132 z133 z134 := by rw [hfd]; rfl
  have ef10x : fd 10 = PySem.W.fnOf "of" "Truth.of" (defArgs s_Truth_of) (defBody s_Truth_of) (defScope s_Truth_of) .none z208 z209 z210 z211 z212 z213 := by rw [hfd]; rfl
  have ef14x : fd 14 = PySem.W.fnOf "__and__" "Truth.__and__" (defArgs s_Truth___and__) (defBody s_Truth___and__) (defScope s_Truth___and__) .none z147 z148 z149 z150 z151 z152 := by rw [hfd]; rfl
  have ef15x : fd 15 = PySem.W.fnOf "__or__" "Truth.__or__" (defArgs s_Truth___or__) (defBody s_Truth___or__) (defScope s_Truth___or__) .none z156 z157 z158 z159 z160 z161 := by rw [hfd]; rfl
  have ef17x : fd 17 = PySem.W.fnOf "__invert__" "Truth.__invert__" (defArgs s_Truth___invert__) (defBody s_Truth___invert__) (defScope s_Truth___invert__) .none z138 z139 z140 z141 z142 z143 := by rw [hfd]; rfl
  have ef23x : fd 23 = PySem.W.fnOf "joined" "joined" (defArgs s_joined) (defBody s_joined) (defScope s_joined) .none z165 z166 z167 z168 z169 z170 := by rw [hfd]; rfl
  have ef24x : fd 24 = PySem.W.fnOf "quotient" "quotient" (defArgs s_quotient) (defBody s_quotient) (defScope s_quotient) .none z217 z218 z219 z220 z221 z222 := by rw [hfd]; rfl
  have ef25x : fd 25 = PySem.W.fnOf "truth" "truth" (defArgs s_truth) (defBody s_truth) (defScope s_truth) .none z226 z227 z228 z229 z230 z231 := by rw [hfd]; rfl
  have ef26x : fd 26 = PySem.W.fnOf "group" "group" (defArgs s_group) (defBody s_group) (defScope s_group) .none z235 z236 z237 z238 z239 z240 := by rw [hfd]; rfl
  have ef27x : fd 27 = PySem.W.fnOf "groups_of" "groups_of" (defArgs s_groups_of) (defBody s_groups_of) (defScope s_groups_of) .none z244 z245 z246 z247 z248 z249 := by rw [hfd]; rfl
  have ef28x : fd 28 = PySem.W.fnOf "arbiter_gap" "arbiter_gap" (defArgs s_arbiter_gap) (defBody s_arbiter_gap) (defScope s_arbiter_gap) .none z253 z254 z255 z256 z257 z258 := by rw [hfd]; rfl
  have ef29x : fd 29 = PySem.W.fnOf "arbiter_bounds" "arbiter_bounds" (defArgs s_arbiter_bounds) (defBody s_arbiter_bounds) (defScope s_arbiter_bounds) .none z271 z272 z273 z274 z275 z276 := by rw [hfd]; rfl
  have ef30x : fd 30 = PySem.W.fnOf "_law_box" "_law_box" (defArgs s_law_box) (defBody s_law_box) (defScope s_law_box) .none z3 z4 z5 z6 z7 z8 := by rw [hfd]; rfl
  have ef31x : fd 31 = PySem.W.fnOf "_law_draw" "_law_draw" (defArgs s_law_draw) (defBody s_law_draw) (defScope s_law_draw) .none z12 z13 z14 z15 z16 z17 := by rw [hfd]; rfl
  have ef32x : fd 32 = PySem.W.fnOf "_law_names" "_law_names" (defArgs s_law_names) (defBody s_law_names) (defScope s_law_names) .none z21 z22 z23 z24 z25 z26 := by rw [hfd]; rfl
  have ef33x : fd 33 = PySem.W.fnOf "_law_row" "_law_row" (defArgs s_law_row) (defBody s_law_row) (defScope s_law_row) .none z57 z58 z59 z60 z61 z62 := by rw [hfd]; rfl
  have ef34x : fd 34 = PySem.W.fnOf "_law_condition" "_law_condition" (defArgs s_law_condition) (defBody s_law_condition) (defScope s_law_condition) .none z30 z31 z32 z33 z34 z35 := by rw [hfd]; rfl
  have ef35x : fd 35 = PySem.W.fnOf "_law_atom" "_law_atom" (defArgs s_law_atom) (defBody s_law_atom) (defScope s_law_atom) .none z39 z40 z41 z42 z43 z44 := by rw [hfd]; rfl
  have ef36x : fd 36 = PySem.W.fnOf "_law_only" "_law_only" (defArgs s_law_only) (defBody s_law_only) (defScope s_law_only) .none z48 z49 z50 z51 z52 z53 := by rw [hfd]; rfl
  have ef37x : fd 37 = PySem.W.fnOf "_law_truth" "_law_truth" (defArgs s_law_truth) (defBody s_law_truth) (defScope s_law_truth) .none z84 z85 z86 z87 z88 z89 := by rw [hfd]; rfl
  have ef38x : fd 38 = PySem.W.fnOf "_law_group" "_law_group" (defArgs s_law_group) (defBody s_law_group) (defScope s_law_group) .none z93 z94 z95 z96 z97 z98 := by rw [hfd]; rfl
  have ef39x : fd 39 = PySem.W.fnOf "_law_every" "_law_every" (defArgs s_law_every) (defBody s_law_every) (defScope s_law_every) .none z75 z76 z77 z78 z79 z80 := by rw [hfd]; rfl
  have ef40x : fd 40 = PySem.W.fnOf "_law_alike" "_law_alike" (defArgs s_law_alike) (defBody s_law_alike) (defScope s_law_alike) .none z120 z121 z122 z123 z124 z125 := by rw [hfd]; rfl
  have ef41x : fd 41 = PySem.W.fnOf "_law_index_condition" "_law_index_condition" (defArgs s_law_index_condition) (defBody s_law_index_condition) (defScope s_law_index_condition) .none z66 z67 z68 z69 z70 z71 := by rw [hfd]; rfl
  have ef42x : fd 42 = PySem.W.fnOf "_law_found" "_law_found" (defArgs s_law_found) (defBody s_law_found) (defScope s_law_found) .none z102 z103 z104 z105 z106 z107 := by rw [hfd]; rfl
  have ef43x : fd 43 = PySem.W.fnOf "_law_gap" "_law_gap" (defArgs s_law_gap) (defBody s_law_gap) (defScope s_law_gap) .none z111 z112 z113 z114 z115 z116 := by rw [hfd]; rfl
  have ef44x : fd 44 = PySem.W.fnOf "_law_bounds" "_law_bounds" (defArgs s_law_bounds) (defBody s_law_bounds) (defScope s_law_bounds) .none z262 z263 z264 z265 z266 z267 := by rw [hfd]; rfl
  have ef45x : fd 45 = PySem.W.fnOf "law" "law" (defArgs s_law) (defBody s_law) (defScope s_law) .none z280 z281 z282 z283 z284 z285 := by rw [hfd]; rfl
  have T : Txt l.prog w K mg ad fd := by
    constructor
    · rw [ea30x]; exact PySem.W.mg_of X G a30
    · rw [ea32x]; exact PySem.W.mg_of X G a32
    · rw [ea31x]; exact PySem.W.mg_of X G a31
    · rw [ea34x]; exact PySem.W.mg_of X G a34
    · rw [ea41x]; exact PySem.W.mg_of X G a41
    · rw [ea39x]; exact PySem.W.mg_of X G a39
    · rw [ea38x]; exact PySem.W.mg_of X G a38
    · rw [ea37x]; exact PySem.W.mg_of X G a37
    · rw [ea43x]; exact PySem.W.mg_of X G a43
    · rw [ea40x]; exact PySem.W.mg_of X G a40
    · rw [ea28x]; exact PySem.W.mg_of X G a28
    · rw [ea44x]; exact PySem.W.mg_of X G a44
    · rw [ea29x]; exact PySem.W.mg_of X G a29
    · rw [ea27x]; exact PySem.W.mg_of X G a27
    · rw [ea26x]; exact PySem.W.mg_of X G a26
    · rw [ea25x]; exact PySem.W.mg_of X G a25
    · rw [ea8x]; exact PySem.W.mg_of X G a8
    · rw [ea22x]; exact PySem.W.mg_of X G a22
    · rw [ea23x]; exact PySem.W.mg_of X G a23
    · rw [ea24x]; exact PySem.W.mg_of X G a24
    · rw [ea3x]; exact PySem.W.mg_of X G a3
    · rw [ea42x]; exact PySem.W.mg_of X G a42
    · rw [ea36x]; exact PySem.W.mg_of X G a36
    · rw [ea33x]; exact PySem.W.mg_of X G a33
    · rw [ea35x]; exact PySem.W.mg_of X G a35
    · rw [ea30x, ef30x]; exact F30
    · rw [ef30x]; exact b30
    · rw [ea31x, ef31x]; exact F31
    · rw [ef31x]; exact b31
    · rw [ea32x, ef32x]; exact F32
    · rw [ef32x]; exact b32
    · rw [ea34x, ef34x]; exact F34
    · rw [ef34x]; exact b34
    · rw [ea35x, ef35x]; exact F35
    · rw [ef35x]; exact b35
    · rw [ea36x, ef36x]; exact F36
    · rw [ef36x]; exact b36
    · rw [ea33x, ef33x]; exact F33
    · rw [ef33x]; exact b33
    · rw [ea41x, ef41x]; exact F41
    · rw [ef41x]; exact b41
    · rw [ea39x, ef39x]; exact F39
    · rw [ef39x]; exact b39
    · rw [ea37x, ef37x]; exact F37
    · rw [ef37x]; exact b37
    · rw [ea38x, ef38x]; exact F38
    · rw [ef38x]; exact b38
    · rw [ea42x, ef42x]; exact F42
    · rw [ef42x]; exact b42
    · rw [ea43x, ef43x]; exact F43
    · rw [ef43x]; exact b43
    · rw [ea40x, ef40x]; exact F40
    · rw [ef40x]; exact b40
    · rw [ea9x, ef9x]; exact F9
    · rw [ef9x]; exact b9
    · rw [ea17x, ef17x]; exact F17
    · rw [ef17x]; exact b17
    · rw [ea14x, ef14x]; exact F14
    · rw [ef14x]; exact b14
    · rw [ea15x, ef15x]; exact F15
    · rw [ef15x]; exact b15
    · rw [ea23x, ef23x]; exact F23
    · rw [ef23x]; exact b23
    · rw [ea3x, ea4x, ef4x]; exact ⟨⟨z181, z180, _, _, _, _, _, _, _, _, rfl, l4, c4, ⟨⟨_, _, _, l4⟩, ⟨_, rfl, rfl⟩, ⟨_, _, _, _, _, _, oc4, ov4, of_4⟩, ⟨_, _, _, oe4⟩, om_3, PySem.W.mg_none_of X G n_super, othird, osin3, oisv3, otop⟩⟩⟩
    · rw [ef4x]; exact b4
    · rw [ea3x]; exact ⟨⟨_, _, _, _, _, _, _, _, _, _, _, _, _, _, _, ok_3, ob_3⟩, csa3, xb3, xt3, kp3⟩
    · rw [ea3x, ea4x]; exact om4
    · rw [ea4x]; exact ot3
    · rw [ea3x]; exact ofl3_told
    · rw [ea10x, ef10x]; exact F10
    · rw [ef10x]; exact b10
    · rw [ea24x, ef24x]; exact F24
    · rw [ef24x]; exact b24
    · rw [ea25x, ef25x]; exact F25
    · rw [ef25x]; exact b25
    · rw [ea26x, ef26x]; exact F26
    · rw [ef26x]; exact b26
    · rw [ea27x, ef27x]; exact F27
    · rw [ef27x]; exact b27
    · rw [ea28x, ef28x]; exact F28
    · rw [ef28x]; exact b28
    · rw [ea44x, ef44x]; exact F44
    · rw [ef44x]; exact b44
    · rw [ea29x, ef29x]; exact F29
    · rw [ef29x]; exact b29
    · rw [ea45x, ef45x]; exact F45
    · rw [ef45x]; exact b45
    · exact PySem.W.mg_none_of X G n_range
    · exact PySem.W.mg_none_of X G n_isinstance
    · exact ⟨fun t c b h => by
          rcases List.mem_append.mp (isiOf_mem h) with hm | hm
          · exact blt_ok K _ _ hm
          · simp only [List.mem_cons, List.not_mem_nil, or_false, Prod.mk.injEq] at hm
            obtain ⟨⟨rfl, rfl⟩, rfl⟩ := hm
            show PySem.W.kitOne K (.ref (ad 8)) (.ref (ad 8)) = some true
            rw [ea8x]; exact ei8_8
          , fun c t b h => by
          rcases List.mem_append.mp (isiOf_mem h) with hm | hm
          · simp [bltTab] at hm
          · simp only [List.mem_cons, List.not_mem_nil, or_false, Prod.mk.injEq, Sum.inr.injEq] at hm
            obtain ⟨⟨rfl, _⟩, _⟩ := hm
            show ClsI K (ad 8)
            rw [ea8x]; exact ⟨⟨cpg8, chd8, cpo8, csa8⟩, ec8, en, et, em8⟩
          ⟩
    · exact PySem.W.mg_none_of X G n_bool
    · exact PySem.W.mg_none_of X G n_int
    · exact PySem.W.mg_none_of X G n_str
    · exact PySem.W.mg_none_of X G n_tuple
    · exact PySem.W.mg_none_of X G n_len
    · exact PySem.W.mg_none_of X G n_list
    · rw [ea5x, ea6x]; exact ⟨⟨s_all_rows, _, _, F6, b6, rfl, rfl, rfl, rfl, _, _, _, _, _, _, _, _, _, _, _, _, _, _, _, _, rfl⟩, PySem.W.mg_of X G a6, PySem.W.mg_of X G a5, ⟨_, _, _, r5, rfl, rfl, .cons rfl (.cons ⟨_, rfl⟩ (.cons ⟨_, rfl⟩ (.cons ⟨_, rfl⟩ .nil)))⟩⟩
    · exact ⟨fun c h => by
          simp only [List.contains_cons, List.contains_nil, Bool.or_false, Bool.or_eq_true, beq_iff_eq] at h
          rcases h with rfl
          · rw [ea8x]; exact ⟨cpg8, chd8, cpo8, csa8⟩
          , fun c h => by
          simp only [List.contains_cons, List.contains_nil, Bool.or_false, Bool.or_eq_true, beq_iff_eq] at h
          rcases h with rfl
          · rw [ea8x]; exact na8_rank
          ⟩
    · rw [ea8x, ea9x]; exact ⟨mm8, om9, of9, kp8⟩
    · rw [ea8x, ea17x]; exact om17
    · rw [ea17x]; exact of17
    · rw [ea8x]; exact sf8
    · intro F H; rw [ea22x]; exact (fun _ _ => .tup (vs := [(.str "not" : V), (.str "and" : V), (.str "or" : V)]) (.inr ⟨_, _, _, r22, rfl, rfl, (by show 3 ≤ sizeLine; decide), .cons ⟨_, rfl⟩ (.cons ⟨_, rfl⟩ (.cons ⟨_, rfl⟩ (.nil)))⟩) (.cons (.str _) (.cons (.str _) (.cons (.str _) (.nil))))) F H
    · rw [ea8x, ea10x]; exact ⟨q10, ⟨ctp8, crd8, cga8, pa10, ⟨rs10, pr10⟩, k10⟩⟩
    · rw [ea8x, ea14x]; exact om14
    · rw [ea14x]; exact of14
    · rw [ea8x, ea15x]; exact om15
    · rw [ea15x]; exact of15
    · exact PySem.W.mg_none_of X G n_abs
  refine ⟨PySem.W.fnOf "law" "law" (defArgs s_law) (defBody s_law) (defScope s_law) .none z280 z281 z282 z283 z284 z285, fun s v => .of_eq rfl, fun base _ _ => ⟨ad, ?_⟩⟩
  have R := ok_law (P := l.prog) (base := base) T
  rw [ea45x, ef45x] at R
  rw [efa]
  exact R
end K13
open PySem PySem.W PyProof.Rows
set_option maxRecDepth 100000 in
set_option maxHeartbeats 0 in
theorem PySem.Challenge.cw_bookstogether_k13_whole_arbiter_gaps_holds : PySem.Challenge.rw_bookstogether_k13_whole_arbiter_gaps.Holds := by
  w_on; o_law; k_head; (case hw => w_witness2)
  k_fill
  refine K13.walk (l := PySem.Challenge.rw_bookstogether_k13_whole_arbiter_gaps) rfl rfl (fun w h Y => PySem.W.kIn_of Y) ?F
  case F =>
    intro w mg fa h KX G hmg
    refine' K13.all_mk KX G hmg ?a8 ?a3 ?a30 ?l30 ?c30 ?k30 ?a31 ?l31 ?c31 ?k31 ?a32 ?l32 ?c32 ?k32 ?a34 ?l34 ?c34 ?k34 ?a35 ?l35 ?c35 ?k35 ?a36 ?l36 ?c36 ?k36 ?a33 ?l33 ?c33 ?k33 ?a41 ?l41 ?c41 ?k41 ?a39 ?l39 ?c39 ?k39 ?a37 ?l37 ?c37 ?k37 ?a38 ?l38 ?c38 ?k38 ?a42 ?l42 ?c42 ?k42 ?a43 ?l43 ?c43 ?k43 ?a40 ?l40 ?c40 ?k40 ?om9 ?l9 ?c9 ?k9 ?om17 ?l17 ?c17 ?k17 ?om14 ?l14 ?c14 ?k14 ?om15 ?l15 ?c15 ?k15 ?a23 ?l23 ?c23 ?k23 ?om4 ?l4 ?c4 ?oc4 ?ov4 ?of_4 ?oe4 ?om_3 ?n_super ?othird ?osin3 ?oisv3 ?otop ?ok_3 ?ob_3 ?csa3 ?xb3 ?xt3 ?kp3 ?ot3 ?ofl3_told ?pa10 ?pr10 ?l10 ?c10 ?k10 ?a24 ?l24 ?c24 ?k24 ?a25 ?l25 ?c25 ?k25 ?a26 ?l26 ?c26 ?k26 ?a27 ?l27 ?c27 ?k27 ?a28 ?l28 ?c28 ?k28 ?a44 ?l44 ?c44 ?k44 ?a29 ?l29 ?c29 ?k29 ?a45 ?l45 ?c45 ?k45 ?n_range ?n_isinstance ?cpg8 ?chd8 ?cpo8 ?csa8 ?ec8 ?en ?et ?em8 ?ei8_8 ?n_bool ?n_int ?n_str ?n_tuple ?n_len ?n_list ?a6 ?l6 ?c6 ?k6 ?a5 ?r5 ?na8_rank ?mm8 ?of9 ?kp8 ?of17 ?sf8 ?a22 ?r22 ?ctp8 ?crd8 ?cga8 ?of14 ?of15 ?n_abs
    (case a8 => k_is)
    (case a3 => k_is)
    (case a30 => k_is)
    (case l30 => k_is)
    (case c30 => k_is)
    (case k30 => k_is)
    (case a31 => k_is)
    (case l31 => k_is)
    (case c31 => k_is)
    (case k31 => k_is)
    (case a32 => k_is)
    (case l32 => k_is)
    (case c32 => k_is)
    (case k32 => k_is)
    (case a34 => k_is)
    (case l34 => k_is)
    (case c34 => k_is)
    (case k34 => k_is)
    (case a35 => k_is)
    (case l35 => k_is)
    (case c35 => k_is)
    (case k35 => k_is)
    (case a36 => k_is)
    (case l36 => k_is)
    (case c36 => k_is)
    (case k36 => k_is)
    (case a33 => k_is)
    (case l33 => k_is)
    (case c33 => k_is)
    (case k33 => k_is)
    (case a41 => k_is)
    (case l41 => k_is)
    (case c41 => k_is)
    (case k41 => k_is)
    (case a39 => k_is)
    (case l39 => k_is)
    (case c39 => k_is)
    (case k39 => k_is)
    (case a37 => k_is)
    (case l37 => k_is)
    (case c37 => k_is)
    (case k37 => k_is)
    (case a38 => k_is)
    (case l38 => k_is)
    (case c38 => k_is)
    (case k38 => k_is)
    (case a42 => k_is)
    (case l42 => k_is)
    (case c42 => k_is)
    (case k42 => k_is)
    (case a43 => k_is)
    (case l43 => k_is)
    (case c43 => k_is)
    (case k43 => k_is)
    (case a40 => k_is)
    (case l40 => k_is)
    (case c40 => k_is)
    (case k40 => k_is)
    (case om9 => k_is)
    (case l9 => k_is)
    (case c9 => k_is)
    (case k9 => k_is)
    (case om17 => k_is)
    (case l17 => k_is)
    (case c17 => k_is)
    (case k17 => k_is)
    (case om14 => k_is)
    (case l14 => k_is)
    (case c14 => k_is)
    (case k14 => k_is)
    (case om15 => k_is)
    (case l15 => k_is)
    (case c15 => k_is)
    (case k15 => k_is)
    (case a23 => k_is)
    (case l23 => k_is)
    (case c23 => k_is)
    (case k23 => k_is)
    (case om4 => k_is)
    (case l4 => k_is)
    (case c4 => k_is)
    (case oc4 => k_is)
    (case ov4 => rfl)
    (case of_4 => first | rfl | decide +kernel)
    (case oe4 => k_is)
    (case om_3 => k_is)
    (case n_super => k_is)
    (case othird => k_is)
    (case osin3 => ks_is)
    (case oisv3 => k_is)
    (case otop => first | rfl | decide +kernel)
    (case ok_3 => k_is)
    (case ob_3 => first | rfl | decide +kernel)
    (case csa3 => k_is)
    (case xb3 => k_is)
    (case xt3 => k_is)
    (case kp3 => k_is)
    (case ot3 => k_is)
    (case ofl3_told => k_is)
    (case pa10 => k_is)
    (case pr10 => k_is)
    (case l10 => k_is)
    (case c10 => k_is)
    (case k10 => k_is)
    (case a24 => k_is)
    (case l24 => k_is)
    (case c24 => k_is)
    (case k24 => k_is)
    (case a25 => k_is)
    (case l25 => k_is)
    (case c25 => k_is)
    (case k25 => k_is)
    (case a26 => k_is)
    (case l26 => k_is)
    (case c26 => k_is)
    (case k26 => k_is)
    (case a27 => k_is)
    (case l27 => k_is)
    (case c27 => k_is)
    (case k27 => k_is)
    (case a28 => k_is)
    (case l28 => k_is)
    (case c28 => k_is)
    (case k28 => k_is)
    (case a44 => k_is)
    (case l44 => k_is)
    (case c44 => k_is)
    (case k44 => k_is)
    (case a29 => k_is)
    (case l29 => k_is)
    (case c29 => k_is)
    (case k29 => k_is)
    (case a45 => k_is)
    (case l45 => k_is)
    (case c45 => k_is)
    (case k45 => k_is)
    (case n_range => k_is)
    (case n_isinstance => k_is)
    (case cpg8 => k_is)
    (case chd8 => k_is)
    (case cpo8 => k_is)
    (case csa8 => k_is)
    (case ec8 => k_is)
    (case en => k_is)
    (case et => k_is)
    (case em8 => k_is)
    (case ei8_8 => kit_is)
    (case n_bool => k_is)
    (case n_int => k_is)
    (case n_str => k_is)
    (case n_tuple => k_is)
    (case n_len => k_is)
    (case n_list => k_is)
    (case a6 => k_is)
    (case l6 => k_is)
    (case c6 => k_is)
    (case k6 => k_is)
    (case a5 => k_is)
    (case r5 => k_is)
    (case na8_rank => k_is)
    (case mm8 => k_is)
    (case of9 => k_is)
    (case kp8 => k_is)
    (case of17 => k_is)
    (case sf8 => k_is)
    (case a22 => k_is)
    (case r22 => k_is)
    (case ctp8 => k_is)
    (case crd8 => k_is)
    (case cga8 => k_is)
    (case of14 => k_is)
    (case of15 => k_is)
    (case n_abs => k_is)
