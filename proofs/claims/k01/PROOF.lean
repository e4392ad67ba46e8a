import PyProof.Rows.All
import Wide.All
import OpenK.AllK
import Wide.FinOn
import HandS.ForMost
import HandS.ForExc
import HandS.HotCalls
import HandS.ExcInitHot
import HandS.CallSlots
import HandS.Style
import HandS.IsInst
import HandS.TupAny
import HandS.WordsList
import HandS.Flow
import HandS.ExcIs
import HandS.More
import HandS.WrittenGet
import HandS.Defaults
import HandS.Property
import HandS.ClsMeth
import HandS.Strs
import KE.KSuperObj
import KE.KExcSuper
import HandS.ExcInit
import HandS.ExcSuper
import KE.KExcIs
import HandS.ExcField
import HandS.Star
import HandS.MakeKwOnly
import HandS.Deep
import HandS.Zip
import KE.DataAny
import PyProof.P3In
import HandS.Small
import HandS.DictComp
import HandS.TryOnly
import HandS.List
import HandS.Iter
import PyProof.GenQ
import PyProof.Rows.RowBridgeG
import HandS.GenList
import HandS.Call
import HandS.ExcCtx
import HandS.OwnIter
import HandS.IterNext
import PyProof.WalksMore
import HandS.Exc
import HandS.ExcOwn
import KE.SortKeyHeap
import HandS.SortKw
import HandS.WordsDict
import HandS.SortInts
import PyProof.StrOps2
import HandS.Comp
import PySem.Challenge.RW_bookstogether_k01_rows_and_names
set_option Elab.async false
set_option linter.all false
set_option maxRecDepth 100000
set_option maxHeartbeats 4000000
/-! The end of a walk: an iterator has nothing left, StopIteration is made, raised and caught by the one who asked. -/
namespace StopW
open PySem PySem.Spec PyProof.Rows HotX
section
variable {M : Model} {A B : Around} {E : Value → Shared → Prop} {s : Shared}
/-- what the asker does with what was raised -/
abbrev Asker (M : Model) (A : Around) (E : Value → Shared → Prop) (Q : Option Value → Shared → Prop) (x : Value) (s' : Shared) : Prop :=
  wpAny M A (do if ← isInstance x (.type "StopIteration") then pure none else throw x) Q E s'
theorem asker_none {a : Addr} {o : Obj} {Q : Option Value → Shared → Prop} (h : s.heap.get? a = some o) (c : o.cls = .type "StopIteration") (q : Q none s) : Asker M A E Q (.ref a) s :=
  wpAny_bind (wpAny_isInstance (b := true) ⟨o, h, c⟩ isSubtype_stop (wpAny_pure q))
/-- the exception's object comes to stand, with its empty tuple ahead of it -/
theorem stop_made {α : Type} {k : Value → Sem α} {Q : α → Shared → Prop}
    (h : ∀ h' a, (∀ b o, s.heap.get? b = some o → h'.get? b = some o ∧ b ≠ a) → (∃ vs, vs.size = 6 ∧ h'.get? a = some { cls := .type "StopIteration", data := .fields vs }) → wpAny M A (k (.ref a)) Q E { s with heap := h' }) :
    wpAny M A (newExc (.type "StopIteration") [] >>= k) Q E s := by
  have ok := h ((s.heap.push { cls := .type "tuple", data := .seq ([] : List Value).toArray }).push { cls := .type "StopIteration", data := .fields (#[.ref s.heap.objs.size, .none, .none, .none, .bool false, .none]) }) (s.heap.push { cls := .type "tuple", data := .seq ([] : List Value).toArray }).objs.size
    (fun b o e => ⟨Heap.get?_push_of_some _ (Heap.get?_push_of_some _ e), by rw [Heap.size_push]; exact Nat.ne_of_lt (Nat.lt_succ_of_lt (Heap.lt_size e))⟩) ⟨_, rfl, Heap.get?_push_size _ rfl⟩
  apply wpAny_bind
  unfold newExc
  exact wpAny_bind (wpAny_newObj_type (wpAny_bind (wpAny_of_eq (a := Value.none) (by first | rfl | (simp only [firstArgMember]; rfl)) (wpAny_newObj_type ok))))
end
section
variable {prog : Program} {w : World} {A B : Around} {E : Value → Shared → Prop} {s : Shared}
end
end StopW

/-! list(x), whatever x is: a new empty list comes to stand, then it is extended by x. And the touch that makes room. -/
namespace ListW
open PySem PySem.Spec PyProof.Rows
section
variable {prog : Program} {w : World} {A : Around} {E : Value → Shared → Prop} {s : Shared}
/-- two writes to the items of one list -/
theorem seq_twice {q : Addr} {o : Obj} {xs : Array Value} {n : Nat} {f g : Array Value → Array Value} {Q : Unit → Shared → Prop} (ho : s.heap.get? q = some o) (hd : o.data = .seq xs n)
    (z1 : xs.size ≤ sizeLine) (z2 : (f xs).size ≤ sizeLine) (z3 : (g (f xs)).size ≤ sizeLine)
    (h : Q () { s with heap := (s.heap.update q (Obj.mapSeq f)).update q (Obj.mapSeq g) }) : wpAny (model prog w) A (updateSeq q f >>= fun _ => updateSeq q g) Q E s := by
  obtain ⟨c, d, dt, sl⟩ := o
  cases hd
  have two := Heap.get?_update_self (Obj.mapSeq f) ho rfl
  exact wpAny_bind (wpAny_updateSeq ho rfl (wpAny_updateSeq two rfl h z2 (Nat.le_succ_of_le z3)) z1 (Nat.le_succ_of_le z2))
/-- what extend is to show when it is asked by list(x) for the new list L -/
abbrev NewExt (prog : Program) (w : World) (A : Around) (E : Value → Shared → Prop) (Q : Value → Shared → Prop) (L : Addr) (v : Value) (s' : Shared) : Prop :=
  wpAny (model prog w) A.in1.in1 (Builtin.List.listExtendWith (.ref L) v .none)
    (fun fin s₁ => match fin with | .done f => wants (fun r s₂ => r = .none ∧ Q (.ref L) s₂) E (.ok f) s₁ | .again c => c.quiet = true ∧ codeAny (model prog w) A.in1 c (wants (fun r s₂ => r = .none ∧ Q (.ref L) s₂) E) s₁)
    (fun e s₁ => wants (fun r s₂ => r = .none ∧ Q (.ref L) s₂) E (.error e) s₁) s'
theorem list_of {v : Value} {Q : Value → Shared → Prop}
    (h : ∀ h', h' = (s.heap.push { cls := .type "list", data := .seq #[] }).update s.heap.objs.size (Obj.mapSeq fun _ => #[]) → NewExt prog w A E Q s.heap.objs.size v { s with heap := h' }) :
    wpAny (model prog w) A (call (.type "list") [v]) Q E s := by
  have new : (s.heap.push { cls := .type "list", data := .seq #[] }).get? s.heap.objs.size = some { cls := .type "list", data := .seq #[] } := Heap.get?_push_size _ rfl
  apply callType_codes (Q₁ := fun x s₁ => (x, s₁) = (.ref s.heap.objs.size, { s with heap := s.heap.push { cls := .type "list", data := .seq #[] } })) F.called_list (F.typeCall_list_1 _) F.entry_list_init (code_list_new _ rfl)
  rintro _ _ ⟨⟩
  refine ⟨⟨_, new, rfl⟩, F.args_list_init_2 _ _, ?_⟩
  have ext := h _ rfl
  exact wpAny_bind (wpAny_bind (wpAny_seqItems new rfl (wpAny_pure (wpAny_bind (wpAny_updateSeq new rfl (wpAny_bind (wpAny_letGo ext)))))))
end
end ListW

/-! What a comprehension's block shares, whatever it walks: its new list, what holds when the block is left, the end of a turn. -/
namespace BlkW
open PySem PySem.Spec PyProof.Rows L2
section
variable {X : Cx} {pins : List (Addr × Obj)} {σ σ' : L2.St} {H H' : Hp} {s s' s3 : Shared} {D : Addr} {fp : List Addr} {scope : Scope} {ce : Env} {xe : Value → Shared → Prop}
theorem left {ps : List (Addr × Obj)} (I : Inv X pins σ H s3) (f : ∀ b ∈ fp, FpOk X pins H b ∧ b < s3.heap.objs.size) (cL : ce.locals = s3.heap.objs.size) (J : Inv { X.blk s3 H scope ce fp with xe := xe } ps σ' H' s') :
    Inv X pins σ H' s' ∧ (∃ m, s'.heap.Ns ce.locals m) ∧ FpOk X pins H' ce.locals := by
  have none : H' ce.locals = none := J.free
  refine ⟨I.call' (ch := fp) J.os J.base J.hok J.bare fun b hb => ?_, let ⟨m, z, _⟩ := J.loc; ⟨m, z⟩, cL ▸ I.fpOk (Nat.le_refl _) (cL ▸ none)⟩
  have ⟨⟨_, x1, _, x3, x4, x5⟩, _⟩ := f b hb
  exact ⟨x3, x1, x4, x5⟩
theorem still {b : Addr} (J : Inv { X.blk s3 H scope ce fp with xe := xe } [] σ' H' s') (hb : b ∈ fp) (n : H' b = none) : FpOk { X.blk s3 H scope ce fp with xe := xe } [] H' b :=
  have ⟨x1, x2⟩ := J.ok.exf b hb
  ⟨n, x1, J.ok.exfs b hb, .inl hb, fun x c e => x2 x c e, fun p hp => nomatch (show p ∈ ([] : List (Addr × Obj)) ++ [] from hp)⟩
end
end BlkW


namespace T2
open PySem L2

/-! ### values that are trees; the things that change stand in a list, by place -/
inductive D where
  | non | bl (b : Bool) | int (i : Int) | str (x : Str) | ty (n : String) | cls (c : Nat) | ref (n : Nat) | obj (a : Addr) | tk (ks : List Key)
  | tup (ds : List D) | fro (ds : List D) | ins (c : Nat) (ns : List Str) (ds : List D)
inductive MO where
  | lst (ds : List D) | dk (ks : List Key) (ds : List D) | dt (ks : List (List Key)) (ds : List D) | ob (c : Nat) (ns : List Str) (ds : List D) | lk (ks : List Key) (ds : List D) | lt (ks : List (List Key)) (ds : List D)
abbrev MH := List MO
abbrev Env2 := List (Option D)
inductive Res (A : Type) where
  | ok (a : A) (M : MH) | exc (c : Nat) (ns : List Str) (ds : List D) (M : MH) | bad
inductive SR where
  | nx (e : Env2) (M : MH) | rt (d : D) (M : MH) | bk (e : Env2) (M : MH) | ct (e : Env2) (M : MH) | ex (c : Nat) (ns : List Str) (ds : List D) (e : Env2) (M : MH) | bad
def Res.bind {A B : Type} (r : Res A) (k : A → MH → Res B) : Res B := match r with
  | .ok a M => k a M
  | .exc c ns ds M => .exc c ns ds M
  | .bad => .bad
@[simp] theorem Res.bind_ok {A B : Type} (a : A) (M : MH) (k : A → MH → Res B) : (Res.ok a M).bind k = k a M := rfl
@[simp] theorem Res.bind_exc {A B : Type} (c : Nat) (ns : List Str) (ds : List D) (M : MH) (k : A → MH → Res B) : (Res.exc c ns ds M : Res A).bind k = .exc c ns ds M := rfl
@[simp] theorem Res.bind_bad {A B : Type} (k : A → MH → Res B) : (Res.bad : Res A).bind k = .bad := rfl

/-- the written part, and where the classes of the text stand -/
structure Wd where
  K : PySem.W.Frag
  ca : Nat → Addr
/-- a list that never changes any more -/
def FroL (g : Wd) (F : List Addr) (H : Hp) (a : Addr) (vs : List V) : Prop :=
  (H a = some (.lst vs) ∧ a ∉ F) ∨ (∃ o, H a = some (.frz o (.lst vs))) ∨
    ∃ (o : Obj) (its : Array Value) (n : Nat), g.K.lookup a = some o ∧ o.cls = .type "list" ∧ o.dict = none ∧ o.data = .seq its n ∧ its.size ≤ sizeLine ∧ Vals vs its.toList
theorem FroL.sq {g : Wd} {F : List Addr} {H : Hp} {a : Addr} {vs : List V} (h : FroL g F H a vs) : SqL g.K H a vs := by
  rcases h with h | h | h
  · exact .inl (.inl h.1)
  · exact .inl (.inr h)
  · exact .inr h
mutual
inductive Rep (g : Wd) (F : List Addr) (H : Hp) : D → V → Prop
  | non : Rep g F H .non .non
  | bl (b : Bool) : Rep g F H (.bl b) (.bl b)
  | int (i : Int) : Rep g F H (.int i) (.int i)
  | str (x : Str) : Rep g F H (.str x) (.str x)
  | ty (n : String) : Rep g F H (.ty n) (.ty n)
  | cls (c : Nat) : Rep g F H (.cls c) (.ref (g.ca c))
  | obj (a : Addr) : Rep g F H (.obj a) (.ref a)
  | tk {a : Addr} {ks : List Key} (h : H a = some (.tup (ks.map kV))) : Rep g F H (.tk ks) (.ref a)
  | ref {n : Nat} {a : Addr} (h : F[n]? = some a) : Rep g F H (.ref n) (.ref a)
  | tup {a : Addr} {ds : List D} {vs : List V} (h : SqT g.K H a vs) (r : Reps g F H ds vs) : Rep g F H (.tup ds) (.ref a)
  | fro {a : Addr} {ds : List D} {vs : List V} (h : FroL g F H a vs) (r : Reps g F H ds vs) : Rep g F H (.fro ds) (.ref a)
  | ins {a dx : Addr} {c : Nat} {ns : List Str} {ds : List D} {vs : List V} (h : H a = some (.ins (g.ca c) dx (ns.zip vs))) (hn : a ∉ F) (hl : ns.length = vs.length) (r : Reps g F H ds vs) : Rep g F H (.ins c ns ds) (.ref a)
inductive Reps (g : Wd) (F : List Addr) (H : Hp) : List D → List V → Prop
  | nil : Reps g F H [] []
  | cons {d : D} {v : V} {ds : List D} {vs : List V} (h : Rep g F H d v) (t : Reps g F H ds vs) : Reps g F H (d :: ds) (v :: vs)
end

/-- no dict that is locked -/
def NoLk : Option HO → Prop
  | some (.frz _ (.dK _)) => False
  | some (.frz _ (.dT _)) => False
  | _ => True
theorem nolk_of {H : Hp} {a : Addr} {o : HO} (h : H a = some o) (w : NoLk (some o)) : NoLk (H a) := by rw [h]; exact w
/-- from one moment to a later one -/
structure Grow (F : List Addr) (H : Hp) (F' : List Addr) (H' : Hp) : Prop where
  pre : F <+: F'
  keep : ∀ b o, H b = some o → b ∉ F → H' b = some o
  new : ∀ b, b ∈ F' → b ∈ F ∨ H b = none
  lock : ∀ b o, H b = some o → ¬ NoLk (some o) → H' b = some o
/-- what may stand at a place of the changing things -/
def MutO : Option HO → Prop
  | some (.lst _) => True
  | some (.dK _) => True
  | some (.dT _) => True
  | some (.ins _ _ _) => True
  | some (.frz _ (.dK _)) => True
  | some (.frz _ (.dT _)) => True
  | _ => False
def Good (F : List Addr) (H : Hp) : Prop := ∀ a ∈ F, MutO (H a)
theorem Grow.same {F : List Addr} {H : Hp} : Grow F H F H := ⟨List.prefix_refl _, fun _ _ h _ => h, fun _ h => .inl h, fun _ _ h _ => h⟩
theorem Grow.trans {F F1 F2 : List Addr} {H H1 H2 : Hp} (a : Grow F H F1 H1) (b : Grow F1 H1 F2 H2) : Grow F H F2 H2 := by
  refine ⟨a.pre.trans b.pre, fun x o e n => ?_, fun x e => ?_, fun x o e n => b.lock x o (a.lock x o e n) n⟩
  · refine b.keep x o (a.keep x o e n) fun z => ?_
    rcases a.new x z with q | q
    · exact n q
    · rw [e] at q; cases q
  · rcases b.new x e with q | q
    · exact a.new x q
    · by_cases h : x ∈ F
      · exact .inl h
      · cases w : H x with
        | none => exact .inr rfl
        | some o => rw [a.keep x o w h] at q; cases q
theorem Grow.keep2 {F F' : List Addr} {H H' : Hp} (g : Grow F H F' H') {b : Addr} {o : HO} (e : H b = some o) (n : b ∉ F ∨ ¬ NoLk (some o)) : H' b = some o := n.elim (g.keep b o e) (g.lock b o e)
theorem pre_get {A : Type} {l l' : List A} {n : Nat} {a : A} (p : l <+: l') (h : l[n]? = some a) : l'[n]? = some a := by
  obtain ⟨t, rfl⟩ := p
  have hl : n < l.length := (List.getElem?_eq_some_iff.mp h).1
  rw [List.getElem?_append_left hl]; exact h
theorem Grow.off {F F' : List Addr} {H H' : Hp} (g : Grow F H F' H') {a : Addr} {o : HO} (e : H a = some o) (n : a ∉ F) : a ∉ F' := fun z => by
  rcases g.new a z with q | q
  · exact n q
  · rw [e] at q; cases q
theorem Good.notin {F : List Addr} {H : Hp} (G : Good F H) {a : Addr} {o : HO} (e : H a = some o) (h : ¬ MutO (some o)) : a ∉ F := fun z => by
  have := G a z; rw [e] at this; exact h this
section
variable {g : Wd} {F F' : List Addr} {H H' : Hp}
theorem FroL.mono {a : Addr} {vs : List V} (gr : Grow F H F' H') (G : Good F H) (h : FroL g F H a vs) : FroL g F' H' a vs := by
  rcases h with ⟨h, n⟩ | ⟨o, h⟩ | h
  · exact .inl ⟨gr.keep _ _ h n, gr.off h n⟩
  · exact .inr (.inl ⟨o, gr.keep _ _ h (G.notin h (by intro z; exact z))⟩)
  · exact .inr (.inr h)
theorem sqT_mono {a : Addr} {vs : List V} (gr : Grow F H F' H') (G : Good F H) (h : SqT g.K H a vs) : SqT g.K H' a vs := by
  rcases h with (h | ⟨o, h⟩) | h
  · exact .inl (.inl (gr.keep _ _ h (G.notin h (by intro z; exact z))))
  · exact .inl (.inr ⟨o, gr.keep _ _ h (G.notin h (by intro z; exact z))⟩)
  · exact .inr h
mutual
theorem Rep.mono (gr : Grow F H F' H') (G : Good F H) : ∀ {d : D} {v : V}, Rep g F H d v → Rep g F' H' d v
  | _, _, .non => .non
  | _, _, .bl b => .bl b
  | _, _, .int i => .int i
  | _, _, .str x => .str x
  | _, _, .ty n => .ty n
  | _, _, .cls c => .cls c
  | _, _, .obj a => .obj a
  | _, _, .tk h => .tk (gr.keep _ _ h (G.notin h (by intro z; exact z)))
  | _, _, .ref h => .ref (pre_get gr.pre h)
  | _, _, .tup h r => .tup (sqT_mono gr G h) (Reps.mono gr G r)
  | _, _, .fro h r => .fro (h.mono gr G) (Reps.mono gr G r)
  | _, _, .ins h hn hl r => .ins (gr.keep _ _ h hn) (gr.off h hn) hl (Reps.mono gr G r)
theorem Reps.mono (gr : Grow F H F' H') (G : Good F H) : ∀ {ds : List D} {vs : List V}, Reps g F H ds vs → Reps g F' H' ds vs
  | _, _, .nil => .nil
  | _, _, .cons h t => .cons (Rep.mono gr G h) (Reps.mono gr G t)
end
theorem Reps.length : ∀ {ds : List D} {vs : List V}, Reps g F H ds vs → ds.length = vs.length
  | _, _, .nil => rfl
  | _, _, .cons _ t => by simp [Reps.length t]
theorem Reps.get : ∀ {ds : List D} {vs : List V} {n : Nat} {d : D}, Reps g F H ds vs → ds[n]? = some d → ∃ v, vs[n]? = some v ∧ Rep g F H d v
  | _, _, _, _, .nil, e => by simp at e
  | _, _, 0, _, .cons h _, e => by simp at e; subst e; exact ⟨_, rfl, h⟩
  | _, _, n + 1, d, .cons _ t, e => by
    obtain ⟨v, h1, h2⟩ := Reps.get (n := n) (d := d) t (by simpa using e)
    exact ⟨v, by simpa using h1, h2⟩
theorem Reps.append : ∀ {ds es : List D} {vs us : List V}, Reps g F H ds vs → Reps g F H es us → Reps g F H (ds ++ es) (vs ++ us)
  | _, _, _, _, .nil, s => s
  | _, _, _, _, .cons h t, s => .cons h (Reps.append t s)
theorem Reps.set {d : D} {v : V} (r : Rep g F H d v) : ∀ {ds : List D} {vs : List V} (n : Nat), Reps g F H ds vs → Reps g F H (ds.set n d) (vs.set n v)
  | _, _, _, .nil => .nil
  | _, _, 0, .cons _ t => .cons r t
  | _, _, n + 1, .cons h t => .cons h (Reps.set r n t)
theorem Reps.take : ∀ {ds : List D} {vs : List V} (n : Nat), Reps g F H ds vs → Reps g F H (ds.take n) (vs.take n)
  | _, _, 0, _ => .nil
  | _, _, _ + 1, .nil => .nil
  | _, _, n + 1, .cons r t => .cons r (Reps.take n t)
theorem Reps.drop : ∀ {ds : List D} {vs : List V} (n : Nat), Reps g F H ds vs → Reps g F H (ds.drop n) (vs.drop n)
  | _, _, 0, r => r
  | _, _, _ + 1, .nil => .nil
  | _, _, n + 1, .cons _ t => Reps.drop n t
end

inductive ObjR (g : Wd) (F : List Addr) (H : Hp) : MO → HO → Prop
  | lst {ds : List D} {vs : List V} (r : Reps g F H ds vs) : ObjR g F H (.lst ds) (.lst vs)
  | dk {ks : List Key} {ds : List D} {vs : List V} (hl : ks.length = vs.length) (r : Reps g F H ds vs) : ObjR g F H (.dk ks ds) (.dK (ks.zip vs))
  | dt {ks : List (List Key)} {ds : List D} {vs : List V} (hl : ks.length = vs.length) (r : Reps g F H ds vs) : ObjR g F H (.dt ks ds) (.dT (ks.zip vs))
  | ob {c : Nat} {dx : Addr} {ns : List Str} {ds : List D} {vs : List V} (hl : ns.length = vs.length) (r : Reps g F H ds vs) : ObjR g F H (.ob c ns ds) (.ins (g.ca c) dx (ns.zip vs))
  | lk {o : Obj} {ks : List Key} {ds : List D} {vs : List V} (hl : ks.length = vs.length) (r : Reps g F H ds vs) : ObjR g F H (.lk ks ds) (.frz o (.dK (ks.zip vs)))
  | lt {o : Obj} {ks : List (List Key)} {ds : List D} {vs : List V} (hl : ks.length = vs.length) (r : Reps g F H ds vs) : ObjR g F H (.lt ks ds) (.frz o (.dT (ks.zip vs)))
theorem ObjR.mono {g : Wd} {F F' : List Addr} {H H' : Hp} (gr : Grow F H F' H') (G : Good F H) {o : MO} {h : HO} (r : ObjR g F H o h) : ObjR g F' H' o h := by
  cases r with
  | lst r => exact .lst (r.mono gr G)
  | dk hl r => exact .dk hl (r.mono gr G)
  | dt hl r => exact .dt hl (r.mono gr G)
  | ob hl r => exact .ob hl (r.mono gr G)
  | lk hl r => exact .lk hl (r.mono gr G)
  | lt hl r => exact .lt hl (r.mono gr G)
theorem ObjR.mut {g : Wd} {F : List Addr} {H : Hp} {o : MO} {h : HO} (r : ObjR g F H o h) : MutO (some h) := by cases r <;> trivial
structure RelM (g : Wd) (F : List Addr) (M : MH) (H : Hp) : Prop where
  len : F.length = M.length
  nd : F.Nodup
  obj : ∀ (n : Nat) (a : Addr) (o : MO), F[n]? = some a → M[n]? = some o → ∃ h, H a = some h ∧ ObjR g F H o h
theorem RelM.good {g : Wd} {F : List Addr} {M : MH} {H : Hp} (R : RelM g F M H) : Good F H := fun a ha => by
  obtain ⟨n, hn⟩ := List.getElem?_of_mem ha
  have hl : n < M.length := by have := (List.getElem?_eq_some_iff.mp hn).1; rw [R.len] at this; exact this
  obtain ⟨h, e, r⟩ := R.obj n a M[n] hn (List.getElem?_eq_getElem hl)
  rw [e]; exact r.mut
/-- nothing that is tracked changes, nothing new among the changing things -/
theorem RelM.keep {g : Wd} {F : List Addr} {M : MH} {H H' : Hp} (R : RelM g F M H) (k : ∀ b o, H b = some o → H' b = some o) : Grow F H F H' ∧ RelM g F M H' := by
  have gr : Grow F H F H' := ⟨List.prefix_refl _, fun b o e _ => k b o e, fun _ h => .inl h, fun b o e _ => k b o e⟩
  refine ⟨gr, R.len, R.nd, fun n a o e m => ?_⟩
  obtain ⟨h, e2, r⟩ := R.obj n a o e m
  exact ⟨h, k _ _ e2, r.mono gr R.good⟩
theorem upd_keeps {H : Hp} {p : Addr} {o : HO} (hp : H p = none) : ∀ b u, H b = some u → upd H p o b = some u := fun b u e => by rw [upd_ne (ne_of_none e hp)]; exact e
/-- a new thing that never changes -/
theorem RelM.still {g : Wd} {F : List Addr} {M : MH} {H : Hp} {p : Addr} {o : HO} (R : RelM g F M H) (hp : H p = none) : Grow F H F (upd H p o) ∧ RelM g F M (upd H p o) := R.keep (upd_keeps hp)
theorem RelM.notin {g : Wd} {F : List Addr} {M : MH} {H : Hp} {p : Addr} (R : RelM g F M H) (hp : H p = none) : p ∉ F := fun z => by
  have := R.good p z; rw [hp] at this; exact this
/-- a new thing that changes -/
theorem RelM.laid {g : Wd} {F : List Addr} {M : MH} {H : Hp} {p : Addr} {o : HO} {m : MO} (R : RelM g F M H) (hp : H p = none) (ho : ∀ F' H', Grow F H F' H' → ObjR g F' H' m o) : Grow F H (F ++ [p]) (upd H p o) ∧ RelM g (F ++ [p]) (M ++ [m]) (upd H p o) := by
  have gr : Grow F H (F ++ [p]) (upd H p o) := ⟨List.prefix_append _ _, fun b u e _ => upd_keeps hp b u e, fun b hb => by
    rcases List.mem_append.mp hb with q | q
    · exact .inl q
    · have e : b = p := by simpa using q
      rw [e]; exact .inr hp, fun b u e _ => upd_keeps hp b u e⟩
  refine ⟨gr, by simp [R.len], ?_, fun n a u e m2 => ?_⟩
  · rw [List.nodup_append]
    refine ⟨R.nd, by simp, fun x hx y hy => ?_⟩
    have : y = p := by simpa using hy
    rw [this]; intro z; rw [z] at hx; exact R.notin hp hx
  · by_cases hn : n < F.length
    · rw [List.getElem?_append_left hn] at e
      rw [List.getElem?_append_left (by rw [← R.len]; exact hn)] at m2
      obtain ⟨h, e2, r⟩ := R.obj n a u e m2
      exact ⟨h, upd_keeps hp _ _ e2, r.mono gr R.good⟩
    · have hn' : F.length ≤ n := Nat.le_of_not_lt hn
      rw [List.getElem?_append_right hn'] at e
      rw [List.getElem?_append_right (by rw [← R.len]; exact hn')] at m2
      have h0 : n - F.length = 0 := by
        have := (List.getElem?_eq_some_iff.mp e).1
        simp at this; omega
      rw [h0] at e
      rw [← R.len, h0] at m2
      simp at e m2
      subst e; subst m2
      exact ⟨o, upd_same, ho _ _ gr⟩
/-- a changing thing is changed -/
theorem RelM.put {g : Wd} {F : List Addr} {M : MH} {H : Hp} {n : Nat} {a : Addr} {o : HO} {m : MO} (R : RelM g F M H) (hn : F[n]? = some a) (hm : MutO (some o)) (ho : ∀ H', Grow F H F H' → ObjR g F H' m o) (hx : NoLk (H a) := by apply nolk_of <;> first | assumption | trivial) : Grow F H F (upd H a o) ∧ RelM g F (M.set n m) (upd H a o) := by
  have ha : a ∈ F := List.mem_of_getElem? hn
  have gr : Grow F H F (upd H a o) := ⟨List.prefix_refl _, fun b u e nb => by rw [upd_ne (fun z => nb (by rw [z]; exact ha))]; exact e, fun _ h => .inl h, fun b u e n => by rw [upd_ne (fun z => n (by rw [z] at e; rw [e] at hx; exact hx))]; exact e⟩
  refine ⟨gr, by simp [R.len], R.nd, fun k b u e m2 => ?_⟩
  by_cases hk : n = k
  · subst hk
    rw [hn] at e; cases e
    have hl : n < M.length := by have := (List.getElem?_eq_some_iff.mp hn).1; rw [R.len] at this; exact this
    rw [List.getElem?_set_self hl] at m2
    cases m2
    exact ⟨o, upd_same, ho _ gr⟩
  · rw [List.getElem?_set_ne hk] at m2
    obtain ⟨h, e2, r⟩ := R.obj k b u e m2
    refine ⟨h, ?_, r.mono gr R.good⟩
    rw [upd_ne]
    · exact e2
    · intro z
      subst z
      exact hk ((List.getElem?_inj (List.getElem?_eq_some_iff.mp hn).1 R.nd).mp (hn.trans e.symm))

/-! ### the frame's values -/
inductive OptR (g : Wd) (F : List Addr) (H : Hp) : Option D → Option V → Prop
  | none {v : Option V} : OptR g F H none v
  | some {d : D} {v : V} (r : Rep g F H d v) : OptR g F H (some d) (some v)
inductive EnvR (g : Wd) (F : List Addr) (H : Hp) : Env2 → St → Prop
  | nil : EnvR g F H [] []
  | cons {d : Option D} {v : Option V} {ds : Env2} {vs : St} (h : OptR g F H d v) (t : EnvR g F H ds vs) : EnvR g F H (d :: ds) (v :: vs)
section
variable {g : Wd} {F F' : List Addr} {H H' : Hp}
theorem EnvR.mono (gr : Grow F H F' H') (G : Good F H) : ∀ {e : Env2} {s : St}, EnvR g F H e s → EnvR g F' H' e s
  | _, _, .nil => .nil
  | _, _, .cons .none t => .cons .none (EnvR.mono gr G t)
  | _, _, .cons (.some r) t => .cons (.some (r.mono gr G)) (EnvR.mono gr G t)
theorem EnvR.get : ∀ {e : Env2} {s : St} {n : Nat} {d : D}, EnvR g F H e s → e[n]? = some (some d) → ∃ v, s[n]? = some (some v) ∧ Rep g F H d v
  | _, _, _, _, .nil, e => by simp at e
  | _, _, 0, _, .cons h _, e => by
    simp at e; subst e
    cases h with | some r => exact ⟨_, rfl, r⟩
  | _, _, n + 1, d, .cons _ t, e => by
    obtain ⟨v, h1, h2⟩ := EnvR.get (n := n) (d := d) t (by simpa using e)
    exact ⟨v, by simpa using h1, h2⟩
theorem EnvR.set {d : D} {v : V} (r : Rep g F H d v) : ∀ {e : Env2} {s : St} (n : Nat), EnvR g F H e s → EnvR g F H (e.set n (some d)) (s.set n (some v))
  | _, _, _, .nil => .nil
  | _, _, 0, .cons _ t => .cons (.some r) t
  | _, _, n + 1, .cons h t => .cons h (EnvR.set r n t)
theorem EnvR.unset : ∀ {e : Env2} {s : St} (n : Nat) (x : Option V), EnvR g F H e s → EnvR g F H (e.set n none) (s.set n x)
  | _, _, _, _, .nil => .nil
  | _, _, 0, _, .cons _ t => .cons .none t
  | _, _, n + 1, x, .cons h t => .cons h (EnvR.unset n x t)
theorem EnvR.length : ∀ {e : Env2} {s : St}, EnvR g F H e s → e.length = s.length
  | _, _, .nil => rfl
  | _, _, .cons _ t => by simp [EnvR.length t]
end
end T2
namespace T2
open PySem L2

/-! ### what is wanted behind a piece of code -/
/-- an exception's own fields -/
inductive XRep (g : Wd) (F : List Addr) (H : Hp) : List Str → List D → Option Addr → Prop
  | no : XRep g F H [] [] none
  | so {ns : List Str} {ds : List D} {vs : List V} {dd : Addr} (h : H dd = some (.xd (ns.zip vs))) (hne : ns ≠ []) (hl : ns.length = vs.length) (r : Reps g F H ds vs) : XRep g F H ns ds (some dd)
theorem XRep.mono {g : Wd} {F F' : List Addr} {H H' : Hp} {ns : List Str} {ds : List D} {d : Option Addr} (gr : Grow F H F' H') (G : Good F H) (x : XRep g F H ns ds d) : XRep g F' H' ns ds d := by
  cases x with
  | no => exact .no
  | so h hne hl r => exact .so (gr.keep _ _ h (G.notin h (by intro z; exact z))) hne hl (r.mono gr G)
/-- slots that hold a known thing (an exception, within its suite); the fields of such -/
structure PinD where
  xs : List (Nat × Addr)
  xr : List (List Str × List D × Option Addr)
/-- what is wished of an exception; what is pinned -/
structure WY where
  w : WX
  p : PinD
def Pin (xs : List (Nat × Addr)) (σ : St) : Prop := ∀ p ∈ xs, σ[p.1]? = some (some (.ref p.2))
theorem pin_nil {σ : St} : Pin [] σ := fun p h => by simp at h
theorem Pin.set {xs : List (Nat × Addr)} {σ : St} {i : Nat} {v : Option V} (h : Pin xs σ) (hi : ∀ p ∈ xs, i ≠ p.1) : Pin xs (σ.set i v) := fun p hp => by
  rw [List.getElem?_set_ne (hi p hp)]; exact h p hp
def Xrs (g : Wd) (l : List (List Str × List D × Option Addr)) (F : List Addr) (H : Hp) : Prop := ∀ t ∈ l, XRep g F H t.1 t.2.1 t.2.2
theorem xrs_nil {g : Wd} {F : List Addr} {H : Hp} : Xrs g [] F H := fun p h => by simp at h
theorem Xrs.mono {g : Wd} {F F' : List Addr} {H H' : Hp} {l : List (List Str × List D × Option Addr)} (x : Xrs g l F H) (gr : Grow F H F' H') (G : Good F H) : Xrs g l F' H' := fun t ht => (x t ht).mono gr G
structure RelS (g : Wd) (p : PinD) (F : List Addr) (e : Env2) (M : MH) (σ : St) (H : Hp) : Prop where
  m : RelM g F M H
  e : EnvR g F H e σ
  x : Pin p.xs σ
  y : Xrs g p.xr F H
abbrev RAT (A B : Type) := Wd → List Addr → Hp → A → B → Prop
def post {A B : Type} (g : Wd) (RA : RAT A B) (W : WX) (F : List Addr) (σ : St) (H : Hp) (r : Res A) (Q : B → Hp → Prop) : Prop := match r with
  | .ok a M => ∀ F' H' b, Grow F H F' H' → RelM g F' M H' → RA g F' H' a b → Q b H'
  | .exc c ns ds M => ∀ F' H' d, Grow F H F' H' → RelM g F' M H' → XRep g F' H' ns ds d → W (.ref (g.ca c)) d σ H'
  | .bad => False
theorem post.up {A B : Type} {g : Wd} {RA : RAT A B} {W : WX} {F F1 : List Addr} {σ : St} {H H1 : Hp} {r : Res A} {Q : B → Hp → Prop} (gr : Grow F H F1 H1) (h : post g RA W F σ H r Q) : post g RA W F1 σ H1 r Q := by
  cases r with
  | ok a M => exact fun F' H' b g1 R ra => h F' H' b (gr.trans g1) R ra
  | exc c ns ds M => exact fun F' H' d g1 R x => h F' H' d (gr.trans g1) R x
  | bad => exact h
/-- one step, then the rest -/
theorem post.bind {A B A' B' : Type} {g : Wd} {RA : RAT A B} {RA' : RAT A' B'} {W : WX} {F : List Addr} {σ : St} {H : Hp} {r : Res A} {k : A → MH → Res A'} {Q : B' → Hp → Prop} {R : B → Hp → Prop} (h : post g RA' W F σ H (r.bind k) Q)
    (f : ∀ a M F' H' b, r = .ok a M → Grow F H F' H' → RelM g F' M H' → RA g F' H' a b → post g RA' W F' σ H' (k a M) Q → R b H') : post g RA W F σ H r R := by
  cases r with
  | ok a M => exact fun F' H' b g1 Rm ra => f a M F' H' b rfl g1 Rm ra (h.up g1)
  | exc c ns ds M => exact fun F' H' d g1 Rm x => h F' H' d g1 Rm x
  | bad => exact h
/-- the value alone -/
theorem post.ok {A B : Type} {g : Wd} {RA : RAT A B} {W : WX} {F F' : List Addr} {σ : St} {H H' : Hp} {a : A} {M : MH} {b : B} {Q : B → Hp → Prop} (h : post g RA W F σ H (.ok a M) Q) (gr : Grow F H F' H') (R : RelM g F' M H') (ra : RA g F' H' a b) : Q b H' := h F' H' b gr R ra
theorem post.here {A B : Type} {g : Wd} {RA : RAT A B} {W : WX} {F : List Addr} {σ : St} {H : Hp} {a : A} {M : MH} {b : B} {Q : B → Hp → Prop} (h : post g RA W F σ H (.ok a M) Q) (R : RelM g F M H) (ra : RA g F H a b) : Q b H := h F H b .same R ra

abbrev rD : RAT D V := fun g F H d v => Rep g F H d v
abbrev rDs : RAT (List D) (List V) := fun g F H d v => Reps g F H d v
abbrev rB : RAT Bool Bool := fun _ _ _ a b => a = b
abbrev EM := Env2 → MH → Res D
abbrev BM := Env2 → MH → Res Bool
abbrev AM := Env2 → MH → Res (List D)
abbrev SM := Env2 → MH → SR
def tG {A B : Type} (g : Wd) (RA : RAT A B) (W : WY) (m : Env2 → MH → Res A) : St → Hp → (B → Hp → Prop) → Prop := fun σ H Q => ∃ F e M, RelS g W.p F e M σ H ∧ post g RA W.w F σ H (m e M) Q
abbrev tD (g : Wd) (W : WY) (m : EM) : TE := tG g rD W m
abbrev tB2 (g : Wd) (W : WY) (m : BM) : TT := tG g rB W m
abbrev tA (g : Wd) (W : WY) (m : AM) : TA := tG g rDs W m
def postS (g : Wd) (W : WY) (F : List Addr) (H : Hp) (r : SR) (E : Ends) : Prop := match r with
  | .nx e M => ∀ F' H' σ', Grow F H F' H' → RelM g F' M H' → EnvR g F' H' e σ' → Pin W.p.xs σ' → E.nx σ' H'
  | .rt d M => ∀ F' H' v, Grow F H F' H' → RelM g F' M H' → Rep g F' H' d v → E.rt v H'
  | .bk e M => ∀ F' H' σ', Grow F H F' H' → RelM g F' M H' → EnvR g F' H' e σ' → Pin W.p.xs σ' → E.bk σ' H'
  | .ct e M => ∀ F' H' σ', Grow F H F' H' → RelM g F' M H' → EnvR g F' H' e σ' → Pin W.p.xs σ' → E.ct σ' H'
  | .ex c ns ds e M => ∀ F' H' σ' d, Grow F H F' H' → RelM g F' M H' → EnvR g F' H' e σ' → XRep g F' H' ns ds d → W.w (.ref (g.ca c)) d σ' H'
  | .bad => False
theorem postS.up {g : Wd} {W : WY} {F F1 : List Addr} {H H1 : Hp} {r : SR} {E : Ends} (gr : Grow F H F1 H1) (h : postS g W F H r E) : postS g W F1 H1 r E := by
  cases r with
  | nx e M => exact fun F' H' b g1 R x => h F' H' b (gr.trans g1) R x
  | rt e M => exact fun F' H' b g1 R x => h F' H' b (gr.trans g1) R x
  | bk e M => exact fun F' H' b g1 R x => h F' H' b (gr.trans g1) R x
  | ct e M => exact fun F' H' b g1 R x => h F' H' b (gr.trans g1) R x
  | ex c ns ds e M => exact fun F' H' b d g1 R x y => h F' H' b d (gr.trans g1) R x y
  | bad => exact h
def tS (g : Wd) (W : WY) (m : SM) : TS := fun E σ H => ∃ F e M, RelS g W.p F e M σ H ∧ postS g W F H (m e M) E

theorem RelS.up {g : Wd} {p : PinD} {F F' : List Addr} {e : Env2} {M M' : MH} {σ : St} {H H' : Hp} (R : RelS g p F e M σ H) (gr : Grow F H F' H') (Rm : RelM g F' M' H') : RelS g p F' e M' σ H' := ⟨Rm, R.e.mono gr R.m.good, R.x, R.y.mono gr R.m.good⟩
/-- an expression's value, then a statement -/
def Res.toS (r : Res D) (e : Env2) (k : D → MH → SR) : SR := match r with
  | .ok a M => k a M
  | .exc c ns ds M => .ex c ns ds e M
  | .bad => .bad
def Res.toSB (r : Res Bool) (e : Env2) (k : Bool → MH → SR) : SR := match r with
  | .ok a M => k a M
  | .exc c ns ds M => .ex c ns ds e M
  | .bad => .bad
theorem postS.step {g : Wd} {W : WY} {F : List Addr} {σ : St} {e : Env2} {M0 : MH} {H : Hp} {r : Res D} {k : D → MH → SR} {E : Ends} {R : V → Hp → Prop} (RS : RelS g W.p F e M0 σ H) (h : postS g W F H (r.toS e k) E)
    (f : ∀ a M F' H' v, r = .ok a M → Grow F H F' H' → RelM g F' M H' → Rep g F' H' a v → postS g W F' H' (k a M) E → R v H') : post g rD W.w F σ H r R := by
  cases r with
  | ok a M => exact fun F' H' b g1 Rm ra => f a M F' H' b rfl g1 Rm ra (h.up g1)
  | exc c ns ds M => exact fun F' H' d g1 Rm x => h F' H' σ d g1 Rm (RS.e.mono g1 RS.m.good) x
  | bad => exact h
theorem postS.stepB {g : Wd} {W : WY} {F : List Addr} {σ : St} {e : Env2} {M0 : MH} {H : Hp} {r : Res Bool} {k : Bool → MH → SR} {E : Ends} {R : Bool → Hp → Prop} (RS : RelS g W.p F e M0 σ H) (h : postS g W F H (r.toSB e k) E)
    (f : ∀ a M F' H', r = .ok a M → Grow F H F' H' → RelM g F' M H' → postS g W F' H' (k a M) E → R a H') : post g rB W.w F σ H r R := by
  cases r with
  | ok a M => exact fun F' H' b g1 Rm ra => by cases ra; exact f a M F' H' rfl g1 Rm (h.up g1)
  | exc c ns ds M => exact fun F' H' d g1 Rm x => h F' H' σ d g1 Rm (RS.e.mono g1 RS.m.good) x
  | bad => exact h

/-! ### readings made weaker -/
theorem pe_imp {X : Cx} {e : Expr} {t t' : TE} (h : PE X e t) (i : ∀ σ H Q, t' σ H Q → t σ H Q) : PE X e t' := ⟨fun pins s σ H Q I q => h.run pins s σ H Q I (i σ H Q q)⟩
theorem pt_imp {X : Cx} {e : Expr} {t t' : TT} (h : PT X e t) (i : ∀ σ H Q, t' σ H Q → t σ H Q) : PT X e t' := ⟨fun pins s σ H Q I q => h.run pins s σ H Q I (i σ H Q q)⟩
theorem pw_imp {X : Cx} {e : Expr} {t t' : TT} (h : PW X e t) (i : ∀ σ H Q, t' σ H Q → t σ H Q) : PW X e t' := ⟨fun whole pins s σ H Q I q => h.run whole pins s σ H Q I (i σ H Q q)⟩
theorem pa_imp {X : Cx} {e : List Expr} {t t' : TA} (h : PA X e t) (i : ∀ σ H Q, t' σ H Q → t σ H Q) : PA X e t' := ⟨fun pos pins s σ H Q I q => h.run pos pins s σ H Q I (i σ H Q q)⟩
theorem ps_imp {X : Cx} {e : Stmt} {t t' : TS} (h : PS X e t) (i : ∀ E σ H, t' E σ H → t E σ H) : PS X e t' := ⟨fun pins s σ H E I q => h.run pins s σ H E I (i E σ H q)⟩
theorem pss_imp {X : Cx} {e : List Stmt} {t t' : TS} (h : PSs X e t) (i : ∀ E σ H, t' E σ H → t E σ H) : PSs X e t' := ⟨fun pins s σ H E I q => h.run pins s σ H E I (i E σ H q)⟩

/-! ### expressions -/
def eVar (n : Nat) : EM := fun e M => match e[n]? with
  | some (some d) => .ok d M
  | _ => .bad
def eC (d : D) : EM := fun _ M => .ok d M
def eUn (f : D → MH → Res D) (a : EM) : EM := fun e M => (a e M).bind f
def eBin (f : D → D → MH → Res D) (a b : EM) : EM := fun e M => (a e M).bind fun x M1 => (b e M1).bind fun y M2 => f x y M2
def eNil : AM := fun _ M => .ok [] M
def eCons (a : EM) (b : AM) : AM := fun e M => (a e M).bind fun x M1 => (b e M1).bind fun xs M2 => .ok (x :: xs) M2
def eArgs (f : List D → MH → Res D) (a : AM) : EM := fun e M => (a e M).bind f
def eTup (a : AM) : EM := eArgs (fun ds M => if ds.length ≤ 1000 then .ok (.tup ds) M else .bad) a
def eLst (a : AM) : EM := eArgs (fun ds M => if ds.length ≤ 1000 then .ok (.ref M.length) (M ++ [.lst ds]) else .bad) a
def eFro (a : AM) : EM := eArgs (fun ds M => if ds.length ≤ 1000 then .ok (.fro ds) M else .bad) a
/-- an operation on values, simulated -/
def Sim2 (g : Wd) (f : D → D → MH → Res D) (r : R2) : Prop := ∀ (F : List Addr) (M : MH) (σ : St) (H : Hp) (W : WX) (x y : D) (v w : V) (Q : VK), RelM g F M H → Rep g F H x v → Rep g F H y w → post g rD W F σ H (f x y M) Q → r v w H Q
def Sim1 (g : Wd) (f : D → MH → Res D) (r : V → Hp → VK → Prop) : Prop := ∀ (F : List Addr) (M : MH) (σ : St) (H : Hp) (W : WX) (x : D) (v : V) (Q : VK), RelM g F M H → Rep g F H x v → post g rD W F σ H (f x M) Q → r v H Q
def SimA (g : Wd) (f : List D → MH → Res D) (r : List V → Hp → VK → Prop) : Prop := ∀ (F : List Addr) (M : MH) (σ : St) (H : Hp) (W : WX) (x : List D) (v : List V) (Q : VK), RelM g F M H → Reps g F H x v → post g rD W F σ H (f x M) Q → r v H Q
section
variable {X : Cx} {g : Wd} {W : WY} {a b : Expr} {pos p : Pos} {m1 m2 : EM} {ma : AM} {es : List Expr}
theorem de_var (n : Nat) {x : Str} (h : PE X (.Name x p) (tVar n)) : PE X (.Name x p) (tD g W (eVar n)) := pe_imp h fun σ H Q ⟨F, e, M, RS, q⟩ => by
  unfold eVar at q
  split at q
  · rename_i d hd
    obtain ⟨v, hv, r⟩ := RS.e.get hd
    exact ⟨v, hv, q.here RS.m r⟩
  · exact q.elim
theorem de_v (i : Nat) {x : Str} (hN : X.N[i]? = some x := by rfl) (hv : Vis X.env.scope x := by first | exact Or.inl rfl | exact Or.inr (Or.inl rfl) | exact Or.inr (Or.inr rfl)) (hd : (x == ("__debug__" : Str)) = false := by decide) (hcd : (x == ("__classdict__" : Str)) = false := by decide) :
    PE X (.Name x p) (tD g W (eVar i)) := de_var i (pe_var hN hv hd hcd)
theorem de_c {e : Expr} {d : D} {v : V} (h : PE X e (tC v)) (r : ∀ F H, Rep g F H d v) : PE X e (tD g W (eC d)) := pe_imp h fun σ H Q ⟨F, e, M, RS, q⟩ => q.here RS.m (r F H)
theorem de_int {i : Int} {j : Nat} : PE X (.Constant (.int i) j p) (tD g W (eC (.int i))) := de_c pe_int fun _ _ => .int i
theorem de_str {x : Str} {j : Nat} : PE X (.Constant (.str x) j p) (tD g W (eC (.str x))) := de_c pe_str fun _ _ => .str x
theorem de_bl {x : Bool} {j : Nat} : PE X (.Constant (.bool x) j p) (tD g W (eC (.bl x))) := de_c pe_bl fun _ _ => .bl x
theorem de_non {j : Nat} : PE X (.Constant .none j p) (tD g W (eC .non)) := de_c pe_non fun _ _ => .non
theorem bin_imp {f : D → D → MH → Res D} {r : R2} (hs : Sim2 g f r) {σ : St} {H : Hp} {Q : VK} (q : tD g W (eBin f m1 m2) σ H Q) : tOp r (tD g W m1) (tD g W m2) σ H Q := by
  obtain ⟨F, e, M, RS, q⟩ := q
  refine ⟨F, e, M, RS, q.bind fun x M1 F1 H1 v e1 g1 R1 rx q1 => ?_⟩
  refine ⟨F1, e, M1, RS.up g1 R1, q1.bind fun y M2 F2 H2 w e2 g2 R2 ry q2 => ?_⟩
  exact hs F2 M2 σ H2 W.w x y v w Q R2 (rx.mono g2 R1.good) ry q2
theorem un_imp {f : D → MH → Res D} {r : V → Hp → VK → Prop} (hs : Sim1 g f r) {σ : St} {H : Hp} {Q : VK} (q : tD g W (eUn f m1) σ H Q) : tUn r (tD g W m1) σ H Q := by
  obtain ⟨F, e, M, RS, q⟩ := q
  exact ⟨F, e, M, RS, q.bind fun x M1 F1 H1 v e1 g1 R1 rx q1 => hs F1 M1 σ H1 W.w x v Q R1 rx q1⟩
theorem de_op {op : Operator} {f : D → D → MH → Res D} {r : R2} (ho : OpR X (binaryOp op) r) (hs : Sim2 g f r) (ha : PE X a (tD g W m1)) (hb : PE X b (tD g W m2)) : PE X (.BinOp a op b pos) (tD g W (eBin f m1 m2)) :=
  pe_imp (pe_op ho ha hb) fun σ H Q q => bin_imp hs q
theorem de_cmp {op : CmpOp} {f : D → D → MH → Res D} {r : R2} (ho : OpR X (compareOp op) r) (hs : Sim2 g f r) (ha : PE X a (tD g W m1)) (hb : PE X b (tD g W m2)) (hm : behindInMarks op b = false) : PE X (.Compare a [op] [b] pos) (tD g W (eBin f m1 m2)) :=
  pe_imp (pe_cmpR ho ha hb hm) fun σ H Q q => bin_imp hs q
theorem de_nil : PA X [] (tA g W eNil) := pa_imp pa_nil fun σ H Q ⟨F, e, M, RS, q⟩ => q.here RS.m .nil
theorem de_cons (ha : PE X a (tD g W m1)) (hb : PA X es (tA g W ma)) (hs : starEach (a :: es) X.env = (false, eval a X.env) :: starEach es X.env := by rfl) : PA X (a :: es) (tA g W (eCons m1 ma)) :=
  pa_imp (pa_cons ha hb hs) fun σ H Q ⟨F, e, M, RS, q⟩ => by
    refine ⟨F, e, M, RS, q.bind fun x M1 F1 H1 v e1 g1 R1 rx q1 => ?_⟩
    refine ⟨F1, e, M1, RS.up g1 R1, q1.bind fun y M2 F2 H2 w e2 g2 R2 ry q2 => ?_⟩
    exact q2.here R2 (.cons (rx.mono g2 R1.good) ry)
theorem args_imp {f : List D → MH → Res D} {r : List V → Hp → VK → Prop} (hs : SimA g f r) {σ : St} {H : Hp} {Q : VK} (q : tD g W (eArgs f ma) σ H Q) : tA g W ma σ H fun vs H1 => r vs H1 Q := by
  obtain ⟨F, e, M, RS, q⟩ := q
  exact ⟨F, e, M, RS, q.bind fun x M1 F1 H1 v e1 g1 R1 rx q1 => hs F1 M1 σ H1 W.w x v Q R1 rx q1⟩
theorem small {n : Nat} (h : n ≤ 1000) : n ≤ sizeLine := Nat.le_trans h (by decide)
theorem de_tup {x1} (h : PA X es (tA g W ma)) : PE X (.Tuple es x1 pos) (tD g W (eTup ma)) :=
  pe_imp (pe_tup h) fun σ H Q q => args_imp (r := fun xs H1 Q => xs.length ≤ sizeLine ∧ ∀ p, H1 p = none → Q (.ref p) (upd H1 p (.tup xs))) (fun F M σ H W ds vs Q R r q => by
    split at q
    · rename_i hl
      refine ⟨small (by rw [← r.length]; exact hl), fun p hp => ?_⟩
      obtain ⟨g1, R1⟩ := R.still (o := .tup vs) hp
      exact q.ok g1 R1 (.tup (SqT.of upd_same) (r.mono g1 R.good))
    · exact q.elim) q
theorem de_lst (h : PA X es (tA g W ma)) : PE X (.List es pos) (tD g W (eLst ma)) :=
  pe_imp (pe_lst h) fun σ H Q q => args_imp (r := fun xs H1 Q => xs.length ≤ sizeLine ∧ ∀ p, H1 p = none → Q (.ref p) (upd H1 p (.lst xs))) (fun F M σ H W ds vs Q R r q => by
    split at q
    · rename_i hl
      refine ⟨small (by rw [← r.length]; exact hl), fun p hp => ?_⟩
      obtain ⟨g1, R1⟩ := R.laid (m := .lst ds) (o := .lst vs) hp fun F' H' gr => .lst (r.mono gr R.good)
      exact q.ok g1 R1 (.ref (by rw [← R.len]; simp))
    · exact q.elim) q
theorem de_fro (h : PA X es (tA g W ma)) : PE X (.List es pos) (tD g W (eFro ma)) :=
  pe_imp (pe_lst h) fun σ H Q q => args_imp (r := fun xs H1 Q => xs.length ≤ sizeLine ∧ ∀ p, H1 p = none → Q (.ref p) (upd H1 p (.lst xs))) (fun F M σ H W ds vs Q R r q => by
    split at q
    · rename_i hl
      refine ⟨small (by rw [← r.length]; exact hl), fun p hp => ?_⟩
      obtain ⟨g1, R1⟩ := R.still (o := .lst vs) hp
      exact q.ok g1 R1 (.fro (.inl ⟨upd_same, R.notin hp⟩) (r.mono g1 R.good))
    · exact q.elim) q
end
end T2
namespace T2
open PySem L2

/-! ### tests -/
def asB (d : D) (M : MH) : Res Bool := match d with
  | .bl b => .ok b M
  | _ => .bad
def bVal (m : EM) : BM := fun e M => (m e M).bind asB
def bAnd (a b : BM) : BM := fun e M => (a e M).bind fun c M1 => if c = true then b e M1 else .ok false M1
def bOr (a b : BM) : BM := fun e M => (a e M).bind fun c M1 => if c = true then .ok true M1 else b e M1
def bNot (a : BM) : BM := fun e M => (a e M).bind fun c M1 => .ok (!c) M1
def eAnd (a b : EM) : EM := fun e M => (a e M).bind fun d M1 => match d with
  | .bl true => b e M1
  | .bl false => .ok (.bl false) M1
  | _ => .bad
def eOr (a b : EM) : EM := fun e M => (a e M).bind fun d M1 => match d with
  | .bl false => b e M1
  | .bl true => .ok (.bl true) M1
  | _ => .bad
def eNot (a : EM) : EM := fun e M => (a e M).bind fun d M1 => match d with
  | .bl b => .ok (.bl (!b)) M1
  | _ => .bad
def eIf (c : BM) (a b : EM) : EM := fun e M => (c e M).bind fun k M1 => if k = true then a e M1 else b e M1
section
variable {X : Cx} {g : Wd} {W : WY} {a b c : Expr} {pos p : Pos} {m1 m2 : EM} {ma : AM} {es : List Expr} {rest : List Expr} {b1 b2 : BM}
theorem asB_post {F : List Addr} {σ : St} {H : Hp} {d : D} {M : MH} {v : V} {Q : Bool → Hp → Prop} (R : RelM g F M H) (r : Rep g F H d v) (q : post g rB W.w F σ H (asB d M) Q) : ∃ k, v = .bl k ∧ Q k H := by
  cases r with
  | bl k => exact ⟨k, rfl, q.here R rfl⟩
  | _ => exact q.elim
theorem val_imp {σ : St} {H : Hp} {Q : Bool → Hp → Prop} (q : tB2 g W (bVal m1) σ H Q) : tD g W m1 σ H fun v H' => ∃ k, v = .bl k ∧ Q k H' := by
  obtain ⟨F, e, M, RS, q⟩ := q
  exact ⟨F, e, M, RS, q.bind fun x M1 F1 H1 v e1 g1 R1 rx q1 => asB_post R1 rx q1⟩
theorem dt_val (h : PE X a (tD g W m1)) (he : ∀ whole, isTrue a X.env whole = (do let v ← whole; standAt a.pos; holding [v] (truthy v)) := by intro _; rfl) : PT X a (tB2 g W (bVal m1)) := pt_imp (pt_val h he) fun σ H Q q => val_imp q
theorem test_imp {f : D → D → MH → Res D} {r : R2} (hs : Sim2 g f r) {σ : St} {H : Hp} {Q : Bool → Hp → Prop} (q : tB2 g W (bVal (eBin f m1 m2)) σ H Q) : tTest (tOp r (tD g W m1) (tD g W m2)) σ H Q := bin_imp hs (val_imp q)
theorem dt_cmp {op : CmpOp} {f : D → D → MH → Res D} {r : R2} (ho : OpR X (compareOp op) r) (hs : Sim2 g f r) (ha : PE X a (tD g W m1)) (hb : PE X b (tD g W m2)) (hm : behindInMarks op b = false) : PT X (.Compare a [op] [b] pos) (tB2 g W (bVal (eBin f m1 m2))) :=
  pt_imp (pt_cmpR ho ha hb hm) fun σ H Q q => test_imp hs q
theorem dw_and1 (ha : PT X a (tB2 g W b1)) : PW X (.BoolOp .And [a] pos) (tB2 g W b1) := pw_and1 ha
theorem dw_or1 (ha : PT X a (tB2 g W b1)) : PW X (.BoolOp .Or [a] pos) (tB2 g W b1) := pw_or1 ha
theorem dw_and (ha : PT X a (tB2 g W b1)) (hb : PW X (.BoolOp .And (b :: rest) pos) (tB2 g W b2)) : PW X (.BoolOp .And (a :: b :: rest) pos) (tB2 g W (bAnd b1 b2)) := pw_imp (pw_and ha hb) fun σ H Q ⟨F, e, M, RS, q⟩ =>
  ⟨F, e, M, RS, q.bind fun x M1 F1 H1 v e1 g1 R1 rx q1 => by
    cases rx
    by_cases h : x = true
    · rw [if_pos h] at q1; rw [if_pos h]; exact ⟨F1, e, M1, RS.up g1 R1, q1⟩
    · rw [if_neg h] at q1; rw [if_neg h]; exact q1.here R1 rfl⟩
theorem dw_or (ha : PT X a (tB2 g W b1)) (hb : PW X (.BoolOp .Or (b :: rest) pos) (tB2 g W b2)) : PW X (.BoolOp .Or (a :: b :: rest) pos) (tB2 g W (bOr b1 b2)) := pw_imp (pw_or ha hb) fun σ H Q ⟨F, e, M, RS, q⟩ =>
  ⟨F, e, M, RS, q.bind fun x M1 F1 H1 v e1 g1 R1 rx q1 => by
    cases rx
    by_cases h : x = true
    · rw [if_pos h] at q1; rw [if_pos h]; exact q1.here R1 rfl
    · rw [if_neg h] at q1; rw [if_neg h]; exact ⟨F1, e, M1, RS.up g1 R1, q1⟩⟩
theorem dt_w (h : PW X a (tB2 g W b1)) : PT X a (tB2 g W b1) := h.pt
theorem dt_not (ha : PT X a (tB2 g W b1)) : PT X (.UnaryOp .Not a pos) (tB2 g W (bNot b1)) := pt_imp (pt_not ha) fun σ H Q ⟨F, e, M, RS, q⟩ =>
  ⟨F, e, M, RS, q.bind fun x M1 F1 H1 v e1 g1 R1 rx q1 => by cases rx; exact q1.here R1 rfl⟩
theorem de_and (ha : PE X a (tD g W m1)) (hb : PE X (.BoolOp .And (b :: rest) pos) (tD g W m2)) : PE X (.BoolOp .And (a :: b :: rest) pos) (tD g W (eAnd m1 m2)) := pe_imp (pe_and ha hb) fun σ H Q ⟨F, e, M, RS, q⟩ =>
  ⟨F, e, M, RS, q.bind fun x M1 F1 H1 v e1 g1 R1 rx q1 => by
    cases rx with
    | bl k =>
      refine ⟨k, rfl, ?_⟩
      cases k with
      | true => exact ⟨F1, e, M1, RS.up g1 R1, q1⟩
      | false => exact q1.here R1 (.bl false)
    | _ => exact q1.elim⟩
theorem de_one {op : BoolOp} (ha : PE X a (tD g W m1)) : PE X (.BoolOp op [a] pos) (tD g W m1) := pe_one ha
theorem de_not (ha : PE X a (tD g W m1)) : PE X (.UnaryOp .Not a pos) (tD g W (eNot m1)) := pe_imp (pe_not ha) fun σ H Q ⟨F, e, M, RS, q⟩ =>
  ⟨F, e, M, RS, q.bind fun x M1 F1 H1 v e1 g1 R1 rx q1 => by
    cases rx with
    | bl k => exact ⟨k, rfl, q1.here R1 (.bl _)⟩
    | _ => exact q1.elim⟩
theorem de_if (hc : PT X c (tB2 g W b1)) (ha : PE X a (tD g W m1)) (hb : PE X b (tD g W m2)) : PE X (.IfExp c a b pos) (tD g W (eIf b1 m1 m2)) := pe_imp (pe_ifExp hc ha hb) fun σ H Q ⟨F, e, M, RS, q⟩ =>
  ⟨F, e, M, RS, q.bind fun x M1 F1 H1 v e1 g1 R1 rx q1 => by
    cases rx
    by_cases h : x = true
    · rw [if_pos h] at q1; rw [if_pos h]; exact ⟨F1, e, M1, RS.up g1 R1, q1⟩
    · rw [if_neg h] at q1; rw [if_neg h]; exact ⟨F1, e, M1, RS.up g1 R1, q1⟩⟩
end

/-! ### statements -/
def sSeq (a b : SM) : SM := fun e M => match a e M with
  | .nx e1 M1 => b e1 M1
  | r => r
def sNil : SM := fun e M => .nx e M
def sSet (i : Nat) (m : EM) : SM := fun e M => (m e M).toS e fun d M1 => .nx (e.set i (some d)) M1
def sRet (m : EM) : SM := fun e M => (m e M).toS e fun d M1 => .rt d M1
def sRetN : SM := fun _ M => .rt .non M
def sDo (m : EM) : SM := fun e M => (m e M).toS e fun _ M1 => .nx e M1
def sIf (c : BM) (a b : SM) : SM := fun e M => (c e M).toSB e fun k M1 => if k = true then a e M1 else b e M1
abbrev TgM := D → Env2 → Option Env2
def tgName (i : Nat) : TgM := fun d e => some (e.set i (some d))
def forV (tg : TgM) (body : SM) : List D → Env2 → MH → SR
  | [], e, M => .nx e M
  | x :: xs, e, M => match tg x e with
    | none => .bad
    | some e1 => match body e1 M with
      | .nx e2 M2 => forV tg body xs e2 M2
      | .ct e2 M2 => forV tg body xs e2 M2
      | .bk e2 M2 => .nx e2 M2
      | .rt d M2 => .rt d M2
      | .ex c ns ds e2 M2 => .ex c ns ds e2 M2
      | .bad => .bad
/-- a list that may change while it is walked: k turns at most -/
def forL (tg : TgM) (body : SM) (n : Nat) : Nat → Nat → Env2 → MH → SR
  | 0, i, e, M => match M[n]? with
    | some (.lst ds) => if ds.length ≤ i then .nx e M else .bad
    | _ => .bad
  | k + 1, i, e, M => match M[n]? with
    | some (.lst ds) => match ds[i]? with
      | none => .nx e M
      | some x => match tg x e with
        | none => .bad
        | some e1 => match body e1 M with
          | .nx e2 M2 => forL tg body n k (i + 1) e2 M2
          | .ct e2 M2 => forL tg body n k (i + 1) e2 M2
          | .bk e2 M2 => .nx e2 M2
          | .rt d M2 => .rt d M2
          | .ex c ns ds e2 M2 => .ex c ns ds e2 M2
          | .bad => .bad
    | _ => .bad
inductive IV where
  | vals (ds : List D) | live (n : Nat)
def sForI (it : Env2 → MH → Res IV) (tg : TgM) (body : SM) : SM := fun e M => match it e M with
  | .ok (.vals ds) M1 => forV tg body ds e M1
  | .ok (.live n) M1 => match M1[n]? with
    | some (.lst ds) => forL tg body n ds.length 0 e M1
    | _ => .bad
  | .exc c ns ds M1 => .ex c ns ds e M1
  | .bad => .bad
/-- what a for walks: a tuple, a list -/
def ivOf (d : D) (M : MH) : Res IV := match d with
  | .tup ds => .ok (.vals ds) M
  | .fro ds => .ok (.vals ds) M
  | .ref n => .ok (.live n) M
  | _ => .bad
def iSeq (m : EM) : Env2 → MH → Res IV := fun e M => (m e M).bind ivOf
def rangeD (lo : Int) (n : Nat) : List D := (List.range n).map fun i => .int (lo + (i : Nat))
def iRange1 (a : EM) : Env2 → MH → Res IV := fun e M => (a e M).bind fun d M1 => match d with
  | .int j => if -(2 ^ 62) ≤ j ∧ j < 2 ^ 62 then .ok (.vals (rangeD 0 j.toNat)) M1 else .bad
  | _ => .bad
def iRange2 (a b : EM) : Env2 → MH → Res IV := fun e M => (a e M).bind fun d M1 => (b e M1).bind fun d2 M2 => match d, d2 with
  | .int i, .int j => if -(2 ^ 62) ≤ i ∧ i < 2 ^ 62 ∧ -(2 ^ 62) ≤ j ∧ j < 2 ^ 62 then .ok (.vals (rangeD i (j - i).toNat)) M2 else .bad
  | _, _ => .bad
section
variable {X : Cx} {g : Wd} {W : WY} {a b c : Expr} {pos p : Pos} {m1 m2 : EM} {ma : AM} {es : List Expr} {b1 : BM} {s1 s2 : SM} {st : Stmt} {sts : List Stmt}
theorem ds_nil : PSs X [] (tS g W sNil) := pss_imp pss_nil fun E σ H ⟨F, e, M, RS, q⟩ => q F H σ .same RS.m RS.e RS.x
theorem seq_imp {E : Ends} {σ : St} {H : Hp} (h : tS g W (sSeq s1 s2) E σ H) : tSeq (tS g W s1) (tS g W s2) E σ H := by
  obtain ⟨F, e, M, RS, q⟩ := h
  refine ⟨F, e, M, RS, ?_⟩
  unfold sSeq at q
  cases h : s1 e M with
  | nx e1 M1 =>
    rw [h] at q
    exact fun F1 H1 σ1 g1 R1 E1 X1 => ⟨F1, e1, M1, ⟨R1, E1, X1, RS.y.mono g1 RS.m.good⟩, q.up g1⟩
  | rt d M1 => rw [h] at q; exact q
  | bk e1 M1 => rw [h] at q; exact q
  | ct e1 M1 => rw [h] at q; exact q
  | ex c ns ds e1 M1 => rw [h] at q; exact q
  | bad => rw [h] at q; exact q
theorem ds_cons (h1 : PS X st (tS g W s1)) (h2 : PSs X sts (tS g W s2)) : PSs X (st :: sts) (tS g W (sSeq s1 s2)) := pss_imp (pss_cons h1 h2) fun E σ H h => seq_imp h
theorem ds_one (h1 : PS X st (tS g W s1)) : PSs X [st] (tS g W s1) := pss_one h1
theorem ds_set {i : Nat} {x : Str} {pos' : Pos} (hN : X.N.Nodup) (ha : PE X a (tD g W m1)) (hpin : ∀ p ∈ W.p.xs, i ≠ p.1 := by intro p h; first | exact absurd h (by simp) | (simp at h; subst h; decide)) (hi : X.N[i]? = some x := by rfl) (hx : Loc X.env.scope x := by first | exact Or.inl rfl | exact Or.inr rfl) (hs : swapsWith a (some (.Name x pos')) pos.line X.env = pure false := by rfl)
    (hf : X.fn x = true ∨ X.env.scope.names.lookup x = some .local := by first | exact .inl rfl | exact .inr rfl | assumption) : PS X (.Assign [.Name x pos'] a pos) (tS g W (sSet i m1)) :=
  ps_imp (ps_set hN hi hx ha hs hf) fun E σ H ⟨F, e, M, RS, q⟩ => ⟨F, e, M, RS, q.step RS fun d M1 F1 H1 v _ g1 R1 r q1 => q1 F1 H1 _ .same R1 ((RS.up g1 R1).e.set r i) (RS.x.set hpin)⟩
theorem ds_ret (ha : PE X a (tD g W m1)) : PS X (.Return (some a) pos) (tS g W (sRet m1)) := ps_imp (ps_ret ha) fun E σ H ⟨F, e, M, RS, q⟩ => ⟨F, e, M, RS, q.step RS fun d M1 F1 H1 v _ g1 R1 r q1 => q1 F1 H1 _ .same R1 r⟩
theorem ds_do (ha : PE X a (tD g W m1)) (hs : swapsWith a none pos.line X.env = pure false := by rfl) : PS X (.Expr a pos) (tS g W (sDo m1)) := ps_imp (ps_expr ha hs) fun E σ H ⟨F, e, M, RS, q⟩ => ⟨F, e, M, RS, q.step RS fun d M1 F1 H1 v _ g1 R1 r q1 => q1 F1 H1 _ .same R1 (RS.up g1 R1).e RS.x⟩
theorem ds_if {l1 l2 : List Stmt} (hc : PT X c (tB2 g W b1)) (h1 : PSs X l1 (tS g W s1)) (h2 : PSs X l2 (tS g W s2)) : PS X (.If c l1 l2 pos) (tS g W (sIf b1 s1 s2)) := ps_imp (ps_if hc h1 h2) fun E σ H ⟨F, e, M, RS, q⟩ =>
  ⟨F, e, M, RS, q.stepB RS fun k M1 F1 H1 _ g1 R1 q1 => by
    by_cases h : k = true
    · rw [if_pos h] at q1; rw [if_pos h]; exact ⟨F1, e, M1, RS.up g1 R1, q1⟩
    · rw [if_neg h] at q1; rw [if_neg h]; exact ⟨F1, e, M1, RS.up g1 R1, q1⟩⟩
/-! ### for -/
def TgSim (g : Wd) (tg : TgM) (gt : TG) : Prop := ∀ (F : List Addr) (M : MH) (e e1 : Env2) (σ : St) (H : Hp) (x : D) (v : V) (Q : St → Hp → Prop), RelM g F M H → EnvR g F H e σ → Rep g F H x v → tg x e = some e1 → (∀ σ1, EnvR g F H e1 σ1 → Q σ1 H) → gt v σ H Q
theorem tgName_sim (i : Nat) : TgSim g (tgName i) (gName i) := fun F M e e1 σ H x v Q RM RE r h k => by
  unfold tgName at h; cases h
  exact k _ (RE.set r i)
structure ItV (g : Wd) (J : It) (F : List Addr) (H : Hp) (ds : List D) : Prop where
  go : ∀ F' H' (i : Nat), Grow F H F' H' → i < ds.length → J.go i H'
  yld : ∀ F' H' (i : Nat) x H2, Grow F H F' H' → i < ds.length → J.yld i H' x H2 → (∀ b o, H' b = some o → H2 b = some o) ∧ ∃ d, ds[i]? = some d ∧ Rep g F' H2 d x
  stop : ∀ F' H' (i : Nat), Grow F H F' H' → ds.length ≤ i → J.stop i H'
theorem drop_cons' {A : Type} {l : List A} {i : Nat} {x : A} (h : l[i]? = some x) : l.drop i = x :: l.drop (i + 1) := by
  have hl := (List.getElem?_eq_some_iff.mp h)
  obtain ⟨h1, h2⟩ := hl
  rw [List.drop_eq_getElem_cons h1, h2]
theorem forV_run {J : It} {F : List Addr} {e : Env2} {M : MH} {σ : St} {H : Hp} {ds : List D} {tg : TgM} {gt : TG} {E : Ends} (px : ∀ σ, Pin W.p.xs σ) (RS : RelS g W.p F e M σ H) (it : ItV g J F H ds) (ts : TgSim g tg gt) (q : postS g W F H (forV tg s1 ds e M) E) :
    ∃ W1 : Nat → Nat → St → Hp → Prop, (∃ m, W1 0 m σ H) ∧ ∀ i m σ H, W1 i m σ H →
      (J.stop i H ∧ E.nx σ H) ∨ (J.go i H ∧ ∃ N : St → Hp → Prop, (∀ σ' H', N σ' H' → ∃ m', m' < m ∧ W1 (i + 1) m' σ' H') ∧ ∀ x H', J.yld i H x H' → gt x σ H' fun σ2 H2 => tS g W s1 { E with nx := N, ct := N, bk := E.nx } σ2 H2) := by
  refine ⟨fun i m σ' H' => i + m = ds.length ∧ ∃ F' e' M', Grow F H F' H' ∧ RelS g W.p F' e' M' σ' H' ∧ postS g W F' H' (forV tg s1 (ds.drop i) e' M') E, ⟨ds.length, by simp, F, e, M, .same, RS, by simpa using q⟩, ?_⟩
  rintro i m σ1 H1 ⟨hm, F1, e1, M1, g1, RS1, q1⟩
  by_cases hi : i < ds.length
  · refine .inr ⟨it.go F1 H1 i g1 hi, fun σ' H' => ∃ F' e' M', Grow F H F' H' ∧ RelS g W.p F' e' M' σ' H' ∧ postS g W F' H' (forV tg s1 (ds.drop (i + 1)) e' M') E, fun σ' H' ⟨F', e', M', z1, z2, z3⟩ => ⟨m - 1, by omega, by omega, F', e', M', z1, z2, z3⟩, fun x H2 hy => ?_⟩
    obtain ⟨hk, d, hd, r⟩ := it.yld F1 H1 i x H2 g1 hi hy
    obtain ⟨gk, Rk⟩ := RS1.m.keep hk
    have Yk := RS1.y.mono gk RS1.m.good
    replace q1 := q1.up gk
    replace g1 := g1.trans gk
    rw [drop_cons' hd] at q1
    unfold forV at q1
    cases ht : tg d e1 with
    | none => rw [ht] at q1; exact q1.elim
    | some e2 =>
      rw [ht] at q1
      refine ts F1 M1 e1 e2 σ1 _ d x _ Rk (RS1.e.mono gk RS1.m.good) r ht fun σ2 E2 => ⟨F1, e2, M1, ⟨Rk, E2, px _, Yk⟩, ?_⟩
      dsimp only at q1
      cases hb : s1 e2 M1 with
      | nx e3 M3 => rw [hb] at q1; exact fun F3 H3 σ3 g3 R3 E3 X3 => ⟨F3, e3, M3, g1.trans g3, ⟨R3, E3, X3, Yk.mono g3 Rk.good⟩, q1.up g3⟩
      | ct e3 M3 => rw [hb] at q1; exact fun F3 H3 σ3 g3 R3 E3 X3 => ⟨F3, e3, M3, g1.trans g3, ⟨R3, E3, X3, Yk.mono g3 Rk.good⟩, q1.up g3⟩
      | bk e3 M3 => rw [hb] at q1; exact q1
      | rt d3 M3 => rw [hb] at q1; exact q1
      | ex c ns ds e3 M3 => rw [hb] at q1; exact q1
      | bad => rw [hb] at q1; exact q1
  · have hi' : ds.length ≤ i := Nat.le_of_not_lt hi
    rw [List.drop_eq_nil_of_le hi'] at q1
    exact .inl ⟨it.stop F1 H1 i g1 hi', q1 F1 H1 σ1 .same RS1.m RS1.e RS1.x⟩
theorem lst_at {F : List Addr} {M : MH} {H : Hp} {n : Nat} {a : Addr} {ds : List D} (R : RelM g F M H) (hn : F[n]? = some a) (hm : M[n]? = some (.lst ds)) : ∃ vs, H a = some (.lst vs) ∧ Reps g F H ds vs := by
  obtain ⟨h, e, r⟩ := R.obj n a _ hn hm
  cases r with | lst r => exact ⟨_, e, r⟩
end
end T2
namespace T2
open PySem L2

section
variable {X : Cx} {g : Wd} {W : WY} {a b c : Expr} {pos p : Pos} {m1 m2 : EM} {ma : AM} {es : List Expr} {b1 : BM} {s1 s2 : SM} {st : Stmt} {sts : List Stmt}
theorem forL_run {F : List Addr} {e : Env2} {M : MH} {σ : St} {H : Hp} {n : Nat} {ad : Addr} {ds0 : List D} {tg : TgM} {gt : TG} {E : Ends} (px : ∀ σ, Pin W.p.xs σ) (RS : RelS g W.p F e M σ H) (hn : F[n]? = some ad) (ts : TgSim g tg gt) (q : postS g W F H (forL tg s1 n ds0.length 0 e M) E) :
    ∃ W1 : Nat → Nat → St → Hp → Prop, (∃ m, W1 0 m σ H) ∧ ∀ i m σ H, W1 i m σ H →
      ((Itl g.K ad).stop i H ∧ E.nx σ H) ∨ ((Itl g.K ad).go i H ∧ ∃ N : St → Hp → Prop, (∀ σ' H', N σ' H' → ∃ m', m' < m ∧ W1 (i + 1) m' σ' H') ∧ ∀ x H', (Itl g.K ad).yld i H x H' → gt x σ H' fun σ2 H2 => tS g W s1 { E with nx := N, ct := N, bk := E.nx } σ2 H2) := by
  refine ⟨fun i m σ' H' => ∃ F' e' M', Grow F H F' H' ∧ RelS g W.p F' e' M' σ' H' ∧ postS g W F' H' (forL tg s1 n m i e' M') E, ⟨ds0.length, F, e, M, .same, RS, q⟩, ?_⟩
  rintro i m σ1 H1 ⟨F1, e1, M1, g1, RS1, q1⟩
  have hn1 : F1[n]? = some ad := pre_get g1.pre hn
  cases m with
  | zero =>
    unfold forL at q1
    split at q1
    · rename_i ds hd
      obtain ⟨vs, hv, r⟩ := lst_at RS1.m hn1 hd
      split at q1
      · rename_i hl
        exact .inl ⟨⟨vs, SqL.of hv, by rw [← r.length]; exact hl⟩, q1 F1 H1 σ1 .same RS1.m RS1.e RS1.x⟩
      · exact q1.elim
    · exact q1.elim
  | succ m =>
    unfold forL at q1
    split at q1
    · rename_i ds hd
      obtain ⟨vs, hv, r⟩ := lst_at RS1.m hn1 hd
      split at q1
      · rename_i hx
        have hl : vs.length ≤ i := by rw [← r.length]; exact List.getElem?_eq_none_iff.mp hx
        exact .inl ⟨⟨vs, SqL.of hv, hl⟩, q1 F1 H1 σ1 .same RS1.m RS1.e RS1.x⟩
      · rename_i d hx
        obtain ⟨v, hvx, rv⟩ := r.get hx
        refine .inr ⟨⟨vs, v, SqL.of hv, hvx⟩, fun σ' H' => ∃ F' e' M', Grow F H F' H' ∧ RelS g W.p F' e' M' σ' H' ∧ postS g W F' H' (forL tg s1 n m (i + 1) e' M') E, fun σ' H' z => ⟨m, Nat.lt_succ_self m, z⟩, ?_⟩
        rintro x H2 ⟨rfl, hy⟩
        have ex : v = x := Option.some.inj (hvx.symm.trans (hy vs (SqL.of hv)))
        subst ex
        cases ht : tg d e1 with
        | none => rw [ht] at q1; exact q1.elim
        | some e2 =>
          rw [ht] at q1
          refine ts F1 M1 e1 e2 σ1 _ d v _ RS1.m RS1.e rv ht fun σ2 E2 => ⟨F1, e2, M1, ⟨RS1.m, E2, px _, RS1.y⟩, ?_⟩
          dsimp only at q1
          cases hb : s1 e2 M1 with
          | nx e3 M3 => rw [hb] at q1; exact fun F3 H3 σ3 g3 R3 E3 X3 => ⟨F3, e3, M3, g1.trans g3, ⟨R3, E3, X3, RS1.y.mono g3 RS1.m.good⟩, q1.up g3⟩
          | ct e3 M3 => rw [hb] at q1; exact fun F3 H3 σ3 g3 R3 E3 X3 => ⟨F3, e3, M3, g1.trans g3, ⟨R3, E3, X3, RS1.y.mono g3 RS1.m.good⟩, q1.up g3⟩
          | bk e3 M3 => rw [hb] at q1; exact q1
          | rt d3 M3 => rw [hb] at q1; exact q1
          | ex c ns ds e3 M3 => rw [hb] at q1; exact q1
          | bad => rw [hb] at q1; exact q1
    · exact q1.elim
theorem itV_tup {F : List Addr} {M : MH} {H : Hp} {ad : Addr} {ds : List D} {vs : List V} (R : RelM g F M H) (h : SqT g.K H ad vs) (r : Reps g F H ds vs) : ItV g (Itt g.K ad) F H ds where
  go := fun F' H' i gr hi => by
    have h' := sqT_mono gr R.good h
    have hv : i < vs.length := by rw [← r.length]; exact hi
    exact ⟨vs, vs[i], h', List.getElem?_eq_getElem hv⟩
  yld := fun F' H' i x H2 gr hi hy => by
    obtain ⟨rfl, hy⟩ := hy
    have hx := hy vs (sqT_mono gr R.good h)
    obtain ⟨v, hv, rv⟩ := (r.mono gr R.good).get (List.getElem?_eq_getElem hi)
    rw [hv] at hx; cases hx
    exact ⟨fun _ _ z => z, _, List.getElem?_eq_getElem hi, rv⟩
  stop := fun F' H' i gr hi => ⟨vs, sqT_mono gr R.good h, by rw [← r.length]; exact hi⟩
theorem itV_fro {F : List Addr} {M : MH} {H : Hp} {ad : Addr} {ds : List D} {vs : List V} (R : RelM g F M H) (h : FroL g F H ad vs) (r : Reps g F H ds vs) : ItV g (Itl g.K ad) F H ds where
  go := fun F' H' i gr hi => by
    have h' := (h.mono gr R.good).sq
    have hv : i < vs.length := by rw [← r.length]; exact hi
    exact ⟨vs, vs[i], h', List.getElem?_eq_getElem hv⟩
  yld := fun F' H' i x H2 gr hi hy => by
    obtain ⟨rfl, hy⟩ := hy
    have hx := hy vs (h.mono gr R.good).sq
    obtain ⟨v, hv, rv⟩ := (r.mono gr R.good).get (List.getElem?_eq_getElem hi)
    rw [hv] at hx; cases hx
    exact ⟨fun _ _ z => z, _, List.getElem?_eq_getElem hi, rv⟩
  stop := fun F' H' i gr hi => ⟨vs, (h.mono gr R.good).sq, by rw [← r.length]; exact hi⟩
theorem rangeD_len (lo : Int) (n : Nat) : (rangeD lo n).length = n := by unfold rangeD; simp
theorem rangeD_get {lo : Int} {n i : Nat} (h : i < n) : (rangeD lo n)[i]? = some (.int (lo + (i : Nat))) := by unfold rangeD; simp [h]
theorem itV_rng {F : List Addr} {H : Hp} (lo : Int) (n : Nat) : ItV g (Itr lo n) F H (rangeD lo n) where
  go := fun F' H' i gr hi => by rw [rangeD_len] at hi; exact hi
  yld := fun F' H' i x H2 gr hi hy => by
    rw [rangeD_len] at hi
    obtain ⟨rfl, rfl⟩ := hy
    exact ⟨fun _ _ z => z, _, rangeD_get hi, .int _⟩
  stop := fun F' H' i gr hi => by rw [rangeD_len] at hi; exact hi
theorem pi_or {tg iter : Expr} {w1 w2 : TI} (h1 : PI X tg iter w1) (h2 : PI X tg iter w2) : PI X tg iter (fun σ H R => w1 σ H R ∨ w2 σ H R) := ⟨fun pins s σ H R I q => q.elim (h1.run pins s σ H R I) (h2.run pins s σ H R I)⟩
/-- a reading of what is walked, simulated: at the loop and at a comprehension -/
def ItSim (g : Wd) (W : WY) (it : Env2 → MH → Res IV) (wi : TI) : Prop := ∀ (σ : St) (H : Hp) (F : List Addr) (e : Env2) (M : MH) (R : It → Hp → Prop), RelS g W.p F e M σ H →
  (match it e M with
    | .ok (.vals ds) M1 => ∀ F1 H1 J, Grow F H F1 H1 → RelM g F1 M1 H1 → ItV g J F1 H1 ds → R J H1
    | .ok (.live n) M1 => ∃ ds, M1[n]? = some (.lst ds) ∧ ∀ F1 H1 ad, Grow F H F1 H1 → RelM g F1 M1 H1 → F1[n]? = some ad → R (Itl g.K ad) H1
    | .exc c ns ds M1 => ∀ F1 H1 d, Grow F H F1 H1 → RelM g F1 M1 H1 → XRep g F1 H1 ns ds d → W.w (.ref (g.ca c)) d σ H1
    | .bad => False) → wi σ H R
theorem itSim_seq (hK : g.K = X.K) : ItSim g W (iSeq m1) (fun σ H R => iList X.K (tD g W m1) σ H R ∨ iTup X.K (tD g W m1) σ H R) := fun σ H F e M R RS q => by
  unfold iSeq at q
  cases hm : m1 e M with
  | ok d M1 =>
    rw [hm] at q
    cases d with
    | tup ds =>
      refine .inr ⟨F, e, M, RS, ?_⟩
      rw [hm]
      intro F1 H1 v g1 R1 r
      cases r with | tup h r => exact ⟨_, rfl, ⟨_, by rw [← hK]; exact h⟩, by rw [← hK]; exact q F1 H1 _ g1 R1 (itV_tup R1 h r)⟩
    | fro ds =>
      refine .inl ⟨F, e, M, RS, ?_⟩
      rw [hm]
      intro F1 H1 v g1 R1 r
      cases r with | fro h r => exact ⟨_, rfl, ⟨_, by rw [← hK]; exact h.sq⟩, by rw [← hK]; exact q F1 H1 _ g1 R1 (itV_fro R1 h r)⟩
    | ref n =>
      refine .inl ⟨F, e, M, RS, ?_⟩
      rw [hm]
      intro F1 H1 v g1 R1 r
      obtain ⟨ds, hd, q⟩ := q
      cases r with | ref h =>
        obtain ⟨vs, hv, _⟩ := lst_at R1 h hd
        exact ⟨_, rfl, ⟨vs, SqL.of hv⟩, by rw [← hK]; exact q F1 H1 _ g1 R1 h⟩
    | _ => exact q.elim
  | exc c ns ds M1 =>
    rw [hm] at q
    exact .inl ⟨F, e, M, RS, by rw [hm]; exact q⟩
  | bad => rw [hm] at q; exact q.elim
theorem itSim_range1 : ItSim g W (iRange1 m1) (iRng1 (tA g W (eCons m1 eNil))) := fun σ H F e M R RS q => by
  refine ⟨F, e, M, RS, ?_⟩
  unfold iRange1 at q
  unfold eCons eNil
  cases hm : m1 e M with
  | ok d M1 =>
    rw [hm] at q
    intro F1 H1 vs g1 R1 r
    cases r with | cons r t =>
      cases t
      cases r with
      | int j =>
        dsimp only [Res.bind] at q
        by_cases hz : -(2 ^ 62) ≤ j ∧ j < 2 ^ 62
        · rw [if_pos hz] at q
          exact ⟨j, rfl, hz.1, hz.2, q F1 H1 _ g1 R1 (itV_rng 0 _)⟩
        · rw [if_neg hz] at q
          exact q.elim
      | _ => exact q.elim
  | exc c ns ds M1 => rw [hm] at q; exact q
  | bad => rw [hm] at q; exact q.elim
theorem ds_for {tgE iter : Expr} {wi : TI} {it : Env2 → MH → Res IV} {gt : TG} {tg : TgM} (px : ∀ σ, Pin W.p.xs σ) (po : PassesOwn (model X.prog X.w) X.A X.env X.xe) (hc : X.calm = true) (hi : PI X tgE iter wi) (hsim : ItSim g W it wi) (hg : PG X tgE gt) (ts : TgSim g tg gt) (hb : PSs X sts (tS g W s1))
    (hs : ∀ x, foldedSetIterable iter X.env x = pure x := by intro _; rfl) : PS X (.For tgE iter sts [] pos) (tS g W (sForI it tg s1)) :=
  ps_imp (ps_for po hc hi hg hb hs) fun E σ H ⟨F, e, M, RS, q⟩ => hsim σ H F e M _ RS (by
    unfold sForI at q
    cases hm : it e M with
    | ok iv M1 =>
      rw [hm] at q
      cases iv with
      | vals ds => exact fun F1 H1 J g1 R1 itv => forV_run px (RS.up g1 R1) itv ts (q.up g1)
      | live n =>
        dsimp only at q
        split at q
        · rename_i ds hd
          exact ⟨ds, hd, fun F1 H1 ad g1 R1 hn => forL_run px (RS.up g1 R1) hn ts (q.up g1)⟩
        · exact q.elim
    | exc c ns ds M1 => rw [hm] at q; exact fun F1 H1 d g1 R1 x => q F1 H1 σ d g1 R1 (RS.up g1 R1).e x
    | bad => rw [hm] at q; exact q)
end

/-! ### a def -/
def spD (g : Wd) (n : Nat) (f : List D → MH → Res D) : Sp := fun vs H Q E => vs.length = n ∧ ∃ F M ds, RelM g F M H ∧ Reps g F H ds vs ∧ post g rD (fun c d _ H => E c d H) F [] H (f ds M) Q
def env0 (n : Nat) (ds : List D) : Env2 := ds.map some ++ List.replicate (n - ds.length) none
def toR (r : SR) : Res D := match r with
  | .rt d M => .ok d M
  | .nx _ M => .ok .non M
  | .ex c ns xs _ M => .exc c ns xs M
  | _ => .bad
def fnB (n : Nat) (b : SM) : List D → MH → Res D := fun ds M => toR (b (env0 n ds) M)
theorem envR_nones {g : Wd} {F : List Addr} {H : Hp} : ∀ n : Nat, EnvR g F H (List.replicate n none) (List.replicate n none)
  | 0 => .nil
  | n + 1 => .cons .none (envR_nones n)
theorem envR_start {g : Wd} {F : List Addr} {H : Hp} {N : List Str} : ∀ {ds : List D} {vs : List V}, Reps g F H ds vs → ∀ n : Nat, EnvR g F H (ds.map some ++ List.replicate n none) (vs.map some ++ List.replicate n none)
  | _, _, .nil, n => envR_nones n
  | _, _, .cons h t, n => .cons (.some h) (envR_start (N := N) t n)
theorem body_run {g : Wd} {E : XK} {N : List Str} {b : SM} {vs : List V} {H : Hp} {Q : VK} {n : Nat} (h : spD g n (fnB N.length b) vs H Q E) : tS g ⟨fun c d _ H => E c d H, ⟨[], []⟩⟩ b { nx := fun _ H' => Q .non H', rt := Q } (L2.start N vs) H := by
  obtain ⟨_, F, M, ds, R, r, q⟩ := h
  refine ⟨F, env0 N.length ds, M, ⟨R, ?_, pin_nil, xrs_nil⟩, ?_⟩
  · have := envR_start (N := N) r (N.length - ds.length)
    unfold L2.start env0
    rw [← r.length]
    exact this
  · unfold fnB at q
    cases hb : b (env0 N.length ds) M with
    | nx e M1 => rw [hb] at q; exact fun F1 H1 σ1 g1 R1 _ _ => q F1 H1 _ g1 R1 .non
    | rt d M1 => rw [hb] at q; exact q
    | ex c ns xs e M1 => rw [hb] at q; exact fun F1 H1 σ1 d g1 R1 _ x => q F1 H1 d g1 R1 x
    | bk e M1 => rw [hb] at q; exact q.elim
    | ct e M1 => rw [hb] at q; exact q.elim
    | bad => rw [hb] at q; exact q.elim
theorem fn_ok {P : Program} {w : World} {K : PySem.W.Frag} {mg : Str → Option Value} {base : Heap} {g : Wd} {x qual : Str} {st : Stmt} {f : Addr} {fd : FuncData} {N ps : List Str} {k : Nat} {b : SM} (F : Fun K x qual st f fd) (S : FnScope N ps (defScope st))
    (hbody : ∀ (cdv : Value) (A : Around) (outer : List Env) (s : Shared) (H : Hp) (E : XK), Room k (A.deeper (PyProof.Rows.envOfC qual (defScope st) s.heap.objs.size f cdv)) →
      PSs (cxOf (L2N.CX P w) P w K mg base N qual (defScope st) f cdv A outer s H E) (defBody st) (tS g ⟨fun c d _ H => E c d H, ⟨[], []⟩⟩ b)) : FnOk P w K mg base (L2N.CX P w) (k + 1) f fd ps (spD g ps.length (fnB N.length b)) :=
  by
  obtain ⟨oc, od, kV, doc, pm, an, cdv, ct, osl, rfl, lk, hcd⟩ := F.ex
  exact fn_of lk hcd S (fun vs H Q E h => h.1) fun A outer s H vs Q E hr h => ⟨_, hbody cdv A outer s H E hr, body_run h⟩

/-! ### a def's contract: what is left over may be forgotten -/
mutual
def D.low (k : Nat) : D → Prop
  | .ref n => n < k
  | .tup ds => D.lows k ds
  | .fro ds => D.lows k ds
  | .ins _ _ ds => D.lows k ds
  | _ => True
def D.lows (k : Nat) : List D → Prop
  | [] => True
  | d :: ds => D.low k d ∧ D.lows k ds
end
def MO.low (k : Nat) : MO → Prop
  | .lst ds => D.lows k ds
  | .dk _ ds => D.lows k ds
  | .dt _ ds => D.lows k ds
  | .ob _ _ ds => D.lows k ds
  | .lk _ ds => D.lows k ds
  | .lt _ ds => D.lows k ds
def MLow (M : MH) : Prop := ∀ o ∈ M, MO.low M.length o
section
variable {g : Wd} {F F' : List Addr} {H : Hp} {M : MH}
mutual
theorem Rep.low : ∀ {d : D} {v : V}, Rep g F H d v → D.low F.length d
  | _, _, .non => trivial
  | _, _, .bl _ => trivial
  | _, _, .int _ => trivial
  | _, _, .str _ => trivial
  | _, _, .ty _ => trivial
  | _, _, .cls _ => trivial
  | _, _, .obj _ => trivial
  | _, _, .tk _ => trivial
  | _, _, .ref h => (List.getElem?_eq_some_iff.mp h).1
  | _, _, .tup _ r => by unfold D.low; exact Reps.low r
  | _, _, .fro _ r => by unfold D.low; exact Reps.low r
  | _, _, .ins _ _ _ r => by unfold D.low; exact Reps.low r
theorem Reps.low : ∀ {ds : List D} {vs : List V}, Reps g F H ds vs → D.lows F.length ds
  | _, _, .nil => trivial
  | _, _, .cons h t => ⟨Rep.low h, Reps.low t⟩
end
theorem FroL.cut {k : Nat} {ad : Addr} {vs : List V} (h : FroL g F H ad vs) : FroL g (F.take k) H ad vs := by
  rcases h with ⟨h, n⟩ | h | h
  · exact .inl ⟨h, fun z => n (List.mem_of_mem_take z)⟩
  · exact .inr (.inl h)
  · exact .inr (.inr h)
mutual
theorem Rep.cut {k : Nat} : ∀ {d : D} {v : V}, Rep g F H d v → D.low k d → Rep g (F.take k) H d v
  | _, _, .non, _ => .non
  | _, _, .bl b, _ => .bl b
  | _, _, .int i, _ => .int i
  | _, _, .str x, _ => .str x
  | _, _, .ty n, _ => .ty n
  | _, _, .cls c, _ => .cls c
  | _, _, .obj a, _ => .obj a
  | _, _, .tk h, _ => .tk h
  | _, _, .ref h, l => .ref (by rw [List.getElem?_take_of_lt (by unfold D.low at l; exact l)]; exact h)
  | _, _, .tup h r, l => .tup h (Reps.cut r (by unfold D.low at l; exact l))
  | _, _, .fro h r, l => .fro h.cut (Reps.cut r (by unfold D.low at l; exact l))
  | _, _, .ins h hn hl r, l => .ins h (fun z => hn (List.mem_of_mem_take z)) hl (Reps.cut r (by unfold D.low at l; exact l))
theorem Reps.cut {k : Nat} : ∀ {ds : List D} {vs : List V}, Reps g F H ds vs → D.lows k ds → Reps g (F.take k) H ds vs
  | _, _, .nil, _ => .nil
  | _, _, .cons h t, l => .cons (Rep.cut h l.1) (Reps.cut t l.2)
end
theorem ObjR.cut {k : Nat} {o : MO} {h : HO} (r : ObjR g F H o h) (l : MO.low k o) : ObjR g (F.take k) H o h := by
  cases r with
  | lst r => exact .lst (r.cut l)
  | dk hl r => exact .dk hl (r.cut l)
  | dt hl r => exact .dt hl (r.cut l)
  | ob hl r => exact .ob hl (r.cut l)
  | lk hl r => exact .lk hl (r.cut l)
  | lt hl r => exact .lt hl (r.cut l)
theorem RelM.low (R : RelM g F M H) : MLow M := fun o ho => by
  obtain ⟨n, hn⟩ := List.getElem?_of_mem ho
  have hl : n < F.length := by rw [R.len]; exact (List.getElem?_eq_some_iff.mp hn).1
  obtain ⟨h, _, r⟩ := R.obj n _ o (List.getElem?_eq_getElem hl) hn
  rw [← R.len]
  cases r with
  | lst r => exact r.low
  | dk hl r => exact r.low
  | dt hl r => exact r.low
  | ob hl r => exact r.low
  | lk hl r => exact r.low
  | lt hl r => exact r.low
theorem RelM.cut {G : MH} (R : RelM g F (M ++ G) H) (l : MLow M) : RelM g (F.take M.length) M H := by
  have hF : M.length ≤ F.length := by rw [R.len]; simp
  refine ⟨by simp [hF], R.nd.sublist (List.take_sublist _ _), fun n a o e m => ?_⟩
  have hn : n < M.length := (List.getElem?_eq_some_iff.mp m).1
  rw [List.getElem?_take_of_lt hn] at e
  obtain ⟨h, e2, r⟩ := R.obj n a o e (by rw [List.getElem?_append_left hn]; exact m)
  exact ⟨h, e2, r.cut (l o (List.mem_of_getElem? m))⟩
theorem Grow.cut {H0 : Hp} {F0 : List Addr} {k : Nat} (gr : Grow F0 H0 F H) (h : F0.length ≤ k) : Grow F0 H0 (F.take k) H := by
  obtain ⟨⟨t, rfl⟩, kp, nw, lk⟩ := gr
  refine ⟨?_, kp, fun b hb => nw b (List.mem_of_mem_take hb), lk⟩
  rw [List.take_append, List.take_of_length_le h]
  exact List.prefix_append _ _
end
/-- r' is what is promised of r; what r has made beyond may be forgotten -/
def Refines (M0 : MH) (r r' : Res D) : Prop := match r' with
  | .bad => True
  | .ok d M => r = .ok d M ∨ (∃ G, r = .ok d (M ++ G) ∧ M0.length ≤ M.length ∧ D.low M.length d ∧ MLow M)
  | .exc c ns ds M => r = .exc c ns ds M ∨ (∃ G, r = .exc c ns ds (M ++ G) ∧ M0.length ≤ M.length ∧ D.lows M.length ds ∧ MLow M)
theorem XRep.cut {g : Wd} {F : List Addr} {H : Hp} {k : Nat} {ns : List Str} {ds : List D} {d : Option Addr} (x : XRep g F H ns ds d) (l : D.lows k ds) : XRep g (F.take k) H ns ds d := by
  cases x with
  | no => exact .no
  | so h hne hl r => exact .so h hne hl (r.cut l)
theorem Refines.post {g : Wd} {W : WX} {F : List Addr} {M0 : MH} {σ : St} {H : Hp} {r r' : Res D} {Q : VK} (R : RelM g F M0 H) (h : Refines M0 r r') (q : post g rD W F σ H r' Q) : post g rD W F σ H r Q := by
  cases r' with
  | bad => exact q.elim
  | ok d M =>
    rcases h with rfl | ⟨G, rfl, hl, ld, lm⟩
    · exact q
    · exact fun F1 H1 v g1 R1 rv => q _ H1 v (g1.cut (by rw [R.len]; exact hl)) (R1.cut lm) (rv.cut ld)
  | exc c ns ds M =>
    rcases h with rfl | ⟨G, rfl, hl, ld, lm⟩
    · exact q
    · exact fun F1 H1 v g1 R1 x => q _ H1 v (g1.cut (by rw [R.len]; exact hl)) (R1.cut lm) (x.cut ld)
/-! ### calls -/
def eCall (n : Nat) (f : List D → MH → Res D) (a : AM) : EM := eArgs (fun ds M => if ds.length = n then f ds M else .bad) a
theorem post_call {g : Wd} {W : WX} {F : List Addr} {σ : St} {H : Hp} {r : Res D} {Q : VK} (q : post g rD W F σ H r Q) : post g rD (fun c d _ H => W c d σ H) F [] H r Q := by
  cases r with
  | ok d M => exact q
  | exc c ns ds M => exact q
  | bad => exact q
section
variable {X : Cx} {g : Wd} {W : WY} {a b c : Expr} {pos p : Pos} {m1 m2 : EM} {ma : AM} {es : List Expr} {k n : Nat} {f : Addr} {fd : FuncData} {ps : List Str} {m : List D → MH → Res D} {x : Str}
theorem call_imp {σ : St} {H : Hp} {Q : VK} (q : tD g W (eCall n m ma) σ H Q) : tA g W ma σ H fun vs H1 => spD g n m vs H1 Q (WE W.w σ) := by
  obtain ⟨F, e, M, RS, q⟩ := q
  refine ⟨F, e, M, RS, q.bind fun ds M1 F1 H1 vs e1 g1 R1 r q1 => ?_⟩
  split at q1
  · rename_i hl
    exact ⟨by rw [← r.length]; exact hl, F1, M1, ds, R1, r, post_call q1⟩
  · exact q1.elim
theorem de_call (G : FnOk X.prog X.w X.K X.mg X.base (L2N.CX X.prog X.w) k f fd ps (spD g n m)) (hr : Room k X.A) (tk : L2N.Takes X W.w) (hm : X.mg x = some (.ref f)) (hk : PySem.W.keepIn X.K (.ref f) = true) (hb : Binds X.K fd ps []) (ha : PA X (a :: es) (tA g W ma)) (hg : Gl X x := by rfl)
    (hdb : (x == ("__debug__" : Str)) = false := by decide) (he : starEach (a :: es) X.env = (false, eval a X.env) :: starEach es X.env := by rfl) (hpl : (backTo pos (starEach es X.env)).any (·.1) = false := by rfl) :
    PE X (.Call (.Name x p) (a :: es) [] pos) (tD g W (eCall n m ma)) :=
  pe_imp (pe_callSD G hr hg hm hk hb .nil (fun σ => L2N.passAt tk σ) ha hdb he hpl) fun σ H Q q => by
    have := call_imp q
    unfold tCallSD
    simpa using this
end
end T2
namespace T2
open PySem L2

/-! ### operations on values -/
/-- the items of a tuple or of a list that stands there -/
def items (M : MH) : D → Option (List D)
  | .tup ds => some ds
  | .fro ds => some ds
  | .ref n => match M[n]? with
    | some (.lst ds) => some ds
    | _ => none
  | _ => none
def mkL (ds : List D) (M : MH) : Res D := .ok (.ref M.length) (M ++ [.lst ds])
def mkF (ds : List D) (M : MH) : Res D := .ok (.fro ds) M
def listItems (M : MH) : D → Option (List D)
  | .fro ds => some ds
  | .ref n => match M[n]? with
    | some (.lst ds) => some ds
    | _ => none
  | _ => none
def big : Nat := 100000
def dAdd (x y : D) (M : MH) : Res D := match x, y with
  | .int i, .int j => .ok (.int (i + j)) M
  | .str a, .str b => if a.length + b.length ≤ big then .ok (.str (a ++ b)) M else .bad
  | .tup xs, .tup ys => if xs.length + ys.length ≤ big then .ok (.tup (xs ++ ys)) M else .bad
  | _, _ => .bad
def dSub (x y : D) (M : MH) : Res D := match x, y with
  | .int i, .int j => .ok (.int (i - j)) M
  | _, _ => .bad
def dMul (x y : D) (M : MH) : Res D := match x, y with
  | .int i, .int j => if (-(2 ^ 64) < i ∧ i < 2 ^ 64) ∨ (-(2 ^ 64) < j ∧ j < 2 ^ 64) then .ok (.int (i * j)) M else .bad
  | _, _ => .bad
def dDiv (x y : D) (M : MH) : Res D := match x, y with
  | .int i, .int j => if 0 < j ∧ j < 1073741824 then .ok (.int (i / j)) M else .bad
  | _, _ => .bad
def dMod (x y : D) (M : MH) : Res D := match x, y with
  | .int i, .int j => if 0 < j then .ok (.int (i % j)) M else .bad
  | _, _ => .bad
def dPow (x y : D) (M : MH) : Res D := match x, y with
  | .int i, .int j => if 0 ≤ j ∧ j ≤ 1000000 ∧ i.natAbs < 2 ^ 64 then .ok (.int (i ^ j.toNat)) M else .bad
  | _, _ => .bad
def dNeg (x : D) (M : MH) : Res D := match x with
  | .int i => .ok (.int (-i)) M
  | _ => .bad
def dCmpI (f : Int → Int → Bool) (x y : D) (M : MH) : Res D := match x, y with
  | .int i, .int j => .ok (.bl (f i j)) M
  | _, _ => .bad
def dLt : D → D → MH → Res D := dCmpI fun i j => decide (i < j)
def dLe : D → D → MH → Res D := dCmpI fun i j => decide (i ≤ j)
def dGt : D → D → MH → Res D := dCmpI fun i j => decide (j < i)
def dGe : D → D → MH → Res D := dCmpI fun i j => decide (j ≤ i)
def isNon : D → Bool
  | .non => true
  | _ => false
def isBl (b : Bool) : D → Bool
  | .bl c => c == b
  | _ => false
def dIs (x y : D) (M : MH) : Res D := match y with
  | .non => .ok (.bl (isNon x)) M
  | .bl b => .ok (.bl (isBl b x)) M
  | _ => .bad
def dIsNot (x y : D) (M : MH) : Res D := match y with
  | .non => .ok (.bl (!isNon x)) M
  | .bl b => .ok (.bl (!isBl b x)) M
  | _ => .bad
mutual
/-- a tree as data; rf tells what stands at a place -/
def toPa (rf : Nat → Option PyData) : D → Option PyData
  | .non => some .none
  | .bl b => some (.bool b)
  | .int i => some (.int i)
  | .str x => some (.str x)
  | .tup ds => (toPas rf ds).map .tuple
  | .fro ds => (toPas rf ds).map .list
  | .ref n => rf n
  | .ty _ => none
  | .cls _ => none
  | .obj _ => none
  | .tk _ => none
  | .ins _ _ _ => none
def toPas (rf : Nat → Option PyData) : List D → Option (List PyData)
  | [] => some []
  | d :: ds => match toPa rf d, toPas rf ds with
    | some p, some ps => some (p :: ps)
    | _, _ => none
end
def rfOf (M : MH) : Nat → Nat → Option PyData
  | 0, _ => none
  | k + 1, n => match M[n]? with
    | some (.lst ds) => (toPas (rfOf M k) ds).map .list
    | _ => none
def toP (M : MH) (k : Nat) (d : D) : Option PyData := toPa (rfOf M k) d
def toPs (M : MH) (k : Nat) (ds : List D) : Option (List PyData) := toPas (rfOf M k) ds
theorem toP_tup {M : MH} {k : Nat} {ds : List D} : toP M k (.tup ds) = (toPs M k ds).map .tuple := by unfold toP toPs; rw [toPa]
theorem toP_fro {M : MH} {k : Nat} {ds : List D} : toP M k (.fro ds) = (toPs M k ds).map .list := by unfold toP toPs; rw [toPa]
theorem toP_ref {M : MH} {k n : Nat} : toP M (k + 1) (.ref n) = match M[n]? with
    | some (.lst ds) => (toPs M k ds).map .list
    | _ => none := by unfold toP toPs; rw [toPa, rfOf]
theorem toPs_cons {M : MH} {k : Nat} {d : D} {ds : List D} : toPs M k (d :: ds) = match toP M k d, toPs M k ds with
    | some p, some ps => some (p :: ps)
    | _, _ => none := by unfold toP toPs; rw [toPas]
def dEq (x y : D) (M : MH) : Res D := match toP M 4 x, toP M 4 y with
  | some p, some q => if SeqAt.shaped p = true ∧ SeqAt.shaped q = true then .ok (.bl (PyData.eqv p q)) M else .bad
  | _, _ => .bad
def dNe (x y : D) (M : MH) : Res D := match toP M 4 x, toP M 4 y with
  | some p, some q => if SeqAt.shaped p = true ∧ SeqAt.shaped q = true then .ok (.bl (!PyData.eqv p q)) M else .bad
  | _, _ => .bad
def dIx (x y : D) (M : MH) : Res D := match y with
  | .int i => match x with
    | .str z => if z.length ≤ big then (match atI z.cps.toList i with
      | some c => .ok (.str ⟨#[c]⟩) M
      | none => .bad) else .bad
    | x => match items M x with
      | some ds => (match atI ds i with
        | some d => .ok d M
        | none => .bad)
      | none => .bad
  | _ => .bad
def cutD (xs : List D) (lo hi : Option Int) : List D := (xs.drop (HT.sIx xs.length 0 lo)).take (HT.sIx xs.length xs.length hi - HT.sIx xs.length 0 lo)
def dLen (ds : List D) (M : MH) : Res D := match ds with
  | [.str z] => if z.length ≤ big then .ok (.int z.length) M else .bad
  | [x] => match items M x with
    | some ys => .ok (.int ys.length) M
    | none => .bad
  | _ => .bad
def dListL (ds : List D) (M : MH) : Res D := match ds with
  | [x] => match items M x with
    | some ys => mkL ys M
    | none => .bad
  | _ => .bad
def dListF (ds : List D) (M : MH) : Res D := match ds with
  | [x] => match items M x with
    | some ys => mkF ys M
    | none => .bad
  | _ => .bad
def dTupF (ds : List D) (M : MH) : Res D := match ds with
  | [x] => match items M x with
    | some ys => .ok (.tup ys) M
    | none => .bad
  | _ => .bad
def dInt (ds : List D) (M : MH) : Res D := match ds with
  | [.int i] => .ok (.int i) M
  | [.bl b] => .ok (.int (if b then 1 else 0)) M
  | _ => .bad
def dAbs (ds : List D) (M : MH) : Res D := match ds with
  | [.int i] => .ok (.int (if i < 0 then -i else i)) M
  | _ => .bad
theorem bigLine {n : Nat} (h : n ≤ big) : n ≤ sizeLine := Nat.le_trans h (by decide)
section
variable {X : Cx} {g : Wd}
theorem items_at {F : List Addr} {M : MH} {H : Hp} {x : D} {v : V} {ds : List D} (R : RelM g F M H) (r : Rep g F H x v) (h : items M x = some ds) : ∃ a vs, v = .ref a ∧ (SqL g.K H a vs ∨ SqT g.K H a vs) ∧ Reps g F H ds vs := by
  cases r with
  | tup h1 r => cases h; exact ⟨_, _, rfl, .inr h1, r⟩
  | fro h1 r => cases h; exact ⟨_, _, rfl, .inl h1.sq, r⟩
  | ref h1 =>
    dsimp only [items] at h
    split at h
    · rename_i ds' hd
      cases h
      obtain ⟨vs, hv, r⟩ := lst_at R h1 hd
      exact ⟨_, vs, rfl, .inl (SqL.of hv), r⟩
    · cases h
  | _ => cases h
theorem mkL_post {W : WX} {F : List Addr} {M : MH} {H : Hp} {σ : L2.St} {Q : VK} {ds : List D} {vs : List V} {p : Addr} (R : RelM g F M H) (r : Reps g F H ds vs) (q : post g rD W F σ H (mkL ds M) Q) (hp : H p = none) : Q (.ref p) (upd H p (.lst vs)) := by
  obtain ⟨g1, R1⟩ := R.laid (m := .lst ds) (o := .lst vs) hp fun F' H' gr => .lst (r.mono gr R.good)
  exact q.ok g1 R1 (.ref (by rw [← R.len]; simp))
theorem mkF_post {W : WX} {F : List Addr} {M : MH} {H : Hp} {σ : L2.St} {Q : VK} {ds : List D} {vs : List V} {p : Addr} (R : RelM g F M H) (r : Reps g F H ds vs) (q : post g rD W F σ H (mkF ds M) Q) (hp : H p = none) : Q (.ref p) (upd H p (.lst vs)) := by
  obtain ⟨g1, R1⟩ := R.still (o := .lst vs) hp
  exact q.ok g1 R1 (.fro (.inl ⟨upd_same, R.notin hp⟩) (r.mono g1 R.good))
theorem tup_post {W : WX} {F : List Addr} {M : MH} {H : Hp} {σ : L2.St} {Q : VK} {ds : List D} {vs : List V} {p : Addr} (R : RelM g F M H) (r : Reps g F H ds vs) (q : post g rD W F σ H (.ok (.tup ds) M) Q) (hp : H p = none) : Q (.ref p) (upd H p (.tup vs)) := by
  obtain ⟨g1, R1⟩ := R.still (o := .tup vs) hp
  exact q.ok g1 R1 (.tup (SqT.of upd_same) (r.mono g1 R.good))
theorem sim_sub : Sim2 g dSub (rI0 fun i j => .int (i - j)) := fun F M σ H W x y v w Q R rx ry q => by
  unfold dSub at q
  split at q
  · cases rx; cases ry; exact ⟨_, _, rfl, rfl, q.here R (.int _)⟩
  · exact q.elim
theorem sim_mul : Sim2 g dMul (rI CMul fun i j => .int (i * j)) := fun F M σ H W x y v w Q R rx ry q => by
  unfold dMul at q
  split at q
  · cases rx; cases ry
    split at q
    · rename_i hc; exact ⟨_, _, rfl, rfl, hc, q.here R (.int _)⟩
    · exact q.elim
  · exact q.elim
theorem sim_div : Sim2 g dDiv (rI CDiv fun i j => .int (i / j)) := fun F M σ H W x y v w Q R rx ry q => by
  unfold dDiv at q
  split at q
  · cases rx; cases ry
    split at q
    · rename_i hc; exact ⟨_, _, rfl, rfl, hc, q.here R (.int _)⟩
    · exact q.elim
  · exact q.elim
theorem sim_mod : Sim2 g dMod (rI (fun _ j => 0 < j) fun i j => .int (i % j)) := fun F M σ H W x y v w Q R rx ry q => by
  unfold dMod at q
  split at q
  · cases rx; cases ry
    split at q
    · rename_i hc; exact ⟨_, _, rfl, rfl, hc, q.here R (.int _)⟩
    · exact q.elim
  · exact q.elim
theorem sim_pow : Sim2 g dPow (rI CPow fun i j => .int (i ^ j.toNat)) := fun F M σ H W x y v w Q R rx ry q => by
  unfold dPow at q
  split at q
  · cases rx; cases ry
    split at q
    · rename_i hc; exact ⟨_, _, rfl, rfl, hc, q.here R (.int _)⟩
    · exact q.elim
  · exact q.elim
theorem sim_cmpI {f : Int → Int → Bool} : Sim2 g (dCmpI f) (rI0 fun i j => .bl (f i j)) := fun F M σ H W x y v w Q R rx ry q => by
  unfold dCmpI at q
  split at q
  · cases rx; cases ry; exact ⟨_, _, rfl, rfl, q.here R (.bl _)⟩
  · exact q.elim
def rAddA (K : PySem.W.Frag) : R2 := fun x y H Q => (∃ i j, x = .int i ∧ y = .int j ∧ Q (.int (i + j)) H) ∨ (∃ i j, x = .str i ∧ y = .str j ∧ i.length + j.length ≤ sizeLine ∧ Q (.str (i ++ j)) H) ∨ rCatA K x y H Q
theorem op_addA : OpR X (binaryOp .Add) (rAddA X.K) := op_add.or (op_add_str.or op_catA)
theorem sim_add (hK : g.K = X.K) : Sim2 g dAdd (rAddA X.K) := fun F M σ H W x y v w Q R rx ry q => by
  unfold dAdd at q
  split at q
  · cases rx; cases ry; exact .inl ⟨_, _, rfl, rfl, q.here R (.int _)⟩
  · cases rx; cases ry
    split at q
    · rename_i hl; exact .inr (.inl ⟨_, _, rfl, rfl, bigLine hl, q.here R (.str _)⟩)
    · exact q.elim
  · rename_i xs ys
    cases rx with | tup h1 r1 =>
    cases ry with | tup h2 r2 =>
    rename_i a1 v1 a2 v2
    split at q
    · rename_i hl
      refine .inr (.inr ⟨_, _, _, _, rfl, rfl, by rw [← hK]; exact h1, by rw [← hK]; exact h2, by rw [← r1.length, ← r2.length]; exact bigLine hl, fun z => ?_, fun z1 z => ?_, fun z1 z2 p hp => ?_⟩)
      · have : xs = [] := by cases r1 with | nil => rfl | cons => cases z
        subst this
        exact q.here R (.tup h2 (by simpa using r2))
      · have : ys = [] := by cases r2 with | nil => rfl | cons => cases z
        subst this
        exact q.here R (.tup h1 (by simpa using r1))
      · exact tup_post R (r1.append r2) q hp
    · exact q.elim
  · exact q.elim
def rIsA : R2 := fun x y H Q => (y = .non ∧ Q (.bl (decide (x = .non))) H) ∨ ∃ b, y = .bl b ∧ Q (.bl (decide (x = .bl b))) H
theorem op_isB2 : OpR X (compareOp .Is) (fun x y H Q => ∃ b, y = .bl b ∧ Q (.bl (decide (x = .bl b))) H) := by
  intro pins s σ H x y v u Q I rx ry h
  obtain ⟨b, rfl, q⟩ := h
  cases (show u = Value.bool b from ry)
  by_cases e : x = .bl b
  · subst e
    cases (show v = Value.bool b from rx)
    exact wpAny_is_self rfl ⟨.bl true, H, I, rfl, by simpa using q⟩
  · have hne : v ≠ Value.bool b := fun z => by
      subst z
      exact e (rx.inj (show RelV (.bl b) (Value.bool b) from rfl))
    refine wpAny_is_other ?_ hne ⟨.bl false, H, I, rfl, by simpa [e] using q⟩
    cases x <;> first
      | (cases rx; rfl)
      | (obtain ⟨t, rfl⟩ := rx; rfl)
theorem op_isA : OpR X (compareOp .Is) rIsA := op_isN.or op_isB2
theorem isNon_rep {F : List Addr} {H : Hp} {x : D} {v : V} (r : Rep g F H x v) : decide (v = .non) = isNon x := by cases r <;> rfl
theorem isBl_rep {F : List Addr} {H : Hp} {x : D} {v : V} {b : Bool} (r : Rep g F H x v) : decide (v = .bl b) = isBl b x := by
  cases r with
  | bl c => cases b <;> cases c <;> rfl
  | _ => rfl
theorem sim_is : Sim2 g dIs rIsA := fun F M σ H W x y v w Q R rx ry q => by
  unfold dIs at q
  split at q
  · cases ry; exact .inl ⟨rfl, by rw [isNon_rep rx]; exact q.here R (.bl _)⟩
  · cases ry; exact .inr ⟨_, rfl, by rw [isBl_rep rx]; exact q.here R (.bl _)⟩
  · exact q.elim
mutual
theorem toP_rep {F : List Addr} {M : MH} {H : Hp} (R : RelM g F M H) : ∀ (k : Nat) (d : D) (v : V) (p : PyData), Rep g F H d v → toP M k d = some p → Dp g.K H v p
  | k, .non, v, p, r, h => by cases r; simp only [toP, toPa] at h; cases h; exact .non
  | k, .bl b, v, p, r, h => by cases r; simp only [toP, toPa] at h; cases h; exact .bl b
  | k, .int i, v, p, r, h => by cases r; simp only [toP, toPa] at h; cases h; exact .int i
  | k, .str x, v, p, r, h => by cases r; simp only [toP, toPa] at h; cases h; exact .str x
  | k, .tup ds, v, p, r, h => by
    rw [toP_tup] at h
    cases r with | tup h1 r1 =>
    cases hq : toPs M k ds with
    | none => rw [hq] at h; cases h
    | some ps => rw [hq] at h; cases h; exact .tup h1 (toPs_rep R k ds _ ps r1 hq)
  | k, .fro ds, v, p, r, h => by
    rw [toP_fro] at h
    cases r with | fro h1 r1 =>
    cases hq : toPs M k ds with
    | none => rw [hq] at h; cases h
    | some ps => rw [hq] at h; cases h; exact .lst h1.sq (toPs_rep R k ds _ ps r1 hq)
  | k + 1, .ref n, v, p, r, h => by
    rw [toP_ref] at h
    cases r with | ref h1 =>
    split at h
    · rename_i ds hd
      obtain ⟨vs, hv, r1⟩ := lst_at R h1 hd
      cases hq : toPs M k ds with
      | none => rw [hq] at h; cases h
      | some ps => rw [hq] at h; cases h; exact .lst (SqL.of hv) (toPs_rep R k ds _ ps r1 hq)
    · cases h
  | 0, .ref n, v, p, r, h => by simp [toP, toPa, rfOf] at h
  | k, .ty n, v, p, r, h => by simp [toP, toPa, rfOf] at h
  | k, .cls n, v, p, r, h => by simp [toP, toPa, rfOf] at h
  | k, .obj n, v, p, r, h => by simp [toP, toPa, rfOf] at h
  | k, .ins c ns ds, v, p, r, h => by simp [toP, toPa, rfOf] at h
termination_by k d => (k, sizeOf d)
theorem toPs_rep {F : List Addr} {M : MH} {H : Hp} (R : RelM g F M H) : ∀ (k : Nat) (ds : List D) (vs : List V) (ps : List PyData), Reps g F H ds vs → toPs M k ds = some ps → DpAll g.K H vs ps
  | k, [], vs, ps, r, h => by cases r; simp only [toPs, toPas] at h; cases h; exact .nil
  | k, d :: ds, vs, ps, r, h => by
    rw [toPs_cons] at h
    cases r with | cons r1 r2 =>
    cases hp : toP M k d with
    | none => rw [hp] at h; cases h
    | some p =>
      cases hq : toPs M k ds with
      | none => rw [hp, hq] at h; cases h
      | some qs => rw [hp, hq] at h; cases h; exact .cons (toP_rep R k d _ p r1 hp) (toPs_rep R k ds _ qs r2 hq)
termination_by k ds => (k, sizeOf ds)
end
theorem sim_eq (hK : g.K = X.K) : Sim2 g dEq (rEqD X.K) := fun F M σ H W x y v w Q R rx ry q => by
  unfold dEq at q
  split at q
  · rename_i p1 p2 h1 h2
    split at q
    · rename_i hs
      rw [← hK]
      exact ⟨p1, p2, toP_rep R 4 x v p1 rx h1, toP_rep R 4 y w p2 ry h2, hs.1, hs.2, q.here R (.bl _)⟩
    · exact q.elim
  · exact q.elim
theorem sim_ne (hK : g.K = X.K) : Sim2 g dNe (rNeD X.K) := fun F M σ H W x y v w Q R rx ry q => by
  unfold dNe at q
  split at q
  · rename_i p1 p2 h1 h2
    split at q
    · rename_i hs
      rw [← hK]
      exact ⟨p1, p2, toP_rep R 4 x v p1 rx h1, toP_rep R 4 y w p2 ry h2, hs.1, hs.2, q.here R (.bl _)⟩
    · exact q.elim
  · exact q.elim
theorem atI_rep {F : List Addr} {H : Hp} {ds : List D} {vs : List V} {i : Int} {d : D} (r : Reps g F H ds vs) (h : atI ds i = some d) : ∃ v, atI vs i = some v ∧ Rep g F H d v := by
  unfold atI at h ⊢
  rw [r.length] at h
  cases hj : ixN vs.length i with
  | none => rw [hj] at h; cases h
  | some j =>
    rw [hj] at h
    exact r.get h
theorem sim_ix (hK : g.K = X.K) : Sim2 g dIx (rIx X.K) := fun F M σ H W x y v w Q R rx ry q => by
  unfold dIx at q
  split at q
  · cases ry
    split at q
    · cases rx
      split at q
      · rename_i hl
        split at q
        · rename_i c hc
          exact .inr (.inr ⟨_, _, c, rfl, rfl, bigLine hl, hc, q.here R (.str _)⟩)
        · exact q.elim
      · exact q.elim
    · split at q
      · rename_i ds hd
        obtain ⟨a, vs, rfl, hs, r⟩ := items_at R rx hd
        split at q
        · rename_i d hx
          obtain ⟨z, hz, rz⟩ := atI_rep r hx
          rw [hK] at hs
          rcases hs with hs | hs
          · exact .inl ⟨a, vs, _, z, rfl, rfl, hs, hz, q.here R rz⟩
          · exact .inr (.inl ⟨a, vs, _, z, rfl, rfl, hs, hz, q.here R rz⟩)
        · exact q.elim
      · exact q.elim
  · exact q.elim
end
/-! ### expressions by these operations -/
section
variable {X : Cx} {g : Wd} {W : WY} {a b c : Expr} {pos p : Pos} {m1 m2 m3 : EM} {ma : AM} {es : List Expr}
theorem de_add (hK : g.K = X.K) (ha : PE X a (tD g W m1)) (hb : PE X b (tD g W m2)) : PE X (.BinOp a .Add b pos) (tD g W (eBin dAdd m1 m2)) := de_op op_addA (sim_add hK) ha hb
theorem de_sub (ha : PE X a (tD g W m1)) (hb : PE X b (tD g W m2)) : PE X (.BinOp a .Sub b pos) (tD g W (eBin dSub m1 m2)) := de_op op_sub sim_sub ha hb
theorem de_mul (ha : PE X a (tD g W m1)) (hb : PE X b (tD g W m2)) : PE X (.BinOp a .Mult b pos) (tD g W (eBin dMul m1 m2)) := de_op op_mul sim_mul ha hb
theorem de_div (ha : PE X a (tD g W m1)) (hb : PE X b (tD g W m2)) : PE X (.BinOp a .FloorDiv b pos) (tD g W (eBin dDiv m1 m2)) := de_op op_fdiv sim_div ha hb
theorem de_mod (ha : PE X a (tD g W m1)) (hb : PE X b (tD g W m2)) : PE X (.BinOp a .Mod b pos) (tD g W (eBin dMod m1 m2)) := de_op op_mod sim_mod ha hb
theorem de_pow (ha : PE X a (tD g W m1)) (hb : PE X b (tD g W m2)) : PE X (.BinOp a .Pow b pos) (tD g W (eBin dPow m1 m2)) := de_op op_pow sim_pow ha hb
theorem de_ge (ha : PE X a (tD g W m1)) (hb : PE X b (tD g W m2)) : PE X (.Compare a [.GtE] [b] pos) (tD g W (eBin dGe m1 m2)) := de_cmp op_ge sim_cmpI ha hb (nomark _)
theorem de_is (ha : PE X a (tD g W m1)) (hb : PE X b (tD g W m2)) : PE X (.Compare a [.Is] [b] pos) (tD g W (eBin dIs m1 m2)) := de_cmp op_isA sim_is ha hb (nomark _)
theorem de_eq (hK : g.K = X.K) (hu : X.A.units + 64 < cLine) (ha : PE X a (tD g W m1)) (hb : PE X b (tD g W m2)) : PE X (.Compare a [.Eq] [b] pos) (tD g W (eBin dEq m1 m2)) := de_cmp (op_eqD hu) (sim_eq hK) ha hb (nomark _)
theorem dt_lt (ha : PE X a (tD g W m1)) (hb : PE X b (tD g W m2)) : PT X (.Compare a [.Lt] [b] pos) (tB2 g W (bVal (eBin dLt m1 m2))) := dt_cmp op_lt sim_cmpI ha hb (nomark _)
theorem dt_gt (ha : PE X a (tD g W m1)) (hb : PE X b (tD g W m2)) : PT X (.Compare a [.Gt] [b] pos) (tB2 g W (bVal (eBin dGt m1 m2))) := dt_cmp op_gt sim_cmpI ha hb (nomark _)
theorem dt_ge (ha : PE X a (tD g W m1)) (hb : PE X b (tD g W m2)) : PT X (.Compare a [.GtE] [b] pos) (tB2 g W (bVal (eBin dGe m1 m2))) := dt_cmp op_ge sim_cmpI ha hb (nomark _)
theorem dt_is (ha : PE X a (tD g W m1)) (hb : PE X b (tD g W m2)) : PT X (.Compare a [.Is] [b] pos) (tB2 g W (bVal (eBin dIs m1 m2))) := dt_cmp op_isA sim_is ha hb (nomark _)
theorem dt_eq (hK : g.K = X.K) (hu : X.A.units + 64 < cLine) (ha : PE X a (tD g W m1)) (hb : PE X b (tD g W m2)) : PT X (.Compare a [.Eq] [b] pos) (tB2 g W (bVal (eBin dEq m1 m2))) := dt_cmp (op_eqD hu) (sim_eq hK) ha hb (nomark _)
theorem dt_ne (hK : g.K = X.K) (hu : X.A.units + 64 < cLine) (ha : PE X a (tD g W m1)) (hb : PE X b (tD g W m2)) : PT X (.Compare a [.NotEq] [b] pos) (tB2 g W (bVal (eBin dNe m1 m2))) := dt_cmp (op_neD hu) (sim_ne hK) ha hb (nomark _)
/-- calls of built-ins -/
theorem de_callB {id : String} {x : Str} {r : List V → Hp → VK → Prop} {f : List D → MH → Res D} (hc : CallR X (.builtin id) r) (hs : SimA g f r) (hm : X.mg x = none) (hv : bootBuiltins x = some (.builtin id)) (ha : PA X (a :: es) (tA g W ma)) (hg : Gl X x := by rfl) (hn : x ≠ "__name__" := by decide)
    (hdb : (x == ("__debug__" : Str)) = false := by decide) (he : starEach (a :: es) X.env = (false, eval a X.env) :: starEach es X.env := by rfl) (hpl : (backTo pos (starEach es X.env)).any (·.1) = false := by rfl) : PE X (.Call (.Name x p) (a :: es) [] pos) (tD g W (eArgs f ma)) :=
  pe_imp (pe_callB hc hg hm hv ha hn hdb he hpl) fun σ H Q q => args_imp hs q
theorem de_callT {T : String} {x : Str} {r : List V → Hp → VK → Prop} {f : List D → MH → Res D} (hc : CallR X (.type T) r) (hs : SimA g f r) (hm : X.mg x = none) (hv : bootBuiltins x = some (.type T)) (ha : PA X (a :: es) (tA g W ma)) (hg : Gl X x := by rfl) (hn : x ≠ "__name__" := by decide)
    (hdb : (x == ("__debug__" : Str)) = false := by decide) (he : starEach (a :: es) X.env = (false, eval a X.env) :: starEach es X.env := by rfl) (hpl : (backTo pos (starEach es X.env)).any (·.1) = false := by rfl) : PE X (.Call (.Name x p) (a :: es) [] pos) (tD g W (eArgs f ma)) :=
  pe_imp (pe_callTy hc hg hm hv ha hn hdb he hpl) fun σ H Q q => args_imp hs q
end
end T2
namespace T2
open PySem L2
section
variable {X : Cx} {g : Wd} {W : WY} {a b c : Expr} {pos p : Pos} {m1 m2 m3 : EM} {ma : AM} {es : List Expr}
/-! ### built-ins -/
def rLenA (K : PySem.W.Frag) : List V → Hp → VK → Prop := fun xs H Q => (∃ p ys, xs = [.ref p] ∧ (SqL K H p ys ∨ SqT K H p ys) ∧ Q (.int ys.length) H) ∨ ∃ z, xs = [.str z] ∧ z.length ≤ sizeLine ∧ Q (.int z.length) H
theorem call_lenA : CallR X (.builtin "len") (rLenA X.K) := call_len_seq.or call_len_str
theorem one_rep {F : List Addr} {H : Hp} {d : D} {vs : List V} (r : Reps g F H [d] vs) : ∃ v, vs = [v] ∧ Rep g F H d v := by
  cases r with | cons h t => cases t; exact ⟨_, rfl, h⟩
theorem two_rep {F : List Addr} {H : Hp} {d e : D} {vs : List V} (r : Reps g F H [d, e] vs) : ∃ v w, vs = [v, w] ∧ Rep g F H d v ∧ Rep g F H e w := by
  cases r with | cons h t => cases t with | cons h2 t => cases t; exact ⟨_, _, rfl, h, h2⟩
theorem sim_len (hK : g.K = X.K) : SimA g dLen (rLenA X.K) := fun F M σ H W ds vs Q R r q => by
  unfold dLen at q
  split at q
  · obtain ⟨v, rfl, rv⟩ := one_rep r
    cases rv
    split at q
    · rename_i hl; exact .inr ⟨_, rfl, bigLine hl, q.here R (.int _)⟩
    · exact q.elim
  · obtain ⟨v, rfl, rv⟩ := one_rep r
    split at q
    · rename_i ys hy
      obtain ⟨a, us, rfl, hs, r⟩ := items_at R rv hy
      rw [hK] at hs
      exact .inl ⟨a, us, rfl, hs, by rw [← r.length]; exact q.here R (.int _)⟩
    · exact q.elim
  · exact q.elim
def rListA (K : PySem.W.Frag) : List V → Hp → VK → Prop := fun xs H Q => ∃ p ys, xs = [.ref p] ∧ (SqL K H p ys ∨ SqT K H p ys) ∧ ∀ l, H l = none → Q (.ref l) (upd H l (.lst ys))
theorem sim_listF (hK : g.K = X.K) : SimA g dListF (rListA X.K) := fun F M σ H W ds vs Q R r q => by
  unfold dListF at q
  split at q
  · obtain ⟨v, rfl, rv⟩ := one_rep r
    split at q
    · rename_i ys hy
      obtain ⟨a, us, rfl, hs, r⟩ := items_at R rv hy
      rw [hK] at hs
      exact ⟨a, us, rfl, hs, fun l hl => mkF_post R r q hl⟩
    · exact q.elim
  · exact q.elim
def rTupA (K : PySem.W.Frag) : List V → Hp → VK → Prop := fun xs H Q => ∃ p ys, xs = [.ref p] ∧ ((SqL K H p ys ∧ ∀ l, H l = none → Q (.ref l) (upd H l (.tup ys))) ∨ (SqT K H p ys ∧ Q (.ref p) H))
theorem sim_tupF (hK : g.K = X.K) : SimA g dTupF (rTupA X.K) := fun F M σ H W ds vs Q R r q => by
  unfold dTupF at q
  split at q
  · obtain ⟨v, rfl, rv⟩ := one_rep r
    split at q
    · rename_i ys hy
      obtain ⟨a, us, rfl, hs, r⟩ := items_at R rv hy
      rcases hs with hs | hs
      · rw [hK] at hs; exact ⟨a, us, rfl, .inl ⟨hs, fun l hl => tup_post R r q hl⟩⟩
      · have hs' := hs; rw [hK] at hs'; exact ⟨a, us, rfl, .inr ⟨hs', q.here R (.tup hs r)⟩⟩
    · exact q.elim
  · exact q.elim
theorem sim_int1 : SimA g dInt (fun xs H Q => (∃ i, xs = [.int i] ∧ Q (.int i) H) ∨ ∃ k, xs = [.bl k] ∧ Q (.int (if k then 1 else 0)) H) := fun F M σ H W ds vs Q R r q => by
  unfold dInt at q
  split at q
  · obtain ⟨v, rfl, rv⟩ := one_rep r; cases rv; exact .inl ⟨_, rfl, q.here R (.int _)⟩
  · obtain ⟨v, rfl, rv⟩ := one_rep r; cases rv; exact .inr ⟨_, rfl, q.here R (.int _)⟩
  · exact q.elim
theorem sim_abs : SimA g dAbs (fun xs H Q => ∃ i, xs = [.int i] ∧ Q (.int (if i < 0 then -i else i)) H) := fun F M σ H W ds vs Q R r q => by
  unfold dAbs at q
  split at q
  · obtain ⟨v, rfl, rv⟩ := one_rep r; cases rv; exact ⟨_, rfl, q.here R (.int _)⟩
  · exact q.elim
section
variable (hK : g.K = X.K) (ha : PA X (a :: es) (tA g W ma)) (he : starEach (a :: es) X.env = (false, eval a X.env) :: starEach es X.env := by rfl) (hpl : (backTo pos (starEach es X.env)).any (·.1) = false := by rfl)
include ha he hpl
theorem de_len (hK : g.K = X.K) (hm : X.mg "len" = none) (hg : Gl X "len" := by rfl) : PE X (.Call (.Name "len" p) (a :: es) [] pos) (tD g W (eArgs dLen ma)) := de_callB call_lenA (sim_len hK) hm PySem.boot_len ha hg (by decide) (by decide) he hpl
theorem de_abs (hm : X.mg "abs" = none) (hg : Gl X "abs" := by rfl) : PE X (.Call (.Name "abs" p) (a :: es) [] pos) (tD g W (eArgs dAbs ma)) := de_callB call_abs sim_abs hm (by decide +kernel) ha hg (by decide) (by decide) he hpl
theorem de_intc (hm : X.mg "int" = none) (hg : Gl X "int" := by rfl) : PE X (.Call (.Name "int" p) (a :: es) [] pos) (tD g W (eArgs dInt ma)) := de_callT call_int1 sim_int1 hm (by decide +kernel) ha hg (by decide) (by decide) he hpl
theorem de_listF (hK : g.K = X.K) (hm : X.mg "list" = none) (hg : Gl X "list" := by rfl) : PE X (.Call (.Name "list" p) (a :: es) [] pos) (tD g W (eArgs dListF ma)) := de_callT call_list_of (sim_listF hK) hm (by decide +kernel) ha hg (by decide) (by decide) he hpl
theorem de_tupc (hK : g.K = X.K) (hm : X.mg "tuple" = none) (hg : Gl X "tuple" := by rfl) : PE X (.Call (.Name "tuple" p) (a :: es) [] pos) (tD g W (eArgs dTupF ma)) := de_callT call_tuple_of (sim_tupF hK) hm (by decide +kernel) ha hg (by decide) (by decide) he hpl
end

/-! ### stores into lists -/
def dSetIx (o i v : D) (M : MH) : Option MH := match o, i with
  | .ref n, .int k => match M[n]? with
    | some (.lst ds) => match ixN ds.length k with
      | some j => some (M.set n (.lst (ds.set j v)))
      | none => none
    | _ => none
  | _, _ => none
/-- o[i] = v: v first, then o, then i -/
def sSetIx (f : D → D → D → MH → Option MH) (mo mi mv : EM) : SM := fun e M => (mv e M).toS e fun v M1 => (mo e M1).toS e fun o M2 => (mi e M2).toS e fun i M3 => match f o i v M3 with
  | some M4 => .nx e M4
  | none => .bad
def Sim3 (g : Wd) (f : D → D → D → MH → Option MH) (r : TSet) : Prop := ∀ (F : List Addr) (M M' : MH) (H : Hp) (o i x : D) (vo vi vx : V) (Q : Hp → Prop), RelM g F M H → Rep g F H o vo → Rep g F H i vi → Rep g F H x vx → f o i x M = some M' → (∀ H', Grow F H F H' → RelM g F M' H' → Q H') → r vo vi vx H Q
theorem sim_setL : Sim3 g dSetIx rSetL := fun F M M' H o i x vo vi vx Q R ro ri rx h k => by
  unfold dSetIx at h
  split at h
  · cases ro with | ref hn =>
    cases ri
    split at h
    · rename_i ds hd
      obtain ⟨vs, hv, r⟩ := lst_at R hn hd
      split at h
      · rename_i j hj
        cases h
        rw [r.length] at hj
        refine ⟨_, vs, _, j, rfl, rfl, hv, hj, ?_⟩
        obtain ⟨g1, R1⟩ := R.put (o := .lst (vs.set j vx)) (m := .lst (ds.set j x)) hn trivial fun H' gr => .lst ((r.mono gr R.good).set (rx.mono gr R.good) j)
        exact k _ g1 R1
      · cases h
    · cases h
  · cases h
theorem ds_setIx {f : D → D → D → MH → Option MH} {r : TSet} {o i : Expr} {pos' : Pos} (hp : PSet X r) (hs3 : Sim3 g f r) (ho : PE X o (tD g W m1)) (hi : PE X i (tD g W m2)) (hv : PE X a (tD g W m3))
    (hass : ∀ v, assign (.Subscript o i pos') X.env v = (do
      let ov ← holding [v] (eval o X.env)
      let iv ← holding [v, ov] (eval i X.env)
      standAt pos'
      holding [v, ov, iv] (setItem ov iv v)
      release [v, ov, iv] []) := by intro _; rfl)
    (hs : swapsWithSole [.Subscript o i pos'] a pos.line X.env = pure false := by rfl) (hw : swappedStores [.Subscript o i pos'] a X.env = pure none := by rfl) (h1 : (assignEach [.Subscript o i pos'] X.env).map (·.2) = [assign (.Subscript o i pos') X.env] := by rfl) :
    PS X (.Assign [.Subscript o i pos'] a pos) (tS g W (sSetIx f m1 m2 m3)) :=
  ps_imp (ps_asg hv (pg_sub ho hi hp hass) hs hw h1) fun E σ H ⟨F, e, M, RS, q⟩ => by
    refine ⟨F, e, M, RS, q.step RS fun x M1 F1 H1 vx _ g1 R1 rx q1 => ?_⟩
    refine ⟨F1, e, M1, RS.up g1 R1, q1.step (RS.up g1 R1) fun y M2 F2 H2 vo _ g2 R2 ro q2 => ?_⟩
    have RS2 := (RS.up g1 R1).up g2 R2
    refine ⟨F2, e, M2, RS2, q2.step RS2 fun z M3 F3 H3 vi _ g3 R3 ri q3 => ?_⟩
    have RS3 := RS2.up g3 R3
    split at q3
    · rename_i M4 h4
      refine hs3 F3 M3 M4 H3 y z x vo vi vx _ R3 (ro.mono g3 R2.good) ri ((rx.mono g2 R1.good).mono g3 R2.good) h4 fun H4 g4 R4 => ?_
      exact q3 F3 H4 σ g4 R4 (RS3.up g4 R4).e RS3.x
    · exact q3.elim
theorem ds_setL {o i : Expr} {pos' : Pos} (ho : PE X o (tD g W m1)) (hi : PE X i (tD g W m2)) (hv : PE X a (tD g W m3))
    (hass : ∀ v, assign (.Subscript o i pos') X.env v = (do
      let ov ← holding [v] (eval o X.env)
      let iv ← holding [v, ov] (eval i X.env)
      standAt pos'
      holding [v, ov, iv] (setItem ov iv v)
      release [v, ov, iv] []) := by intro _; rfl)
    (hs : swapsWithSole [.Subscript o i pos'] a pos.line X.env = pure false := by rfl) (hw : swappedStores [.Subscript o i pos'] a X.env = pure none := by rfl) (h1 : (assignEach [.Subscript o i pos'] X.env).map (·.2) = [assign (.Subscript o i pos') X.env] := by rfl) :
    PS X (.Assign [.Subscript o i pos'] a pos) (tS g W (sSetIx dSetIx m1 m2 m3)) := ds_setIx set_list sim_setL ho hi hv hass hs hw h1
end
end T2
namespace T2
open PySem L2
theorem fn_ok2 {P : Program} {w : World} {K : PySem.W.Frag} {mg : Str → Option Value} {base : Heap} {g : Wd} {x qual : Str} {st : Stmt} {f : Addr} {fd : FuncData} {N ps : List Str} {k : Nat} {b : SM} (F : Fun K x qual st f fd) (S : FnScope N ps (defScope st))
    (hbody : ∀ (cdv : Value) (A : Around) (outer : List Env) (s : Shared) (H : Hp) (E : XK), Room k (A.deeper (PyProof.Rows.envOfC qual (defScope st) s.heap.objs.size f cdv)) →
      L2N.Takes (cxOf (L2N.CX P w) P w K mg base N qual (defScope st) f cdv A outer s H E) (WY.mk (fun c d _ H => E c d H) ⟨[], []⟩).w →
      PassesOwn (model P w) (cxOf (L2N.CX P w) P w K mg base N qual (defScope st) f cdv A outer s H E).A (cxOf (L2N.CX P w) P w K mg base N qual (defScope st) f cdv A outer s H E).env (cxOf (L2N.CX P w) P w K mg base N qual (defScope st) f cdv A outer s H E).xe →
      PSs (cxOf (L2N.CX P w) P w K mg base N qual (defScope st) f cdv A outer s H E) (defBody st) (tS g ⟨fun c d _ H => E c d H, ⟨[], []⟩⟩ b)) : FnOk P w K mg base (L2N.CX P w) (k + 1) f fd ps (spD g ps.length (fnB N.length b)) :=
  fn_ok F S fun cdv A outer s H E hr => hbody cdv A outer s H E hr (L2N.takes_of rfl rfl rfl rfl) (passes_of (X := cxOf (L2N.CX P w) P w K mg base N qual (defScope st) f cdv A outer s H E) rfl)
end T2
namespace T2
open PySem L2

/-! ### instances: fields -/
def fieldOf (f : Str) (ns : List Str) (ds : List D) : Option D := (ns.zip ds).lookup f
/-- the class and the fields of an instance -/
def instOf (M : MH) : D → Option (Nat × List Str × List D)
  | .ins c ns ds => some (c, ns, ds)
  | .ref n => match M[n]? with
    | some (.ob c ns ds) => some (c, ns, ds)
    | _ => none
  | _ => none
def dFld (cs : List Nat) (f : Str) (x : D) (M : MH) : Res D := match instOf M x with
  | some (c, ns, ds) => if cs.contains c = true then (match fieldOf f ns ds with
    | some d => .ok d M
    | none => .bad) else .bad
  | none => .bad
def putN (f : Str) (d : D) : List Str → List D → List Str × List D
  | n :: ns, x :: ds => if n = f then (n :: ns, d :: ds) else ((n :: (putN f d ns ds).1), (x :: (putN f d ns ds).2))
  | _, _ => ([f], [d])
section
variable {g : Wd} {F : List Addr} {H : Hp} {M : MH}
theorem field_rep {f : Str} : ∀ {ns : List Str} {ds : List D} {vs : List V} {d : D}, Reps g F H ds vs → fieldOf f ns ds = some d → ∃ v, (ns.zip vs).lookup f = some v ∧ Rep g F H d v
  | [], _, _, _, _, h => by simp [fieldOf] at h
  | _ :: _, _, _, _, .nil, h => by simp [fieldOf] at h
  | n :: ns, _, _, d, .cons r t, h => by
    unfold fieldOf at h
    rw [List.zip_cons_cons, List.lookup_cons] at h ⊢
    cases hn : (f == n) with
    | true => rw [hn] at h; cases h; exact ⟨_, rfl, r⟩
    | false => rw [hn] at h; exact field_rep t h
end
structure ClsF (K : PySem.W.Frag) (ca : Nat → Addr) (cs : List Nat) (f : Str) : Prop where
  cl : ∀ c, cs.contains c = true → Cls K (ca c)
  na : ∀ c, cs.contains c = true → NoAttr K (ca c) f
section
variable {X : Cx} {g : Wd} {W : WY} {a b c : Expr} {pos p apos : Pos} {m1 m2 m3 : EM} {ma : AM} {es : List Expr} {o : Expr}
/-! ### o.f = e -/
def dPutF (cs : List Nat) (f : Str) (x d : D) (M : MH) : Option MH := match x with
  | .ref n => match M[n]? with
    | some (.ob c ns ds) => if cs.contains c = true ∧ ns.length < 100 ∧ ns.length = ds.length then some (M.set n (.ob c (putN f d ns ds).1 (putN f d ns ds).2)) else none
    | _ => none
  | _ => none
def sPutF (cs : List Nat) (f : Str) (mo mv : EM) : SM := fun e M => (mv e M).toS e fun v M1 => (mo e M1).toS e fun o M2 => match dPutF cs f o v M2 with
  | some M3 => .nx e M3
  | none => .bad
end

/-! ### calls of methods, of classes; what is raised is wished for at the caller's slots -/
section
variable {X : Cx} {CX : CXT} {k : Nat} {f C : Addr} {fd : FuncData} {ps : List Str} {sp : Sp} {E : L2.St → XK} {x m : Str} {p pos apos : Pos} {e o : Expr} {es : List Expr} {ta : TE} {t : TA}
theorem pe_call0S (G : FnOk X.prog X.w X.K X.mg X.base CX k f fd ps sp) (hr : Room k X.A) (hm : X.mg x = some (.ref f)) (hk : PySem.W.keepIn X.K (.ref f) = true) (hb : Binds X.K fd ps []) (hx : ∀ σ, PassesAt CX X σ (E σ)) (hg : Gl X x)
    (hdb : (x == ("__debug__" : Str)) = false) : PE X (.Call (.Name x p) [] [] pos) (fun σ H Q => sp [] H Q (E σ)) :=
  ⟨fun pins s σ H Q I h => wpAny_Call_Name_kw (ld_glob I hg hm (PySem.W.callWith_K0 I.kIn hk (run_fnSD (dvs := []) (ds := []) (vs := []) (us := []) G hr hb .nil (hx σ) I .nil h)) hdb)⟩
end

/-! ### .. over trees -/
/-- o.m(..): o an instance of the class c that has no field m -/
def eMeth (c : Nat) (m : Str) (n : Nat) (f : List D → MH → Res D) (mo : EM) (ma : AM) : EM := fun e M => (mo e M).bind fun x M1 => match instOf M1 x with
  | some (c', ns, _) => if c' = c ∧ m ∉ ns then (ma e M1).bind fun ds M2 => if ds.length + 1 = n then f (x :: ds) M2 else .bad else .bad
  | none => .bad
/-- C(..), an instance that may change -/
def eMake (c n : Nat) (f : List D → MH → Res D) (ma : AM) : EM := fun e M => (ma e M).bind fun ds M1 => if ds.length + 1 = n then (f (.ref M1.length :: ds) (M1 ++ [.ob c [] []])).bind fun r M2 => match r with
  | .non => .ok (.ref M1.length) M2
  | _ => .bad else .bad
/-- C(..), an instance that never changes -/
def eMakeF (c : Nat) (fs : List Str) (ma : AM) : EM := eArgs (fun ds M => if ds.length = fs.length then .ok (.ins c fs ds) M else .bad) ma
section
variable {X : Cx} {g : Wd} {W : WY} {a b o : Expr} {pos p apos : Pos} {m1 m2 : EM} {ma : AM} {es : List Expr} {k n : Nat} {f C : Addr} {fd : FuncData} {ps : List Str} {m : List D → MH → Res D} {x mn : Str} {c : Nat}
theorem de_call0 (G : FnOk X.prog X.w X.K X.mg X.base (L2N.CX X.prog X.w) k f fd ps (spD g 0 m)) (hr : Room k X.A) (tk : L2N.Takes X W.w) (hm : X.mg x = some (.ref f)) (hk : PySem.W.keepIn X.K (.ref f) = true) (hb : Binds X.K fd ps []) (hg : Gl X x := by rfl)
    (hdb : (x == ("__debug__" : Str)) = false := by decide) : PE X (.Call (.Name x p) [] [] pos) (tD g W (eCall 0 m eNil)) :=
  pe_imp (pe_call0S G hr hm hk hb (fun σ => L2N.passAt tk σ) hg hdb) fun σ H Q ⟨F, e, M, RS, q⟩ => ⟨rfl, F, M, [], RS.m, .nil, post_call q⟩
end
end T2
namespace T2
open PySem L2

/-! ### flat values, membership -/
def vOf : D → V
  | .bl b => .bl b
  | .int i => .int i
  | .str x => .str x
  | _ => .non
def flatD : D → Bool
  | .non => true
  | .bl _ => true
  | .int _ => true
  | .str _ => true
  | _ => false
theorem flat_rep {g : Wd} {F : List Addr} {H : Hp} {d : D} {v : V} (r : Rep g F H d v) (h : flatD d = true) : v = vOf d ∧ flatV v = true := by cases r <;> first | exact ⟨rfl, rfl⟩ | cases h
theorem flats_rep {g : Wd} {F : List Addr} {H : Hp} : ∀ {ds : List D} {vs : List V}, Reps g F H ds vs → ds.all flatD = true → vs = ds.map vOf ∧ vs.all flatV = true
  | _, _, .nil, _ => ⟨rfl, rfl⟩
  | _, _, .cons r t, h => by
    rw [List.all_cons, Bool.and_eq_true] at h
    obtain ⟨h1, h2⟩ := flat_rep r h.1
    obtain ⟨h3, h4⟩ := flats_rep t h.2
    exact ⟨by rw [h1, h3]; rfl, by rw [List.all_cons, h2, h4]; rfl⟩
def memD (x : D) (ys : List D) : Bool := inV (vOf x) (ys.map vOf)
/-- x in y: flat items; a sign in a text -/
def inRes (x y : D) (M : MH) : Option Bool := match y with
  | .str z => match x with
    | .str w => match w.cps.toList with
      | [c] => some (decide (c ∈ z.cps.toList))
      | _ => none
    | _ => none
  | y => match items M y with
    | some ds => if flatD x = true ∧ ds.all flatD = true then some (memD x ds) else none
    | none => none
def dIn (x y : D) (M : MH) : Res D := match inRes x y M with
  | some b => .ok (.bl b) M
  | none => .bad
def dNotIn (x y : D) (M : MH) : Res D := match inRes x y M with
  | some b => .ok (.bl (!b)) M
  | none => .bad
def rInA (K : PySem.W.Frag) : R2 := fun x y H Q => rIn K false x y H Q ∨ ∃ (c : Nat) (z : Str), x = .str ⟨#[c]⟩ ∧ y = .str z ∧ Q (.bl (decide (c ∈ z.cps.toList))) H
def rNotInA (K : PySem.W.Frag) : R2 := fun x y H Q => rIn K true x y H Q ∨ ∃ (c : Nat) (z : Str), x = .str ⟨#[c]⟩ ∧ y = .str z ∧ Q (.bl (!decide (c ∈ z.cps.toList))) H
theorem op_inA {X : Cx} : OpR X (compareOp .In) (rInA X.K) := op_in_seq.or op_in_sign
theorem op_notInA {X : Cx} : OpR X (compareOp .NotIn) (rNotInA X.K) := op_notIn_seq.or op_notIn_sign
theorem in_at {g : Wd} {F : List Addr} {M : MH} {H : Hp} {x y : D} {v w : V} {b : Bool} (R : RelM g F M H) (rx : Rep g F H x v) (ry : Rep g F H y w) (h : inRes x y M = some b) :
    (∃ p vs, w = .ref p ∧ (SqL g.K H p vs ∨ SqT g.K H p vs) ∧ flatV v = true ∧ vs.all flatV = true ∧ inV v vs = b) ∨ ∃ (c : Nat) (z : Str), v = .str ⟨#[c]⟩ ∧ w = .str z ∧ decide (c ∈ z.cps.toList) = b := by
  have key : ∀ ds, items M y = some ds → (if flatD x = true ∧ ds.all flatD = true then some (memD x ds) else none) = some b → ∃ p vs, w = .ref p ∧ (SqL g.K H p vs ∨ SqT g.K H p vs) ∧ flatV v = true ∧ vs.all flatV = true ∧ inV v vs = b := fun ds hd h => by
    split at h
    · rename_i hf
      cases h
      obtain ⟨p, vs, rfl, hs, r⟩ := items_at R ry hd
      obtain ⟨h1, h2⟩ := flat_rep rx hf.1
      obtain ⟨h3, h4⟩ := flats_rep r hf.2
      exact ⟨p, vs, rfl, hs, h2, h4, by rw [h1, h3]; rfl⟩
    · cases h
  cases y with
  | str z =>
    cases x with
    | str u =>
      dsimp only [inRes] at h
      split at h
      · rename_i c hc
        cases h; cases rx; cases ry
        refine .inr ⟨c, z, ?_, rfl, rfl⟩
        obtain ⟨arr⟩ := u
        have : arr = #[c] := by
          have h2 : arr.toList = [c] := hc
          rw [← Array.toList_inj, h2]
        rw [this]
      · cases h
    | _ => cases h
  | _ =>
    dsimp only [inRes] at h
    split at h
    · rename_i ds hd
      exact .inl (key ds hd h)
    · cases h
section
variable {X : Cx} {g : Wd} {W : WY} {a b c : Expr} {pos p : Pos} {m1 m2 m3 : EM} {ma : AM} {es : List Expr}
theorem sim_in (hK : g.K = X.K) : Sim2 g dIn (rInA X.K) := fun F M σ H W x y v w Q R rx ry q => by
  unfold dIn at q
  split at q
  · rename_i bb hb
    rcases in_at R rx ry hb with ⟨ad, vs, rfl, hs, f1, f2, e⟩ | ⟨cc, z, rfl, rfl, e⟩
    · rw [hK] at hs; exact .inl ⟨ad, vs, rfl, hs, f1, f2, by simp only [Bool.false_eq_true, if_false]; rw [e]; exact q.here R (.bl _)⟩
    · exact .inr ⟨cc, z, rfl, rfl, by rw [e]; exact q.here R (.bl _)⟩
  · exact q.elim
theorem sim_notIn (hK : g.K = X.K) : Sim2 g dNotIn (rNotInA X.K) := fun F M σ H W x y v w Q R rx ry q => by
  unfold dNotIn at q
  split at q
  · rename_i bb hb
    rcases in_at R rx ry hb with ⟨ad, vs, rfl, hs, f1, f2, e⟩ | ⟨cc, z, rfl, rfl, e⟩
    · rw [hK] at hs; exact .inl ⟨ad, vs, rfl, hs, f1, f2, by simp only [if_true]; rw [e]; exact q.here R (.bl _)⟩
    · exact .inr ⟨cc, z, rfl, rfl, by rw [e]; exact q.here R (.bl _)⟩
  · exact q.elim
/-! ### a dict of the text with text keys -/
end
end T2
namespace T2
open PySem L2
section
variable {X : Cx} {g : Wd} {W : WY} {a b c : Expr} {pos p apos : Pos} {m1 m2 m3 : EM} {ma : AM} {es : List Expr}
/-! ### slices -/
abbrev OM := Env2 → MH → Res (Option Int)
def oNone : OM := fun _ M => .ok none M
def oSome (m : EM) : OM := fun e M => (m e M).bind fun d M1 => match d with
  | .int i => .ok (some i) M1
  | _ => .bad
abbrev rO : RAT (Option Int) (Option Int) := fun _ _ _ a b => a = b
abbrev tO (g : Wd) (W : WY) (m : OM) : TO := tG g rO W m
theorem po_imp {e : Option Expr} {t t' : TO} (h : PO X e t) (i : ∀ σ H Q, t' σ H Q → t σ H Q) : PO X e t' := ⟨fun pins s σ H Q I q => h.run pins s σ H Q I (i σ H Q q)⟩
theorem do_none : PO X none (tO g W oNone) := po_imp po_none fun σ H Q ⟨F, e, M, RS, q⟩ => q.here RS.m rfl
theorem do_some (ha : PE X a (tD g W m1)) : PO X (some a) (tO g W (oSome m1)) := po_imp (po_some ha) fun σ H Q ⟨F, e, M, RS, q⟩ => ⟨F, e, M, RS, q.bind fun x M1 F1 H1 v e1 g1 R1 rx q1 => by
  cases rx with
  | int i => exact ⟨i, rfl, q1.here R1 rfl⟩
  | _ => exact q1.elim⟩
def dSl (mk : List D → MH → Res D) (x : D) (lo hi : Option Int) (M : MH) : Res D := match x with
  | .str z => if z.length ≤ big then .ok (.str (cutS z lo hi)) M else .bad
  | .tup ds => .ok (.tup (cutD ds lo hi)) M
  | x => match items M x with
    | some ds => mk (cutD ds lo hi) M
    | none => .bad
def eSl (mk : List D → MH → Res D) (m : EM) (l h : OM) : EM := fun e M => (m e M).bind fun x M1 => (l e M1).bind fun lo M2 => (h e M2).bind fun hi M3 => dSl mk x lo hi M3
/-- a new list -/
def MkOk (g : Wd) (mk : List D → MH → Res D) : Prop := ∀ (W : WX) (F : List Addr) (M : MH) (H : Hp) (σ : L2.St) (Q : VK) (ds : List D) (vs : List V) (p : Addr), RelM g F M H → Reps g F H ds vs → post g rD W F σ H (mk ds M) Q → H p = none → Q (.ref p) (upd H p (.lst vs))
theorem mkL_ok : MkOk g mkL := fun W F M H σ Q ds vs p R r q hp => mkL_post R r q hp
theorem mkF_ok : MkOk g mkF := fun W F M H σ Q ds vs p R r q hp => mkF_post R r q hp
def rSlAll (K : PySem.W.Frag) : V → Option Int → Option Int → Hp → VK → Prop := fun x lo hi H Q => rSlS x lo hi H Q ∨ rSlA K x lo hi H Q ∨ rSlL K x lo hi H Q
theorem sl_all : SlR X (rSlAll X.K) := sl_str.or (sl_tupA.or sl_list)
theorem cut_rep {F : List Addr} {H : Hp} {ds : List D} {vs : List V} (r : Reps g F H ds vs) (lo hi : Option Int) : Reps g F H (cutD ds lo hi) (cutV vs lo hi) := by
  unfold cutD cutV
  rw [r.length]
  exact (r.drop _).take _
theorem cut_whole {ds : List D} {lo hi : Option Int} (h : HT.sIx ds.length 0 lo = 0 ∧ HT.sIx ds.length ds.length hi = ds.length) : cutD ds lo hi = ds := by
  unfold cutD
  rw [h.1, h.2]; simp
theorem de_sl {lo hi : Option Expr} {l h : OM} {mk : List D → MH → Res D} {p2 : Pos} (hK : g.K = X.K) (hmk : MkOk g mk) (ha : PE X a (tD g W m1)) (hl : PO X lo (tO g W l)) (hh : PO X hi (tO g W h)) : PE X (.Subscript a (.Slice lo hi none p2) pos) (tD g W (eSl mk m1 l h)) :=
  pe_imp (pe_slice sl_all ha hl hh) fun σ H Q ⟨F, e, M, RS, q⟩ => ⟨F, e, M, RS, q.bind fun x M1 F1 H1 v e1 g1 R1 rx q1 =>
    ⟨F1, e, M1, RS.up g1 R1, q1.bind fun l0 M2 F2 H2 l1 e2 g2 R2 rl q2 => by
      cases rl
      refine ⟨F2, e, M2, (RS.up g1 R1).up g2 R2, q2.bind fun h0 M3 F3 H3 h1 e3 g3 R3 rh q3 => ?_⟩
      cases rh
      have r3 := (rx.mono g2 R1.good).mono g3 R2.good
      have key : ∀ ds, items M3 x = some ds → (∀ zs, x ≠ .tup zs) → post g rD W.w F3 σ H3 (mk (cutD ds l0 h0) M3) Q → rSlAll X.K v l0 h0 H3 Q := fun ds hd hx q4 => by
        cases r3 with
        | tup => exact absurd rfl (hx _)
        | fro h1 r1 => cases hd; exact .inr (.inr ⟨_, _, rfl, by rw [← hK]; exact h1.sq, fun p hp => hmk W.w F3 M3 H3 σ Q _ _ p R3 (cut_rep r1 _ _) q4 hp⟩)
        | ref h1 =>
          dsimp only [items] at hd
          split at hd
          · rename_i ds' hm
            cases hd
            obtain ⟨vs, hv, r⟩ := lst_at R3 h1 hm
            exact .inr (.inr ⟨_, vs, rfl, SqL.of hv, fun p hp => hmk W.w F3 M3 H3 σ Q _ _ p R3 (cut_rep r _ _) q4 hp⟩)
          · cases hd
        | _ => cases hd
      cases x with
      | str z =>
        cases r3
        dsimp only [dSl] at q3
        split at q3
        · rename_i hz; exact .inl ⟨z, rfl, bigLine hz, q3.here R3 (.str _)⟩
        · exact q3.elim
      | tup ds =>
        cases r3 with | tup h1 r1 =>
        refine .inr (.inl ⟨_, _, rfl, by rw [← hK]; exact h1, fun hw => ?_, fun hw p hp => ?_⟩)
        · rw [← r1.length] at hw
          dsimp only [dSl] at q3
          rw [cut_whole hw] at q3
          exact q3.here R3 (.tup h1 r1)
        · exact tup_post R3 (cut_rep r1 l0 h0) q3 hp
      | _ =>
        dsimp only [dSl] at q3
        split at q3
        · rename_i ds hd; exact key ds hd (by intro zs z; cases z) q3
        · exact q3.elim⟩⟩

/-! ### further operations -/
theorem sim_neg : Sim1 g dNeg (rU fun i => .int (-i)) := fun F M σ H W x v Q R rx q => by
  unfold dNeg at q
  split at q
  · cases rx; exact ⟨_, rfl, q.here R (.int _)⟩
  · exact q.elim
theorem de_neg (ha : PE X a (tD g W m1)) : PE X (.UnaryOp .USub a pos) (tD g W (eUn dNeg m1)) := pe_imp (pe_un un_neg ha) fun σ H Q q => un_imp sim_neg q
/-- a op b op' c, the answers bools -/
def eChain (f f' : D → D → MH → Res D) (m1 m2 m3 : EM) : EM := fun e M => (m1 e M).bind fun x M1 => (m2 e M1).bind fun y M2 => (f x y M2).bind fun r M3 => match r with
  | .bl true => (m3 e M3).bind fun z M4 => f' y z M4
  | .bl false => .ok (.bl false) M3
  | _ => .bad
theorem chain_imp {f f' : D → D → MH → Res D} {r r' : R2} (hs : Sim2 g f r) (hs' : Sim2 g f' r') {σ : L2.St} {H : Hp} {Q : VK} (q : tD g W (eChain f f' m1 m2 m3) σ H Q) : tChain r r' (tD g W m1) (tD g W m2) (tD g W m3) σ H Q := by
  obtain ⟨F, e, M, RS, q⟩ := q
  refine ⟨F, e, M, RS, q.bind fun x M1 F1 H1 v e1 g1 R1 rx q1 => ?_⟩
  have RS1 := RS.up g1 R1
  refine ⟨F1, e, M1, RS1, q1.bind fun y M2 F2 H2 w e2 g2 R2 ry q2 => ?_⟩
  have RS2 := RS1.up g2 R2
  refine hs F2 M2 σ H2 W.w x y v w _ R2 (rx.mono g2 R1.good) ry (q2.bind fun z M3 F3 H3 u e3 g3 R3 rz q3 => ?_)
  cases rz with
  | bl k =>
    refine ⟨k, rfl, ?_⟩
    cases k with
    | true =>
      rw [if_pos rfl]
      refine ⟨F3, e, M3, RS2.up g3 R3, q3.bind fun t M4 F4 H4 u4 e4 g4 R4 rt q4 => ?_⟩
      exact hs' F4 M4 σ H4 W.w y t w u4 Q R4 ((ry.mono g3 R2.good).mono g4 R3.good) rt q4
    | false =>
      rw [if_neg Bool.false_ne_true]
      exact q3.here R3 (.bl false)
  | _ => exact q3.elim
theorem de_chain {op op' : CmpOp} {f f' : D → D → MH → Res D} {r r' : R2} (ho : OpR X (compareOp op) r) (ho' : OpR X (compareOp op') r') (hs : Sim2 g f r) (hs' : Sim2 g f' r') (ha : PE X a (tD g W m1)) (hb : PE X b (tD g W m2)) (hc : PE X c (tD g W m3))
    (hm : lastMarks [op, op'] [b, c] = false := by with_unfolding_all rfl) : PE X (.Compare a [op, op'] [b, c] pos) (tD g W (eChain f f' m1 m2 m3)) := pe_imp (pe_chain ho ho' ha hb hc hm) fun σ H Q q => chain_imp hs hs' q
theorem de_lele (ha : PE X a (tD g W m1)) (hb : PE X b (tD g W m2)) (hc : PE X c (tD g W m3)) (hm : lastMarks [.LtE, .LtE] [b, c] = false := by with_unfolding_all rfl) : PE X (.Compare a [.LtE, .LtE] [b, c] pos) (tD g W (eChain dLe dLe m1 m2 m3)) := de_chain op_le op_le sim_cmpI sim_cmpI ha hb hc hm
/-- xs.append(e) -/
def eApp (mo ma : EM) : EM := fun e M => (mo e M).bind fun x M1 => match x with
  | .ref n => match M1[n]? with
    | some (.lst _) => (ma e M1).bind fun y M2 => match M2[n]? with
      | some (.lst ds) => if ds.length < big then .ok .non (M2.set n (.lst (ds ++ [y]))) else .bad
      | _ => .bad
    | _ => .bad
  | _ => .bad
theorem de_app {o : Expr} (ho : PE X o (tD g W m1)) (ha : PE X a (tD g W m2)) (hst : starEach [a] X.env = (false, eval a X.env) :: starEach [] X.env := by rfl)
    (hpe : ∀ {to : TE} {t : TA}, PE X o to → PA X [a] t → PE X (.Call (.Attribute o "append" apos) [a] [] pos) (tBM X.K "list" rAppend to t) := by intro _ _ h1 h2; exact pe_bm PySem.F.plainAttrs_list PySem.F.slot_list_append PySem.F.type_list_append mt_append h1 h2) :
    PE X (.Call (.Attribute o "append" apos) [a] [] pos) (tD g W (eApp m1 m2)) :=
  pe_imp (hpe ho (de_cons ha de_nil hst)) fun σ H Q ⟨F, e, M, RS, q⟩ => ⟨F, e, M, RS, q.bind fun x M1 F1 H1 v e1 g1 R1 rx q1 => by
    cases x with
    | ref n =>
      cases rx with | ref hn =>
      dsimp only at q1
      split at q1
      · rename_i ds0 hd0
        obtain ⟨vs0, hv0, r0⟩ := lst_at R1 hn hd0
        refine ⟨.inl ⟨rfl, vs0, SqL.of hv0⟩, F1, e, M1, RS.up g1 R1, ?_⟩
        unfold eCons eNil
        refine (?_ : post g rDs W.w F1 σ H1 ((m2 e M1).bind fun x M1 => .ok [x] M1) _)
        cases h2 : m2 e M1 with
        | ok y M2 =>
          rw [h2] at q1
          intro F2 H2 us g2 R2 r2
          obtain ⟨u, rfl, ru⟩ := one_rep r2
          have hn2 := pre_get g2.pre hn
          dsimp only [Res.bind] at q1
          split at q1
          · rename_i ds hd
            obtain ⟨vs, hv, r⟩ := lst_at R2 hn2 hd
            split at q1
            · rename_i hl
              refine ⟨_, vs, u, rfl, rfl, hv, by rw [← r.length]; exact Nat.lt_of_lt_of_le hl (by decide), ?_⟩
              obtain ⟨g3, R3⟩ := R2.put (o := .lst (vs ++ [u])) (m := .lst (ds ++ [y])) hn2 trivial fun H' gr => .lst ((r.mono gr R2.good).append (.cons (ru.mono gr R2.good) .nil))
              exact (q1.up g2).ok g3 R3 .non
            · exact q1.elim
          · exact q1.elim
        | exc c ns ds M2 => rw [h2] at q1; exact q1
        | bad => rw [h2] at q1; exact q1.elim
      · exact q1.elim
    | _ => exact q1.elim⟩
end
end T2
namespace T2
open PySem L2

/-! ### isinstance -/
abbrev Tg := Sum String Nat
def tagOf (M : MH) : D → Option Tg
  | .non => some (.inl "NoneType")
  | .bl _ => some (.inl "bool")
  | .int _ => some (.inl "int")
  | .str _ => some (.inl "str")
  | .tup _ => some (.inl "tuple")
  | .fro _ => some (.inl "list")
  | .ins c _ _ => some (.inr c)
  | .ref n => match M[n]? with
    | some (.lst _) => some (.inl "list")
    | some (.dk _ _) => some (.inl "dict")
    | some (.dt _ _) => some (.inl "dict")
    | some (.ob c _ _) => some (.inr c)
    | _ => none
  | _ => none
def clsTag : D → Option Tg
  | .ty n => some (.inl n)
  | .cls c => some (.inr c)
  | _ => none
def dIsi (isi : Tg → Tg → Option Bool) (ds : List D) (M : MH) : Res D := match ds with
  | [x, c] => match tagOf M x, clsTag c with
    | some t, some u => (match isi t u with
      | some b => .ok (.bl b) M
      | none => .bad)
    | _, _ => .bad
  | _ => .bad
def tagV (g : Wd) : Tg → Value
  | .inl n => .type n
  | .inr c => .ref (g.ca c)
structure ClsI (K : PySem.W.Frag) (C : Addr) : Prop where
  cl : Cls K C
  ha : PySem.W.findIn K (.ref C) "__class__" = some (some (.builtin "object.__class__"))
  hn : PySem.W.specialIn K (.builtin "object.__class__") "__get__" = some (some (.builtin "getset_descriptor.__get__"))
  ht : PySem.W.takesIn K (.builtin "object.__class__") = some true
  hm : PySem.W.mroIn K C (.type "object") = some true
structure IsiOk (g : Wd) (isi : Tg → Tg → Option Bool) : Prop where
  kit : ∀ t c b, isi t c = some b → PySem.W.kitOne g.K (tagV g t) (tagV g c) = some b
  own : ∀ c t b, isi (.inr c) t = some b → ClsI g.K (g.ca c)
section
variable {X : Cx} {g : Wd} {W : WY} {a b c : Expr} {pos p apos : Pos} {m1 m2 m3 : EM} {ma : AM} {es : List Expr}
theorem tag_ty {isi : Tg → Tg → Option Bool} (I : IsiOk g isi) {F : List Addr} {M : MH} {H : Hp} {x : D} {v : V} {t u : Tg} {bb : Bool} (R : RelM g F M H) (r : Rep g F H x v) (h : tagOf M x = some t) (hi : isi t u = some bb) : TyX g.K H v (tagV g t) := by
  cases r with
  | non => cases h; exact .base .non
  | bl => cases h; exact .base (.bl _)
  | int => cases h; exact .base (.int _)
  | str => cases h; exact .base (.str _)
  | ty => cases h
  | cls => cases h
  | obj => cases h
  | tk => cases h
  | tup h1 r1 =>
    cases h
    rcases h1 with (h1 | ⟨o, h1⟩) | ⟨o, its, n, h1, h2, _⟩
    · exact .base (.tup h1)
    · exact .fTuple h1
    · exact .kTuple h1 h2
  | fro h1 r1 =>
    cases h
    rcases h1 with ⟨h1, _⟩ | ⟨o, h1⟩ | ⟨o, its, n, h1, h2, _⟩
    · exact .base (.lst h1)
    · exact .base (.frz h1)
    · exact .kList h1 h2
  | ins h1 h2 h3 r1 =>
    cases h
    have C := I.own _ _ _ hi
    exact .base (.ins h1 C.cl C.ha C.hn C.ht C.hm)
  | ref hn =>
    dsimp only [tagOf] at h
    split at h
    · rename_i hm; cases h; obtain ⟨o, e, ro⟩ := R.obj _ _ _ hn hm; cases ro; exact .base (.lst e)
    · rename_i hm; cases h; obtain ⟨o, e, ro⟩ := R.obj _ _ _ hn hm; cases ro; exact .base (.dK e)
    · rename_i hm; cases h; obtain ⟨o, e, ro⟩ := R.obj _ _ _ hn hm; cases ro; exact .base (.dT e)
    · rename_i hm; cases h; obtain ⟨o, e, ro⟩ := R.obj _ _ _ hn hm; cases ro
      have C := I.own _ _ _ hi
      exact .base (.ins e C.cl C.ha C.hn C.ht C.hm)
    · cases h
theorem sim_isi {isi : Tg → Tg → Option Bool} (I : IsiOk g isi) (hK : g.K = X.K) : SimA g (dIsi isi) (rIsi X.K) := fun F M σ H W ds vs Q R r q => by
  unfold dIsi at q
  split at q
  · rename_i x cc
    obtain ⟨v, w, rfl, rv, rw⟩ := two_rep r
    split at q
    · rename_i t u h1 h2
      split at q
      · rename_i bb hb
        have ty := tag_ty I R rv h1 hb
        have kt := I.kit _ _ _ hb
        rw [hK] at ty kt
        refine ⟨v, w, tagV g t, tagV g u, bb, rfl, ?_, ty, kt, q.here R (.bl _)⟩
        cases rw with
        | ty n => cases h2; exact .ty n
        | cls n => cases h2; exact .own _
        | _ => cases h2
      · exact q.elim
    · exact q.elim
  · exact q.elim
theorem de_isi {isi : Tg → Tg → Option Bool} (I : IsiOk g isi) (hK : g.K = X.K) (ha : PA X (a :: es) (tA g W ma)) (hm : X.mg "isinstance" = none) (hg : Gl X "isinstance" := by rfl) (he : starEach (a :: es) X.env = (false, eval a X.env) :: starEach es X.env := by rfl)
    (hpl : (backTo pos (starEach es X.env)).any (·.1) = false := by rfl) : PE X (.Call (.Name "isinstance" p) (a :: es) [] pos) (tD g W (eArgs (dIsi isi) ma)) := de_callB call_isi (sim_isi I hK) hm (by decide +kernel) ha hg (by decide) (by decide) he hpl
end

/-! ### list comprehensions (one clause) -/
def wipe2 (e : Env2) : List Nat → Env2
  | [] => e
  | v :: vs => (wipe2 e vs).set v none
theorem wipe_rep {g : Wd} {F : List Addr} {H : Hp} {e : Env2} {σ : L2.St} (r : EnvR g F H e σ) : ∀ vs : List Nat, EnvR g F H (wipe2 e vs) (wipe σ vs)
  | [] => r
  | v :: vs => (wipe_rep r vs).unset v none
/-- what is raised within a comprehension is not spoken of -/
def noX {A : Type} (r : Res A) : Res A := match r with
  | .exc _ _ _ _ => .bad
  | r => r
def lcStep (tg : TgM) (tt : BM) (m : EM) (e : Env2) (x : D) (M : MH) : Res (Option D) := match tg x e with
  | none => .bad
  | some e1 => (noX (tt e1 M)).bind fun b M1 => if b = true then (noX (m e1 M1)).bind fun y M2 => .ok (some y) M2 else .ok none M1
/-- y goes behind the list at n -/
def pushAt (n : Nat) (o : Option D) (M : MH) : Option MH := match o with
  | none => some M
  | some y => match M[n]? with
    | some (.lst acc) => if acc.length < big then some (M.set n (.lst (acc ++ [y]))) else none
    | _ => none
def lcV (tg : TgM) (tt : BM) (m : EM) (e : Env2) (n : Nat) : List D → MH → Res D
  | [], M => .ok (.ref n) M
  | x :: xs, M => (lcStep tg tt m e x M).bind fun o M1 => match pushAt n o M1 with
    | some M2 => lcV tg tt m e n xs M2
    | none => .bad
def lcL (tg : TgM) (tt : BM) (m : EM) (e : Env2) (n s : Nat) : Nat → Nat → MH → Res D
  | 0, i, M => match M[s]? with
    | some (.lst ds) => if ds.length ≤ i then .ok (.ref n) M else .bad
    | _ => .bad
  | k + 1, i, M => match M[s]? with
    | some (.lst ds) => match ds[i]? with
      | none => .ok (.ref n) M
      | some x => (lcStep tg tt m e x M).bind fun o M1 => match pushAt n o M1 with
        | some M2 => lcL tg tt m e n s k (i + 1) M2
        | none => .bad
    | _ => .bad
/-- [m for .. in it if tt]: the list stands at its place from the start -/
def eLc (it : Env2 → MH → Res IV) (tg : TgM) (tt : BM) (m : EM) (vs : List Nat) : EM := fun e M => match it e M with
  | .ok (.vals ds) M1 => lcV tg tt m (wipe2 e vs) M1.length ds (M1 ++ [.lst []])
  | .ok (.live s) M1 => match M1[s]? with
    | some (.lst ds) => lcL tg tt m (wipe2 e vs) M1.length s ds.length 0 (M1 ++ [.lst []])
    | _ => .bad
  | .exc c ns ds M1 => .exc c ns ds M1
  | .bad => .bad
def bYes : BM := fun _ M => .ok true M
abbrev W0 : WY := ⟨fun _ _ _ _ => False, ⟨[], []⟩⟩
/-- the target's slots are the comprehension's own -/
def TgOwn (tg : TgM) (gt : TG) (vs : List Nat) : Prop := ∀ (v : V) (σ : L2.St) (H : Hp) (Q : L2.St → Hp → Prop), gt v (wipe σ vs) H Q → gt v (wipe σ vs) H fun σ2 H2 => wipe σ2 vs = wipe σ vs ∧ Q σ2 H2
theorem wipe_get (σ : L2.St) : ∀ (vs : List Nat) (i : Nat), i ∈ vs → ∀ x, (wipe (σ.set i x) vs) = wipe σ vs
  | [], _, h, _ => by simp at h
  | v :: vs, i, h, x => by
    unfold wipe
    by_cases hi : i ∈ vs
    · rw [wipe_get σ vs i hi x]
    · have : i = v := by simp at h; rcases h with h | h; exact h; exact absurd h hi
      subst this
      have key : ∀ (ws : List Nat) (y : Option V), i ∉ ws → wipe (σ.set i y) ws = (wipe σ ws).set i y := by
        intro ws y
        induction ws with
        | nil => intro _; rfl
        | cons w ws ih =>
          intro hn
          simp at hn
          unfold wipe
          rw [ih hn.2]
          exact List.set_comm _ _ hn.1
      rw [key vs x hi, List.set_set]
theorem wipe_wipe (σ : L2.St) : ∀ (vs ws : List Nat), (∀ i ∈ vs, i ∈ ws) → wipe (wipe σ vs) ws = wipe σ ws
  | [], ws, _ => rfl
  | v :: vs, ws, h => by
    show wipe ((wipe σ vs).set v none) ws = _
    rw [wipe_get _ ws v (h v (by simp)) none]
    exact wipe_wipe σ vs ws fun i hi => h i (by simp [hi])
theorem tgName_own (i : Nat) {vs : List Nat} (h : i ∈ vs) : TgOwn (tgName i) (gName i) vs := fun v σ H Q q => ⟨by
  rw [wipe_get _ vs i h]
  exact wipe_wipe σ vs vs fun _ z => z, q⟩
section
variable {X : Cx} {g : Wd} {W : WY} {pos : Pos} {m : EM} {tt : BM}
/-- one item of the comprehension -/
theorem lcStep_run {F : List Addr} {e : Env2} {M : MH} {σ : L2.St} {H : Hp} {x : D} {v : V} {tg : TgM} {gt : TG} {vs : List Nat} {n : Nat} {ad : Addr} {k : MH → Res D} {Q : VK} {Nx : Hp → Prop} {τ : L2.St}
    (RS : RelS g ⟨[], []⟩ F (wipe2 e vs) M (wipe σ vs) H) (ts : TgSim g tg gt) (ow : TgOwn tg gt vs) (r : Rep g F H x v) (hn : F[n]? = some ad)
    (q : post g rD W.w F τ H ((lcStep tg tt m (wipe2 e vs) x M).bind fun o M1 => match pushAt n o M1 with | some M2 => k M2 | none => .bad) Q)
    (f : ∀ M1 F1 H1, Grow F H F1 H1 → RelM g F1 M1 H1 → post g rD W.w F1 τ H1 (k M1) Q → Nx H1) :
    gt v (wipe σ vs) H fun σ2 H2 => wipe σ2 vs = wipe σ vs ∧ tB2 g W0 tt σ2 H2 fun b H3 => if b = true then tD g W0 m σ2 H3 fun y H4 => ∃ acc, H4 ad = some (.lst acc) ∧ acc.length < sizeLine ∧ Nx (upd H4 ad (.lst (acc ++ [y]))) else Nx H3 := by
  unfold lcStep at q
  cases ht : tg x (wipe2 e vs) with
  | none => rw [ht] at q; exact q.elim
  | some e1 =>
    rw [ht] at q
    dsimp only at q
    refine ow v σ H _ (ts F M _ e1 _ H x v _ RS.m RS.e r ht fun σ2 E2 => ?_)
    refine ⟨F, e1, M, ⟨RS.m, E2, pin_nil, xrs_nil⟩, ?_⟩
    cases hb : tt e1 M with
    | bad => rw [hb] at q; exact q.elim
    | exc c ns ds M1 => rw [hb] at q; exact q.elim
    | ok b M1 =>
      rw [hb] at q
      intro F1 H1 b' g1 R1 eb
      cases eb
      dsimp only [Res.bind, noX] at q
      have RS1 : RelS g ⟨[], []⟩ F1 e1 M1 σ2 H1 := RelS.up ⟨RS.m, E2, pin_nil, xrs_nil⟩ g1 R1
      cases b with
      | false => exact f M1 F1 H1 g1 R1 (q.up g1)
      | true =>
        refine ⟨F1, e1, M1, RS1, ?_⟩
        rw [if_pos rfl] at q
        cases hm : m e1 M1 with
        | bad => rw [hm] at q; exact q.elim
        | exc c ns ds M2 => rw [hm] at q; exact q.elim
        | ok y M2 =>
          rw [hm] at q
          intro F2 H2 u g2 R2 ru
          have hn2 : F2[n]? = some ad := pre_get g2.pre (pre_get g1.pre hn)
          have g12 := g1.trans g2
          dsimp only [Res.bind, pushAt, noX] at q
          cases hM : M2[n]? with
          | none => rw [hM] at q; exact q.elim
          | some o =>
            rw [hM] at q
            cases o with
            | lst acc =>
              dsimp only at q
              by_cases hl : acc.length < big
              · rw [if_pos hl] at q
                obtain ⟨us, hu, ra⟩ := lst_at R2 hn2 hM
                refine ⟨us, hu, by rw [← ra.length]; exact Nat.lt_of_lt_of_le hl (by decide), ?_⟩
                obtain ⟨g3, R3⟩ := R2.put (o := .lst (us ++ [u])) (m := .lst (acc ++ [y])) hn2 trivial fun H' gr => .lst ((ra.mono gr R2.good).append (.cons (ru.mono gr R2.good) .nil))
                exact f _ F2 _ (g12.trans g3) R3 (q.up (g12.trans g3))
              · rw [if_neg hl] at q; exact q.elim
            | _ => exact q.elim
theorem eLc_imp {it : Env2 → MH → Res IV} {wi : TI} {tg : TgM} {gt : TG} {vs : List Nat} (hsim : ItSim g W it wi) (ts : TgSim g tg gt) (ow : TgOwn tg gt vs) {σ : L2.St} {H : Hp} {Q : VK} (q : tD g W (eLc it tg tt m vs) σ H Q) : tLc wi gt (tB2 g W0 tt) (tD g W0 m) vs σ H Q := by
  obtain ⟨F, e, M, RS, q⟩ := q
  refine hsim σ H F e M _ RS ?_
  unfold eLc at q
  cases hi : it e M with
  | bad => rw [hi] at q; exact q
  | exc c ns ds M1 => rw [hi] at q; exact q
  | ok iv M1 =>
    rw [hi] at q
    cases iv with
    | vals ds =>
      intro F1 H1 J g1 R1 itv ad had
      obtain ⟨g2, R2⟩ := R1.laid (m := .lst []) (o := .lst []) had fun F' H' gr => .lst .nil
      have RS2 : RelS g W.p (F1 ++ [ad]) e (M1 ++ [.lst []]) σ (upd H1 ad (.lst [])) := (RS.up g1 R1).up g2 R2
      have hn0 : (F1 ++ [ad])[M1.length]? = some ad := by rw [← R1.len]; simp
      refine ⟨fun i k H' => i + k = ds.length ∧ ∃ F' M', Grow (F1 ++ [ad]) (upd H1 ad (.lst [])) F' H' ∧ RelM g F' M' H' ∧ post g rD W.w F' σ H' (lcV tg tt m (wipe2 e vs) M1.length (ds.drop i) M') Q, ⟨ds.length, by simp, F1 ++ [ad], M1 ++ [.lst []], .same, R2, by simpa using q.up (g1.trans g2)⟩, ?_⟩
      rintro i k H3 ⟨hk, F3, M3, g3, R3, q3⟩
      have hn3 : F3[M1.length]? = some ad := pre_get g3.pre hn0
      by_cases hlt : i < ds.length
      · refine .inr ⟨itv.go F3 H3 i (g2.trans g3) hlt, fun H' => ∃ F' M', Grow (F1 ++ [ad]) (upd H1 ad (.lst [])) F' H' ∧ RelM g F' M' H' ∧ post g rD W.w F' σ H' (lcV tg tt m (wipe2 e vs) M1.length (ds.drop (i + 1)) M') Q, fun H' z => ⟨k - 1, by omega, by omega, z⟩, fun x H4 hy => ?_⟩
        obtain ⟨hk4, d, hd, rd⟩ := itv.yld F3 H3 i x H4 (g2.trans g3) hlt hy
        obtain ⟨gk, Rk⟩ := R3.keep hk4
        replace q3 := q3.up gk
        replace g3 := g3.trans gk
        replace R3 := Rk
        rw [drop_cons' hd] at q3
        unfold lcV at q3
        have RS3 : RelS g ⟨[], []⟩ F3 (wipe2 e vs) M3 (wipe σ vs) H4 := ⟨R3, wipe_rep (RS2.up g3 R3).e vs, pin_nil, xrs_nil⟩
        exact lcStep_run RS3 ts ow rd hn3 q3 fun M5 F5 H5 g5 R5 q5 => ⟨F5, M5, g3.trans g5, R5, q5⟩
      · have hge : ds.length ≤ i := Nat.le_of_not_lt hlt
        rw [List.drop_eq_nil_of_le hge] at q3
        exact .inl ⟨itv.stop F3 H3 i (g2.trans g3) hge, q3.here R3 (.ref hn3)⟩
    | live sr =>
      dsimp only at q
      split at q
      · rename_i ds0 hd0
        refine ⟨ds0, hd0, fun F1 H1 as g1 R1 has ad had => ?_⟩
        obtain ⟨g2, R2⟩ := R1.laid (m := .lst []) (o := .lst []) had fun F' H' gr => .lst .nil
        have RS2 : RelS g W.p (F1 ++ [ad]) e (M1 ++ [.lst []]) σ (upd H1 ad (.lst [])) := (RS.up g1 R1).up g2 R2
        have hn0 : (F1 ++ [ad])[M1.length]? = some ad := by rw [← R1.len]; simp
        have hs0 : (F1 ++ [ad])[sr]? = some as := pre_get (List.prefix_append _ _) has
        refine ⟨fun i k H' => ∃ F' M', Grow (F1 ++ [ad]) (upd H1 ad (.lst [])) F' H' ∧ RelM g F' M' H' ∧ post g rD W.w F' σ H' (lcL tg tt m (wipe2 e vs) M1.length sr k i M') Q, ⟨ds0.length, F1 ++ [ad], M1 ++ [.lst []], .same, R2, q.up (g1.trans g2)⟩, ?_⟩
        rintro i k H3 ⟨F3, M3, g3, R3, q3⟩
        have hn3 : F3[M1.length]? = some ad := pre_get g3.pre hn0
        have hs3 : F3[sr]? = some as := pre_get g3.pre hs0
        cases k with
        | zero =>
          unfold lcL at q3
          split at q3
          · rename_i ds hd
            obtain ⟨us, hu, ru⟩ := lst_at R3 hs3 hd
            split at q3
            · rename_i hl
              exact .inl ⟨⟨us, SqL.of hu, by rw [← ru.length]; exact hl⟩, q3.here R3 (.ref hn3)⟩
            · exact q3.elim
          · exact q3.elim
        | succ k =>
          unfold lcL at q3
          split at q3
          · rename_i ds hd
            obtain ⟨us, hu, ru⟩ := lst_at R3 hs3 hd
            split at q3
            · rename_i hx
              exact .inl ⟨⟨us, SqL.of hu, by rw [← ru.length]; exact List.getElem?_eq_none_iff.mp hx⟩, q3.here R3 (.ref hn3)⟩
            · rename_i d hx
              obtain ⟨v, hv, rv⟩ := ru.get hx
              refine .inr ⟨⟨us, v, SqL.of hu, hv⟩, fun H' => ∃ F' M', Grow (F1 ++ [ad]) (upd H1 ad (.lst [])) F' H' ∧ RelM g F' M' H' ∧ post g rD W.w F' σ H' (lcL tg tt m (wipe2 e vs) M1.length sr k (i + 1) M') Q, fun H' z => ⟨k, Nat.lt_succ_self k, z⟩, ?_⟩
              rintro x H4 ⟨rfl, hy⟩
              have ex : v = x := Option.some.inj (hv.symm.trans (hy us (SqL.of hu)))
              subst ex
              have RS3 : RelS g ⟨[], []⟩ F3 (wipe2 e vs) M3 (wipe σ vs) H4 := ⟨R3, wipe_rep (RS2.up g3 R3).e vs, pin_nil, xrs_nil⟩
              exact lcStep_run RS3 ts ow rv hn3 q3 fun M5 F5 H5 g5 R5 q5 => ⟨F5, M5, g3.trans g5, R5, q5⟩
          · exact q3.elim
      · exact q.elim
variable {elt tgE iter : Expr} {ifs : List Expr} {scope : Scope} {own : List (Str × Nat)}
theorem de_lc {it : Env2 → MH → Res IV} {wi : TI} {tg : TgM} {gt : TG} (hN : X.N.Nodup) (hi : PI X tgE iter wi) (hsim : ItSim g W it wi) (ok : BlkOk X.N X.env.scope scope own) (ts : TgSim g tg gt) (ow : TgOwn tg gt (own.map (·.2)))
    (hg : ∀ (s : Shared) (H : Hp) (C : Addr) (cl : List (Str × Addr)) (fp : List Addr), PG (X.blk s H scope (compEnvC scope cl C X.env) fp) tgE gt) (ht : ∀ (s : Shared) (H : Hp) (C : Addr) (cl : List (Str × Addr)) (fp : List Addr), PTs (X.blk s H scope (compEnvC scope cl C X.env) fp) ifs (tB2 g W0 tt))
    (he : ∀ (s : Shared) (H : Hp) (C : Addr) (cl : List (Str × Addr)) (fp : List Addr), PE (X.blk s H scope (compEnvC scope cl C X.env) fp) elt (tD g W0 m)) (hc : X.calm = true := by rfl) (hs : ∀ x, foldedSetIterable iter X.env x = pure x := by intro _; rfl) :
    PE X (.ListComp elt [⟨tgE, iter, ifs, 0⟩] scope pos) (tD g W (eLc it tg tt m (own.map (·.2)))) := pe_imp (pe_lc hc hN hi ok hg ht he hs) fun σ H Q q => eLc_imp hsim ts ow q
theorem dts_nil : PTs X [] (tB2 g W bYes) := ⟨fun pins s σ H Q I ⟨F, e, M, RS, q⟩ => pts_nil.run pins s σ H Q I (q.here RS.m rfl)⟩
theorem dts_one {c : Expr} {b1 : BM} (h : PT X c (tB2 g W b1)) : PTs X [c] (tB2 g W b1) := pts_one h
end
end T2
namespace T2
open PySem L2

/-! ### raise, try -/
def sRaise0 (c : Nat) : SM := fun e M => .ex c [] [] e M
/-- behind a suite its name is gone -/
def unbind (i : Nat) (r : SR) : SR := match r with
  | .nx e2 M2 => .nx (e2.set i none) M2
  | .bk e2 M2 => .bk (e2.set i none) M2
  | .ct e2 M2 => .ct (e2.set i none) M2
  | .rt d M2 => .rt d M2
  | _ => .bad
/-- try: body except C as n: suite (n in slot i); ct tells whether the clause takes an exception of the class -/
def sTry (i : Nat) (ct : Nat → Option Bool) (body : SM) (suite : Nat → List Str → List D → SM) : SM := fun e M => match body e M with
  | .ex c ns ds e1 M1 => match ct c with
    | some true => if i < e1.length then unbind i (suite c ns ds (e1.set i none) M1) else .bad
    | some false => .ex c ns ds e1 M1
    | none => .bad
  | r => r
/-- within a suite: the name's slot, the exception's address, its fields -/
abbrev WS (i : Nat) (ad : Addr) (ns : List Str) (ds : List D) (d : Option Addr) : WY := ⟨fun _ _ _ _ => False, ⟨[(i, ad)], [(ns, ds, d)]⟩⟩
section
variable {X : Cx} {g : Wd} {W : WY} {a b : Expr} {pos p apos : Pos} {m1 m2 m3 : EM} {ma : AM} {es : List Expr} {s1 : SM}
theorem ds_raise0 {c : Nat} {x m : Str} {j : Nat} {p2 pos2 : Pos} {B newId initId} {bmB} (Fx : ExcBaseFacts B newId initId bmB) (q : PySem.W.excIn X.K (g.ca c) bmB newId = true) (gC : X.mg x = some (.ref (g.ca c))) (kC : PySem.W.keepIn X.K (.ref (g.ca c)) = true)
    (sB : PySem.W.subIn X.K (.ref (g.ca c)) (.type "BaseException") = some true) (tB : PySem.W.typeIn X.K (.ref (g.ca c)) = some (.type "type")) (tk : L2N.Takes X W.w) (hc : X.calm = true := by rfl) (hg : Gl X x := by rfl) (hdb : (x == ("__debug__" : Str)) = false := by decide) :
    PS X (.Raise (some (.Call (.Name x p) [.Constant (.str m) j p2] [] pos)) none pos2) (tS g W (sRaise0 c)) :=
  ps_imp (L2N.ps_raise hc tk (L2N.pmk_own Fx q gC kC (raises_own sB tB) hg hdb)) fun E σ H ⟨F, e, M, RS, q⟩ => q F H σ none .same RS.m RS.e .no
theorem ds_try {i : Nat} {n x : Str} {np pos' : Pos} {body sts : List Stmt} {b0 : Stmt} {h : Nat} {ct : Nat → Option Bool} {suite : Nat → List Str → List D → SM} (px : W.p.xs = []) (hN : X.N.Nodup) (gC : X.mg x = some (.ref (g.ca h))) (hct : ∀ c bb, ct c = some bb → PySem.W.exmOne X.K (.ref (g.ca c)) (.ref (g.ca h)) = some bb) (tk : L2N.Takes X W.w)
    (hb : ∀ (w1 : WX) (pn : List (Addr × Obj)) (xe : Value → Shared → Prop), L2N.Takes (X.tr pn xe) w1 → PassesOwn (model X.prog X.w) X.A X.env xe → PSs (X.tr pn xe) body (tS g ⟨w1, W.p⟩ s1))
    (hsu : ∀ (ad : Addr) (oe : Obj) (c : Nat) (d : Option Addr) (pn : List (Addr × Obj)) (ns : List Str) (ds : List D), L2N.Zn (.ref (g.ca c)) d oe → (∃ vs, oe.data = .fields vs) → (ns = [] → d = none) → PSs (X.suite ad ((ad, oe) :: pn)) (b0 :: sts) (tS g (WS i ad ns ds d) (suite c ns ds)))
    (hi : X.N[i]? = some n := by rfl) (hln : X.env.kindOf n = some .local := by rfl) (hs : X.stack = X.env :: X.outer := by rfl) (hf : X.env.frame = some X.env.locals := by rfl) (hg : Gl X x := by rfl) (hdb : (x == ("__debug__" : Str)) = false := by decide) :
    PS X (.Try body [.ExceptHandler (some (.Name x np)) (some n) (b0 :: sts) pos'] [] [] pos) (tS g W (sTry i ct s1 suite)) := by
  refine ps_imp (L2N.ps_try_as (i := i) (c := .ref (g.ca h)) (tb := fun W1 => tS g ⟨W1, W.p⟩ s1) (ts := fun ad cls d => fun E σ H => ∃ c ns ds, cls = .ref (g.ca c) ∧ (ns = [] → d = none) ∧ tS g (WS i ad ns ds d) (suite c ns ds) E σ H) (Wout := W.w) hs hf hN hi hln ⟨hg, hdb, .inl gC⟩ tk (fun W1 pn xe t po => hb W1 pn xe t po) ?_) ?_
  · intro ad oe cls d pn hz hv
    refine ⟨fun pins s σ H E I ⟨c, ns, ds, ec, hd, q⟩ => ?_⟩
    subst ec
    exact (hsu ad oe c d pn ns ds hz hv hd).run pins s σ H E I q
  · rintro E σ H ⟨F, e, M, RS, q⟩
    refine ⟨F, e, M, RS, ?_⟩
    unfold sTry at q
    cases hm : s1 e M with
    | nx e1 M1 => rw [hm] at q; exact q
    | rt d M1 => rw [hm] at q; exact q
    | bk e1 M1 => rw [hm] at q; exact q
    | ct e1 M1 => rw [hm] at q; exact q
    | bad => rw [hm] at q; exact q
    | ex c ns ds e1 M1 =>
      rw [hm] at q
      intro F1 H1 σ1 d g1 R1 E1 x1
      dsimp only at q
      cases hc : ct c with
      | none => rw [hc] at q; exact q.elim
      | some bb =>
        rw [hc] at q
        refine ⟨bb, hct c bb hc, fun hbb ad had => ?_, fun hbb => ?_⟩
        · subst hbb
          dsimp only at q
          by_cases hl : i < e1.length
          · rw [if_pos hl] at q
            have hl2 : i < σ1.length := by rw [← E1.length]; exact hl
            refine ⟨c, ns, ds, rfl, fun z => ?_, F1, e1.set i none, M1, ⟨R1, E1.unset i _, fun pp hp => ?_, fun t ht => ?_⟩, ?_⟩
            · cases x1 with
              | no => rfl
              | so _ hne => exact absurd z hne
            · have : pp = (i, ad) := by simpa using hp
              subst this
              exact List.getElem?_set_self hl2
            · have : t = (ns, ds, d) := by simpa using ht
              subst this
              exact x1
            · have q := q.up g1
              cases hs2 : suite c ns ds (e1.set i none) M1 with
              | nx e2 M2 => rw [hs2] at q; exact fun F2 H2 σ2 g2 R2 E2 _ => q F2 H2 _ g2 R2 (E2.unset i none) (by rw [px]; exact pin_nil)
              | bk e2 M2 => rw [hs2] at q; exact fun F2 H2 σ2 g2 R2 E2 _ => q F2 H2 _ g2 R2 (E2.unset i none) (by rw [px]; exact pin_nil)
              | ct e2 M2 => rw [hs2] at q; exact fun F2 H2 σ2 g2 R2 E2 _ => q F2 H2 _ g2 R2 (E2.unset i none) (by rw [px]; exact pin_nil)
              | rt d2 M2 => rw [hs2] at q; exact q
              | ex => rw [hs2] at q; exact q.elim
              | bad => rw [hs2] at q; exact q.elim
          · rw [if_neg hl] at q; exact q.elim
        · subst hbb
          exact q F1 H1 σ1 d g1 R1 E1 x1
end
end T2
namespace T2
open PySem L2

/-! ### defs with defaults; calls with keywords -/
def eCallK (n k : Nat) (gD : List D → List D → List D) (f : List D → MH → Res D) (ma mk : AM) : EM := fun e M => (ma e M).bind fun ds M1 => (mk e M1).bind fun zs M2 => if ds.length = n ∧ zs.length = k then f (gD ds zs) M2 else .bad
section
variable {X : Cx} {g : Wd} {W : WY} {a : Expr} {pos p apos kpos : Pos} {m1 m2 m3 : EM} {ma mk : AM} {es : List Expr} {kws : List Keyword}
theorem pk_imp {t t' : TA} (h : PK X kws t) (i : ∀ σ H Q, t' σ H Q → t σ H Q) : PK X kws t' := ⟨fun pos pins s σ H Q I q => h.run pos pins s σ H Q I (i σ H Q q)⟩
theorem dk_nil : PK X [] (tA g W eNil) := pk_imp pk_nil fun σ H Q ⟨F, e, M, RS, q⟩ => q.here RS.m .nil
theorem dk_cons {nm : Option Str} (ha : PE X a (tD g W m1)) (hb : PK X kws (tA g W ma)) : PK X (⟨nm, a, kpos⟩ :: kws) (tA g W (eCons m1 ma)) :=
  pk_imp (pk_cons ha hb) fun σ H Q ⟨F, e, M, RS, q⟩ => by
    refine ⟨F, e, M, RS, q.bind fun x M1 F1 H1 v e1 g1 R1 rx q1 => ?_⟩
    refine ⟨F1, e, M1, RS.up g1 R1, q1.bind fun y M2 F2 H2 w e2 g2 R2 ry q2 => ?_⟩
    exact q2.here R2 (.cons (rx.mono g2 R1.good) ry)
variable {CX : CXT} {k n N : Nat} {f : Addr} {fd : FuncData} {ps ks : List Str} {sp : Sp} {E : L2.St → XK} {x : Str} {t tq : TA} {gg : List Value → List Value → List Value} {gV : List V → List V → List V}
end
/-! ### methods of texts -/
section
variable {X : Cx} {g : Wd} {W : WY} {a : Expr} {pos p apos kpos : Pos} {m1 m2 m3 : EM}
end
end T2
namespace T2
open PySem L2
section
variable {X : Cx}
theorem pe_or {e : Expr} {t1 t2 : TE} (h1 : PE X e t1) (h2 : PE X e t2) : PE X e (fun σ H Q => t1 σ H Q ∨ t2 σ H Q) := ⟨fun pins s σ H Q I q => q.elim (h1.run pins s σ H Q I) (h2.run pins s σ H Q I)⟩
theorem pt_or {e : Expr} {t1 t2 : TT} (h1 : PT X e t1) (h2 : PT X e t2) : PT X e (fun σ H Q => t1 σ H Q ∨ t2 σ H Q) := ⟨fun pins s σ H Q I q => q.elim (h1.run pins s σ H Q I) (h2.run pins s σ H Q I)⟩
end

/-! ### dicts with int and text keys -/
def keyOf : D → Option Key
  | .int i => some (.inl i)
  | .str x => some (.inr x)
  | _ => none
def kGet {k A : Type} [DecidableEq k] (ks : List k) (ds : List A) (x : k) : Option A := ((ks.zip ds).find? fun p => decide (p.1 = x)).map (·.2)
theorem key_rep {g : Wd} {F : List Addr} {H : Hp} {d : D} {v : V} {k : Key} (r : Rep g F H d v) (h : keyOf d = some k) : v = kV k := by cases r <;> first | (cases h; rfl) | cases h
theorem kGet_rep {g : Wd} {F : List Addr} {H : Hp} {κ : Type} [DecidableEq κ] {x : κ} : ∀ {ks : List κ} {ds : List D} {vs : List V}, Reps g F H ds vs → (match kGet ks ds x with
    | some d => ∃ v, valV (ks.zip vs) x = some v ∧ Rep g F H d v
    | none => valV (ks.zip vs) x = none)
  | [], _, _, _ => by simp [kGet, valV]
  | _ :: _, _, _, .nil => by simp [kGet, valV]
  | n :: ns, _, _, .cons (d := d) (v := v) (ds := ds) (vs := vs) r t => by
    unfold kGet valV
    rw [List.zip_cons_cons, List.zip_cons_cons, List.find?_cons, List.find?_cons]
    by_cases hn : n = x
    · simp only [hn, decide_true]
      exact ⟨_, rfl, r⟩
    · simp only [hn, decide_false]
      exact kGet_rep t
section
variable {X : Cx} {g : Wd} {W : WY} {a b c : Expr} {pos p apos : Pos} {m1 m2 m3 : EM} {ma : AM} {es : List Expr}
theorem dk_at {F : List Addr} {M : MH} {H : Hp} {n : Nat} {ad : Addr} {ks : List Key} {ds : List D} (R : RelM g F M H) (hn : F[n]? = some ad) (hm : M[n]? = some (.dk ks ds)) : ∃ vs, H ad = some (.dK (ks.zip vs)) ∧ ks.length = vs.length ∧ Reps g F H ds vs := by
  obtain ⟨h, e, r⟩ := R.obj n ad _ hn hm
  cases r with | dk hl r => exact ⟨_, e, hl, r⟩
/-- any x[y] -/
def dIxA (x y : D) (M : MH) : Res D := match x with
  | .ref n => match M[n]? with
    | some (.dk ks ds) => match keyOf y with
      | some k => (match kGet ks ds k with
        | some d => .ok d M
        | none => .bad)
      | none => .bad
    | _ => dIx x y M
  | _ => dIx x y M
theorem de_ixA (hK : g.K = X.K) (hu : X.A.units + 1 < cLine) (ha : PE X a (tD g W m1)) (hb : PE X b (tD g W m2)) (hs : PlainIx b := by intro _ _; rfl) (hs2 : NoSl b := by intro _ _; rfl) : PE X (.Subscript a b pos) (tD g W (eBin dIxA m1 m2)) :=
  pe_imp (pe_or (pe_ix ix_seq ha hb hs) (pe_dget hu ha hb hs2)) fun σ H Q ⟨F, e, M, RS, q⟩ => by
    cases h1 : m1 e M with
    | bad => unfold eBin at q; rw [h1] at q; exact q.elim
    | exc c ns ds M1 => exact .inl ⟨F, e, M, RS, by rw [h1]; unfold eBin at q; rw [h1] at q; exact q⟩
    | ok x M1 =>
      cases h2 : m2 e M1 with
      | bad => unfold eBin at q; rw [h1] at q; dsimp only [Res.bind] at q; rw [h2] at q; exact q.elim
      | exc c ns ds M2 =>
        refine .inl ⟨F, e, M, RS, ?_⟩
        rw [h1]
        intro F1 H1 v g1 R1 rx
        refine ⟨F1, e, M1, RS.up g1 R1, ?_⟩
        rw [h2]
        unfold eBin at q; rw [h1] at q; dsimp only [Res.bind] at q; rw [h2] at q
        exact q.up g1
      | ok y M2 =>
        have q0 : post g rD W.w F σ H (dIxA x y M2) Q := by unfold eBin at q; rw [h1] at q; dsimp only [Res.bind] at q; rw [h2] at q; exact q
        by_cases hd : ∃ n ks ds, x = .ref n ∧ M2[n]? = some (.dk ks ds)
        · obtain ⟨n, ks, ds, rfl, hM⟩ := hd
          refine .inr ⟨F, e, M, RS, ?_⟩
          rw [h1]
          intro F1 H1 v g1 R1 rx
          refine ⟨F1, e, M1, RS.up g1 R1, ?_⟩
          rw [h2]
          intro F2 H2 w g2 R2 ry
          cases rx with | ref hn =>
          have hn2 := pre_get g2.pre hn
          obtain ⟨vs, hv, hl, r⟩ := dk_at R2 hn2 hM
          dsimp only [dIxA] at q0
          rw [hM] at q0
          dsimp only at q0
          cases hk : keyOf y with
          | none => rw [hk] at q0; exact q0.elim
          | some k =>
            rw [hk] at q0
            dsimp only at q0
            have ek := key_rep ry hk
            subst ek
            have kg := kGet_rep (x := k) (ks := ks) r
            cases hg : kGet ks ds k with
            | none => rw [hg] at q0; exact q0.elim
            | some d =>
              rw [hg] at q0 kg
              obtain ⟨u, hu2, ru⟩ := kg
              exact ⟨_, u, rfl, hu2 ▸ DGet.k hv, (q0.up (g1.trans g2)).here R2 ru⟩
        · have e0 : dIxA x y M2 = dIx x y M2 := by
            unfold dIxA
            split
            · split
              · rename_i hM; exact absurd ⟨_, _, _, rfl, hM⟩ hd
              · rfl
            · rfl
          rw [e0] at q0
          refine .inl (bin_imp (sim_ix hK) ⟨F, e, M, RS, ?_⟩)
          unfold eBin
          rw [h1]; dsimp only [Res.bind]; rw [h2]
          exact q0
/-- x in y, y a dict or a sequence -/
def inResA (x y : D) (M : MH) : Option Bool := match y with
  | .ref n => match M[n]? with
    | some (.dk ks ds) => (keyOf x).map fun k => (kGet ks ds k).isSome
    | _ => inRes x y M
  | _ => inRes x y M
def dInA (x y : D) (M : MH) : Res D := match inResA x y M with
  | some b => .ok (.bl b) M
  | none => .bad
def dNotInA (x y : D) (M : MH) : Res D := match inResA x y M with
  | some b => .ok (.bl (!b)) M
  | none => .bad
theorem inA_imp {f0 fA : D → D → MH → Res D} {r : R2} {gb : Bool → Bool} (hs : Sim2 g f0 r) (hA : ∀ x y M, fA x y M = match inResA x y M with | some b => .ok (.bl (gb b)) M | none => .bad) (h0 : ∀ x y M, f0 x y M = match inRes x y M with | some b => .ok (.bl (gb b)) M | none => .bad)
    {σ : L2.St} {H : Hp} {Q : VK} (q : tD g W (eBin fA m1 m2) σ H Q) :
    tOp r (tD g W m1) (tD g W m2) σ H Q ∨ (tD g W m1 σ H fun y H1 => tD g W m2 σ H1 fun x H2 => ∃ a o, x = .ref a ∧ DGet H2 a y o ∧ Q (.bl (gb o.isSome)) H2) := by
  obtain ⟨F, e, M, RS, q⟩ := q
  cases h1 : m1 e M with
  | bad => unfold eBin at q; rw [h1] at q; exact q.elim
  | exc c ns ds M1 => exact .inl ⟨F, e, M, RS, by rw [h1]; unfold eBin at q; rw [h1] at q; exact q⟩
  | ok x M1 =>
    cases h2 : m2 e M1 with
    | bad => unfold eBin at q; rw [h1] at q; dsimp only [Res.bind] at q; rw [h2] at q; exact q.elim
    | exc c ns ds M2 =>
      refine .inl ⟨F, e, M, RS, ?_⟩
      rw [h1]
      intro F1 H1 v g1 R1 rx
      refine ⟨F1, e, M1, RS.up g1 R1, ?_⟩
      rw [h2]
      unfold eBin at q; rw [h1] at q; dsimp only [Res.bind] at q; rw [h2] at q
      exact q.up g1
    | ok y M2 =>
      have q0 : post g rD W.w F σ H (fA x y M2) Q := by unfold eBin at q; rw [h1] at q; dsimp only [Res.bind] at q; rw [h2] at q; exact q
      rw [hA] at q0
      by_cases hd : ∃ n ks ds, y = .ref n ∧ M2[n]? = some (.dk ks ds)
      · obtain ⟨n, ks, ds, rfl, hM⟩ := hd
        refine .inr ⟨F, e, M, RS, ?_⟩
        rw [h1]
        intro F1 H1 v g1 R1 rx
        refine ⟨F1, e, M1, RS.up g1 R1, ?_⟩
        rw [h2]
        intro F2 H2 w g2 R2 ry
        cases ry with | ref hn2 =>
        obtain ⟨vs, hv, hl, r⟩ := dk_at R2 hn2 hM
        dsimp only [inResA] at q0
        rw [hM] at q0
        dsimp only at q0
        cases hk : keyOf x with
        | none => rw [hk] at q0; exact q0.elim
        | some k =>
          rw [hk] at q0
          dsimp only [Option.map] at q0
          have ek := key_rep (rx.mono g2 R1.good) hk
          subst ek
          refine ⟨_, _, rfl, DGet.k hv, ?_⟩
          have kg := kGet_rep (x := k) (ks := ks) r
          have es : (valV (ks.zip vs) k).isSome = (kGet ks ds k).isSome := by
            cases hg : kGet ks ds k with
            | none => rw [hg] at kg; rw [kg]; rfl
            | some d => rw [hg] at kg; obtain ⟨u, hu, _⟩ := kg; rw [hu]; rfl
          rw [es]
          exact (q0.up (g1.trans g2)).here R2 (.bl _)
      · have e0 : inResA x y M2 = inRes x y M2 := by
          unfold inResA
          split
          · split
            · rename_i hM; exact absurd ⟨_, _, _, rfl, hM⟩ hd
            · rfl
          · rfl
        rw [e0, ← h0] at q0
        refine .inl (bin_imp hs ⟨F, e, M, RS, ?_⟩)
        unfold eBin
        rw [h1]; dsimp only [Res.bind]; rw [h2]
        exact q0
theorem de_inA (hK : g.K = X.K) (hu : X.A.units + 1 < cLine) (ha : PE X a (tD g W m1)) (hb : PE X b (tD g W m2)) (hm : behindInMarks .In b = false := by rfl) : PE X (.Compare a [.In] [b] pos) (tD g W (eBin dInA m1 m2)) :=
  pe_imp (pe_or (pe_cmpR op_inA ha hb hm) (pe_cmp (pc_din hu ha hb) hm)) fun σ H Q q => inA_imp (gb := fun b => b) (sim_in hK) (fun _ _ _ => rfl) (fun _ _ _ => rfl) q
theorem dt_inA (hK : g.K = X.K) (hu : X.A.units + 1 < cLine) (ha : PE X a (tD g W m1)) (hb : PE X b (tD g W m2)) (hm : behindInMarks .In b = false := by rfl) : PT X (.Compare a [.In] [b] pos) (tB2 g W (bVal (eBin dInA m1 m2))) :=
  pt_imp (pt_or (pt_cmpR op_inA ha hb hm) (pt_cmp (pc_din hu ha hb) hm)) fun σ H Q q => inA_imp (gb := fun b => b) (sim_in hK) (fun _ _ _ => rfl) (fun _ _ _ => rfl) (val_imp q)
theorem dt_notinA (hK : g.K = X.K) (hu : X.A.units + 1 < cLine) (ha : PE X a (tD g W m1)) (hb : PE X b (tD g W m2)) (hm : behindInMarks .NotIn b = false := by rfl) : PT X (.Compare a [.NotIn] [b] pos) (tB2 g W (bVal (eBin dNotInA m1 m2))) :=
  pt_imp (pt_or (pt_cmpR op_notInA ha hb hm) (pt_cmp (pc_dnotin hu ha hb) hm)) fun σ H Q q => inA_imp (gb := fun b => !b) (sim_notIn hK) (fun _ _ _ => rfl) (fun _ _ _ => rfl) (val_imp q)
end
end T2
namespace T2
open PySem L2
section
variable {X : Cx} {g : Wd} {W : WY} {a b c : Expr} {pos p apos : Pos} {m1 m2 m3 : EM} {ma : AM} {es : List Expr}
/-! ### dict displays with written keys -/
def eDNew : EM := fun _ M => .ok (.ref M.length) (M ++ [.dk [] []])
end
end T2
namespace T2
open PySem L2
/-! ### arguments put in order -/
/-- a def that is not spoken of -/
theorem fn_bad {P : Program} {w : World} {K : PySem.W.Frag} {mg : Str → Option Value} {base : Heap} {CX : CXT} {g : Wd} {f : Addr} {fd : FuncData} {ps : List Str} (k : Nat) : FnOk P w K mg base CX k f fd ps (spD g ps.length fun _ _ => .bad) :=
  ⟨fun vs H Q E h => h.1, fun A outer s H args us vs Q E hr e0 hb hv ⟨_, _, _, _, _, _, q⟩ => q.elim⟩
/-! ### isinstance by a table -/
abbrev IsiTab := List ((Tg × Tg) × Bool)
def isiOf (tab : IsiTab) (t c : Tg) : Option Bool := (tab.find? fun e => decide (e.1.1 = t ∧ e.1.2 = c)).map (·.2)
theorem isiOf_mem {tab : IsiTab} {t c : Tg} {b : Bool} (h : isiOf tab t c = some b) : ((t, c), b) ∈ tab := by
  unfold isiOf at h
  cases hf : tab.find? fun e => decide (e.1.1 = t ∧ e.1.2 = c) with
  | none => rw [hf] at h; cases h
  | some e =>
    rw [hf] at h; cases h
    have h1 := List.find?_some hf
    have h2 := List.mem_of_find?_eq_some hf
    simp only [decide_eq_true_eq] at h1
    obtain ⟨⟨t', c'⟩, b'⟩ := e
    obtain ⟨rfl, rfl⟩ := h1
    exact h2
def bltTab : IsiTab := (["NoneType", "bool", "int", "str", "tuple", "list", "dict"].flatMap fun a => ["int", "bool", "str", "tuple", "list", "dict"].map fun b => ((Sum.inl a, Sum.inl b), a == b || (a == "bool" && b == "int")))
theorem blt_ok (K : PySem.W.Frag) (g : Wd) : ∀ e ∈ bltTab, PySem.W.kitOne K (tagV g e.1.1) (tagV g e.1.2) = some e.2 := by
  intro e he
  simp only [bltTab, List.flatMap_cons, List.flatMap_nil, List.map_cons, List.map_nil, List.cons_append, List.nil_append, List.append_nil, List.mem_cons, List.not_mem_nil, or_false] at he
  rcases he with rfl | rfl | rfl | rfl | rfl | rfl | rfl | rfl | rfl | rfl | rfl | rfl | rfl | rfl | rfl | rfl | rfl | rfl | rfl | rfl | rfl | rfl | rfl | rfl | rfl | rfl | rfl | rfl | rfl | rfl | rfl | rfl | rfl | rfl | rfl | rfl | rfl | rfl | rfl | rfl | rfl | rfl
  all_goals first | rfl | (exact kit_ty (by decide +kernel))
end T2
namespace T2
open PySem L2
/-! ### what the written part says -/
end T2
namespace T2
open PySem L2
/-! ### the law -/
def spLaw (K : PySem.W.Frag) : Sp := fun vs H Q _ => ∃ (a : Addr) (ns : List Int), vs = [.ref a] ∧ ns.length ≤ 63 ∧ SqL K H a (ns.map V.int) ∧ ∀ H', Q (.bl true) H'
theorem reps_ints {g : Wd} {F : List Addr} {H : Hp} : ∀ ns : List Int, Reps g F H (ns.map D.int) (ns.map V.int)
  | [] => .nil
  | n :: ns => .cons (.int n) (reps_ints ns)
theorem sp_of_true {K : PySem.W.Frag} {ad : Nat → Addr} {m : List D → MH → Res D} (h : ∀ ns : List Int, ns.length ≤ 63 → ∃ M', m [.fro (ns.map D.int)] [] = .ok (.bl true) M') {vs : List V} {H : Hp} {Q : VK} {E : XK} (hs : spLaw K vs H Q E) : spD ⟨K, ad⟩ 1 m vs H Q E := by
  obtain ⟨a, ns, rfl, hl, hS, hq⟩ := hs
  obtain ⟨M', hm⟩ := h ns hl
  refine ⟨rfl, [], [], [.fro (ns.map D.int)], ⟨rfl, List.nodup_nil, fun n a o e => by simp at e⟩, .cons (.fro (vs := ns.map V.int) ?_ (reps_ints ns)) .nil, ?_⟩
  · rcases hS with (h1 | h1) | h1
    · exact .inl ⟨h1, by simp⟩
    · exact .inr (.inl h1)
    · exact .inr (.inr h1)
  · rw [hm]
    intro F' H' v gr R r
    cases r
    exact hq H'
theorem no_exc {P : Program} {w : World} {H : Hp} {s : Shared} {e : Value} {s' : Shared} (h : L2N.CX P w [] H s (fun _ _ _ => False) e s') : False := by
  obtain ⟨_, _, _, _, _, _, _, _, _, _, _, _, z⟩ := h
  exact z
end T2
namespace T2
open PySem L2

/-! ### running the shallow functions -/
/-! ### the law's box of draws -/
structure Bx where
  ns : List Int
  i : Int
  c : Int
  k : Int
  f : Int
def Bx.obj (s : Bx) : MO := .lst [.fro (s.ns.map D.int), .int s.i, .int s.c, .int s.k, .int s.f]
structure BxOk (s : Bx) : Prop where
  i0 : 0 ≤ s.i
/-- the box stands at b -/
def BoxAt (M : MH) (b : Nat) (s : Bx) : Prop := M[b]? = some s.obj ∧ BxOk s
abbrev drawB : SM :=
    sSeq (sIf (bVal (eBin dEq (eBin dIxA (eVar 0) (eC (.int 3))) (eC (.int 0))))
    (sSeq (sIf (bVal (eBin dGe (eBin dIxA (eVar 0) (eC (.int 1))) (eArgs dLen (eCons (eBin dIxA (eVar 0) (eC (.int 0))) (eNil)))))
    (sRet (eC (.int 0)))
    (sNil))
    (sSeq (sSetIx dSetIx (eVar 0) (eC (.int 2)) (eArgs dAbs (eCons (eArgs dInt (eCons (eBin dIxA (eBin dIxA (eVar 0) (eC (.int 0))) (eBin dIxA (eVar 0) (eC (.int 1)))) (eNil))) (eNil))))
    (sSeq (sSetIx dSetIx (eVar 0) (eC (.int 1)) (eBin dAdd (eBin dIxA (eVar 0) (eC (.int 1))) (eC (.int 1))))
    (sSeq (sSetIx dSetIx (eVar 0) (eC (.int 4)) (eArgs dInt (eCons (eBin dGe (eBin dIxA (eVar 0) (eC (.int 2))) (eBin dPow (eC (.int 10)) (eC (.int 18)))) (eNil))))
    (sSetIx dSetIx (eVar 0) (eC (.int 3)) (eBin dAdd (eC (.int 12)) (eBin dMul (eC (.int 48)) (eBin dIxA (eVar 0) (eC (.int 4)))))))))) 
    (sNil))
    (sSeq (sSetIx dSetIx (eVar 0) (eC (.int 3)) (eBin dSub (eBin dIxA (eVar 0) (eC (.int 3))) (eC (.int 1))))
    (sSeq (sIf (bVal (eBin dEq (eBin dIxA (eVar 0) (eC (.int 4))) (eC (.int 1))))
    (sSeq (sSet 2 (eBin dMod (eArgs dInt (eCons (eBin dIxA (eVar 0) (eC (.int 2))) (eNil))) (eVar 1)))
    (sSeq (sSetIx dSetIx (eVar 0) (eC (.int 2)) (eBin dDiv (eArgs dInt (eCons (eBin dIxA (eVar 0) (eC (.int 2))) (eNil))) (eVar 1)))
    (sSeq (sIf (bVal (eBin dEq (eBin dIxA (eVar 0) (eC (.int 2))) (eC (.int 0))))
    (sSetIx dSetIx (eVar 0) (eC (.int 3)) (eC (.int 0)))
    (sNil))
    (sRet (eVar 2)))))
    (sNil))
    (sSeq (sSet 3 (eBin dMod (eArgs dInt (eCons (eBin dAdd (eBin dAdd (eBin dMul (eArgs dInt (eCons (eBin dIxA (eVar 0) (eC (.int 2))) (eNil))) (eC (.int 48271))) (eBin dMul (eBin dIxA (eVar 0) (eC (.int 3))) (eC (.int 69621)))) (eC (.int 13))) (eNil))) (eC (.int 2147483647))))
    (sSeq (sSet 3 (eBin dMod (eArgs dInt (eCons (eBin dAdd (eBin dAdd (eBin dMul (eVar 3) (eC (.int 16807))) (eBin dMul (eBin dIxA (eVar 0) (eC (.int 3))) (eC (.int 40692)))) (eC (.int 7))) (eNil))) (eC (.int 2147483629))))
    (sRet (eBin dMod (eArgs dInt (eCons (eVar 3) (eNil))) (eVar 1)))))))
def drawM : List D → MH → Res D := fnB 4 drawB
/-- an item of a list that stands there -/
theorem ix_lst {M : MH} {b : Nat} {ds : List D} {i : Int} {d : D} (h : M[b]? = some (.lst ds)) (ha : atI ds i = some d) : dIxA (.ref b) (.int i) M = .ok d M := by
  simp only [dIxA, dIx, items, h, ha]
theorem ix_fro {M : MH} {ds : List D} {i : Int} {d : D} (ha : atI ds i = some d) : dIxA (.fro ds) (.int i) M = .ok d M := by
  unfold dIxA dIx items
  dsimp only
  rw [ha]
theorem eq_int {i j : Int} {M : MH} : dEq (.int i) (.int j) M = .ok (.bl (i == j)) M := by
  unfold dEq
  simp [toP, toPa, SeqAt.shaped, PyData.canLay0, PyData.depth, PyData.eqv]
theorem eq_str {i j : Str} {M : MH} (h1 : PyData.strOk i = true) (h2 : PyData.strOk j = true) : dEq (.str i) (.str j) M = .ok (.bl (i == j)) M := by
  unfold dEq
  simp [toP, toPa, SeqAt.shaped, PyData.canLay0, PyData.depth, PyData.eqv, h1, h2]

theorem atI_0 {A : Type} {x : A} {l : List A} : atI (x :: l) 0 = some x := by unfold atI ixN; simp
theorem atI_1 {A : Type} {x y : A} {l : List A} : atI (x :: y :: l) 1 = some y := atI_nat (j := 1) rfl
theorem atI_2 {A : Type} {x y z : A} {l : List A} : atI (x :: y :: z :: l) 2 = some z := atI_nat (j := 2) rfl
theorem atI_3 {A : Type} {x y z u : A} {l : List A} : atI (x :: y :: z :: u :: l) 3 = some u := atI_nat (j := 3) rfl
theorem atI_4 {A : Type} {x y z u v : A} {l : List A} : atI (x :: y :: z :: u :: v :: l) 4 = some v := atI_nat (j := 4) rfl
theorem bx_self {M : MH} {b : Nat} {s : Bx} (h : M[b]? = some s.obj) : M.set b s.obj = M := by
  obtain ⟨hl, he⟩ := List.getElem?_eq_some_iff.mp h
  rw [← he]; exact List.set_getElem_self hl
section
variable {M : MH} {b : Nat} {s : Bx} {v : Int} (hb : b < M.length)
include hb
theorem bx_at : (M.set b s.obj)[b]? = some (.lst [.fro (s.ns.map D.int), .int s.i, .int s.c, .int s.k, .int s.f]) := List.getElem?_set_self hb
theorem bg0 : dIxA (.ref b) (.int 0) (M.set b s.obj) = .ok (.fro (s.ns.map D.int)) (M.set b s.obj) := ix_lst (bx_at hb) atI_0
theorem bg1 : dIxA (.ref b) (.int 1) (M.set b s.obj) = .ok (.int s.i) (M.set b s.obj) := ix_lst (bx_at hb) atI_1
theorem bg2 : dIxA (.ref b) (.int 2) (M.set b s.obj) = .ok (.int s.c) (M.set b s.obj) := ix_lst (bx_at hb) atI_2
theorem bg3 : dIxA (.ref b) (.int 3) (M.set b s.obj) = .ok (.int s.k) (M.set b s.obj) := ix_lst (bx_at hb) atI_3
theorem bg4 : dIxA (.ref b) (.int 4) (M.set b s.obj) = .ok (.int s.f) (M.set b s.obj) := ix_lst (bx_at hb) atI_4
theorem bs1 : dSetIx (.ref b) (.int 1) (.int v) (M.set b s.obj) = some (M.set b { s with i := v }.obj) := by unfold dSetIx; dsimp only; rw [bx_at hb]; show some ((M.set b _).set b _) = _; rw [List.set_set]; rfl
theorem bs2 : dSetIx (.ref b) (.int 2) (.int v) (M.set b s.obj) = some (M.set b { s with c := v }.obj) := by unfold dSetIx; dsimp only; rw [bx_at hb]; show some ((M.set b _).set b _) = _; rw [List.set_set]; rfl
theorem bs3 : dSetIx (.ref b) (.int 3) (.int v) (M.set b s.obj) = some (M.set b { s with k := v }.obj) := by unfold dSetIx; dsimp only; rw [bx_at hb]; show some ((M.set b _).set b _) = _; rw [List.set_set]; rfl
theorem bs4 : dSetIx (.ref b) (.int 4) (.int v) (M.set b s.obj) = some (M.set b { s with f := v }.obj) := by unfold dSetIx; dsimp only; rw [bx_at hb]; show some ((M.set b _).set b _) = _; rw [List.set_set]; rfl
end
theorem atI_of {A : Type} {l : List A} {i : Int} (h0 : 0 ≤ i) (h1 : i < l.length) : ∃ x, atI l i = some x ∧ x ∈ l := by
  unfold atI ixN
  rw [if_pos h0, if_pos h1]
  have hl : i.toNat < l.length := by omega
  exact ⟨l[i.toNat], by simp [hl], List.getElem_mem hl⟩
theorem len_fro {ds : List D} {M : MH} : dLen [.fro ds] M = .ok (.int ds.length) M := rfl
/-- the second half of a draw -/
abbrev drawB2 : SM := (sSeq (sSetIx dSetIx (eVar 0) (eC (.int 3)) (eBin dSub (eBin dIxA (eVar 0) (eC (.int 3))) (eC (.int 1))))
    (sSeq (sIf (bVal (eBin dEq (eBin dIxA (eVar 0) (eC (.int 4))) (eC (.int 1))))
    (sSeq (sSet 2 (eBin dMod (eArgs dInt (eCons (eBin dIxA (eVar 0) (eC (.int 2))) (eNil))) (eVar 1)))
    (sSeq (sSetIx dSetIx (eVar 0) (eC (.int 2)) (eBin dDiv (eArgs dInt (eCons (eBin dIxA (eVar 0) (eC (.int 2))) (eNil))) (eVar 1)))
    (sSeq (sIf (bVal (eBin dEq (eBin dIxA (eVar 0) (eC (.int 2))) (eC (.int 0))))
    (sSetIx dSetIx (eVar 0) (eC (.int 3)) (eC (.int 0)))
    (sNil))
    (sRet (eVar 2)))))
    (sNil))
    (sSeq (sSet 3 (eBin dMod (eArgs dInt (eCons (eBin dAdd (eBin dAdd (eBin dMul (eArgs dInt (eCons (eBin dIxA (eVar 0) (eC (.int 2))) (eNil))) (eC (.int 48271))) (eBin dMul (eBin dIxA (eVar 0) (eC (.int 3))) (eC (.int 69621)))) (eC (.int 13))) (eNil))) (eC (.int 2147483647))))
    (sSeq (sSet 3 (eBin dMod (eArgs dInt (eCons (eBin dAdd (eBin dAdd (eBin dMul (eVar 3) (eC (.int 16807))) (eBin dMul (eBin dIxA (eVar 0) (eC (.int 3))) (eC (.int 40692)))) (eC (.int 7))) (eNil))) (eC (.int 2147483629))))
    (sRet (eBin dMod (eArgs dInt (eCons (eVar 3) (eNil))) (eVar 1)))))))
theorem draw2 {M : MH} {b : Nat} {s : Bx} {n : Int} (hb : b < M.length) (hi : BxOk s) (h1 : 0 < n) (h2 : n < 1073741824) : ∃ r s', toR (drawB2 [some (.ref b), some (.int n), none, none] (M.set b s.obj)) = .ok (.int r) (M.set b s'.obj) ∧ 0 ≤ r ∧ r < n ∧ BxOk s' := by
  have hm : ∀ x : Int, 0 ≤ x % n ∧ x % n < n := fun x => ⟨Int.emod_nonneg _ (by omega), Int.emod_lt_of_pos _ h1⟩
  simp only [drawB2, sSeq, sSetIx, sIf, sSet, sRet, sNil, bVal, eBin, eVar, eC, eArgs, eCons, eNil, Res.bind, Res.toS, Res.toSB, asB, dSub, bg3 hb, bs3 hb, bg4 hb, List.getElem?_cons_zero, List.getElem?_cons_succ, eq_int]
  by_cases hf : s.f = 1
  · simp only [hf, beq_self_eq_true, if_true, bg2 hb, dInt, dMod, h1, if_true, List.set_cons_succ, List.set_cons_zero, List.getElem?_cons_zero, List.getElem?_cons_succ, dDiv, h2, and_self, bs2 hb, eq_int]
    by_cases hz : s.c / n = 0
    · simp only [hz, beq_self_eq_true, if_true, bs3 hb, toR]
      exact ⟨_, _, rfl, (hm _).1, (hm _).2, ⟨hi.i0⟩⟩
    · simp only [show (s.c / n == 0) = false by simp [hz], Bool.false_eq_true, if_false, toR]
      exact ⟨_, _, rfl, (hm _).1, (hm _).2, ⟨hi.i0⟩⟩
  · simp only [show (s.f == 1) = false by simp [hf], Bool.false_eq_true, if_false, bg2 hb, bg3 hb, dInt, dMul, dAdd, dMod, h1, if_true, List.set_cons_succ, List.set_cons_zero, List.getElem?_cons_zero, List.getElem?_cons_succ, show (-(2 ^ 64) < (48271 : Int) ∧ (48271 : Int) < 2 ^ 64) by decide, show (-(2 ^ 64) < (69621 : Int) ∧ (69621 : Int) < 2 ^ 64) by decide, show (-(2 ^ 64) < (16807 : Int) ∧ (16807 : Int) < 2 ^ 64) by decide, show (-(2 ^ 64) < (40692 : Int) ∧ (40692 : Int) < 2 ^ 64) by decide, and_self, or_true, show (0 : Int) < 2147483647 by decide, show (0 : Int) < 2147483629 by decide, toR]
    exact ⟨_, _, rfl, (hm _).1, (hm _).2, ⟨hi.i0⟩⟩
/-- a draw: a number below the size, and the box goes on -/
theorem draw_spec {M : MH} {b : Nat} {s : Bx} {n : Int} (h : BoxAt M b s) (h1 : 0 < n) (h2 : n < 1073741824) : ∃ r s', drawM [.ref b, .int n] M = .ok (.int r) (M.set b s'.obj) ∧ 0 ≤ r ∧ r < n ∧ BxOk s' := by
  obtain ⟨hM, hi⟩ := h
  have hb : b < M.length := (List.getElem?_eq_some_iff.mp hM).1
  have e0 := bx_self hM
  rw [← e0]
  show ∃ (r : Int) (s' : Bx), toR (sSeq _ drawB2 [some (.ref b), some (.int n), none, none] (M.set b s.obj)) = .ok (.int r) ((M.set b s.obj).set b s'.obj) ∧ _
  simp only [List.set_set]
  have fin : ∀ s1 : Bx, BxOk s1 → ∀ X : SR, X = .nx [some (.ref b), some (.int n), none, none] (M.set b s1.obj) → ∃ r s', toR (match X with | .nx e1 M1 => drawB2 e1 M1 | r => r) = .ok (.int r) (M.set b s'.obj) ∧ 0 ≤ r ∧ r < n ∧ BxOk s' := by
    intro s1 h X hX
    rw [hX]
    exact draw2 hb h h1 h2
  by_cases hk : s.k = 0
  · by_cases hl : (s.ns.length : Int) ≤ s.i
    · refine ⟨0, s, ?_, by omega, by omega, hi⟩
      simp only [sSeq, sSetIx, sIf, sSet, sRet, sNil, bVal, eBin, eVar, eC, eArgs, eCons, eNil, Res.bind, Res.toS, Res.toSB, asB, bg3 hb, bg1 hb, bg0 hb, List.getElem?_cons_zero, eq_int, hk, beq_self_eq_true, if_true, len_fro, dGe, dCmpI, List.length_map, decide_eq_true hl, toR]
    · obtain ⟨x, hx, hxm⟩ := atI_of (l := s.ns.map D.int) hi.i0 (by rw [List.length_map]; omega)
      obtain ⟨y, _, rfl⟩ := List.mem_map.mp hxm
      refine fin ⟨s.ns, s.i + 1, if y < 0 then -y else y, 12 + 48 * (if (10 : Int) ^ 18 ≤ (if y < 0 then -y else y) then 1 else 0), if (10 : Int) ^ 18 ≤ (if y < 0 then -y else y) then 1 else 0⟩ ⟨by have := hi.i0; show 0 ≤ s.i + 1; omega⟩ _ ?_
      simp only [sSeq, sSetIx, sIf, sSet, sRet, sNil, bVal, eBin, eVar, eC, eArgs, eCons, eNil, Res.bind, Res.toS, Res.toSB, asB, bg3 hb, bg1 hb, bg0 hb, List.getElem?_cons_zero, eq_int, hk, beq_self_eq_true, if_true, len_fro, dGe, dCmpI, List.length_map, decide_eq_false hl, Bool.false_eq_true, if_false, ix_fro hx, dInt, dAbs, bs2 hb, dAdd, bs1 hb, bg2 hb, dPow, show (0 : Int) ≤ 18 ∧ (18 : Int) ≤ 1000000 ∧ (10 : Int).natAbs < 2 ^ 64 by decide, show (18 : Int).toNat = 18 by rfl, bs4 hb, bg4 hb, dMul, show (-(2 ^ 64) < (48 : Int) ∧ (48 : Int) < 2 ^ 64) by decide, and_self, true_or, bs3 hb]
      simp only [decide_eq_true_eq]
  · refine fin s hi _ ?_
    simp only [sIf, sNil, bVal, eBin, eVar, eC, Res.bind, Res.toSB, asB, bg3 hb, List.getElem?_cons_zero, eq_int, show (s.k == 0) = false by simp [hk], Bool.false_eq_true, if_false]
end T2
namespace T2
open PySem L2 PyProof.Rows

/-! ### operators of an own class -/
section
variable {X : Cx} {CX : CXT} {k : Nat} {f C : Addr} {fd : FuncData} {ps : List Str} {sp : Sp} {E : L2.St → XK} {x m : Str} {p pos apos : Pos} {a b e o : Expr} {es : List Expr} {ta tb : TE} {t : TA}
end

/-! ### .. over trees -/
def both (M : MH) (c : Nat) (x y : D) : Bool := match instOf M x, instOf M y with
  | some (c1, _, _), some (c2, _, _) => decide (c1 = c ∧ c2 = c)
  | _, _ => false
def eOwn2 (c : Nat) (f : List D → MH → Res D) (a b : EM) : EM := fun e M => (a e M).bind fun x M1 => (b e M1).bind fun y M2 => if both M2 c x y = true then f [x, y] M2 else .bad
def eOwn1 (c : Nat) (f : List D → MH → Res D) (a : EM) : EM := fun e M => (a e M).bind fun x M1 => match instOf M1 x with
  | some (c1, _, _) => if c1 = c then f [x] M1 else .bad
  | none => .bad
/-- an outcome that is no exception -/
def okR (r : Res D) : Res D := match r with
  | .ok d M => .ok d M
  | _ => .bad
/-- o.f, f a property -/
def eProp (c : Nat) (f : List D → MH → Res D) (a : EM) : EM := eOwn1 c (fun ds M => okR (f ds M)) a
/-- C.m(..), m a staticmethod -/
def eStat (c n : Nat) (f : List D → MH → Res D) (a : AM) : EM := eArgs (fun ds M => if ds.length = n then f ds M else .bad) a
section
variable {X : Cx} {g : Wd} {W : WY} {a b o : Expr} {pos p apos : Pos} {m1 m2 : EM} {ma : AM} {es : List Expr} {k n : Nat} {f C : Addr} {fd : FuncData} {ps : List Str} {m : List D → MH → Res D} {x mn : Str} {c : Nat}
end

/-! ### != where the class has == alone; bool(x) by an own __bool__ -/
section
variable {prog : Program} {w : World} {A : Around} {E : Value → Shared → Prop} {s : Shared} {K : PySem.W.Frag} {x C L f y : Addr} {h₀ : Heap} {m : Str → Option Value} {ox : Obj} {od : Option Obj} {name : Str} {b tb : Value}
end
end T2
namespace T2
open PySem L2 PyProof.Rows
/-! ### .. as readings -/
section
variable {X : Cx} {CX : CXT} {k : Nat} {f C : Addr} {fd : FuncData} {ps : List Str} {sp : Sp} {E : L2.St → XK} {x m : Str} {p pos apos : Pos} {a b e o : Expr} {es : List Expr} {ta tb : TE} {t : TA}
end
def blR (r : Res D) : Res D := match r with
  | .ok (.bl k) M => .ok (.bl k) M
  | .ok _ _ => .bad
  | r => r
section
variable {X : Cx} {g : Wd} {W : WY} {a b o : Expr} {pos p apos : Pos} {m1 m2 : EM} {ma : AM} {es : List Expr} {k n : Nat} {f C : Addr} {fd : FuncData} {ps : List Str} {m : List D → MH → Res D} {x mn : Str} {c : Nat}
end
end T2
namespace T2
open PySem L2 PyProof.Rows
/-! ### t.index(x), l.index(x): texts -/
def strsOf : List D → Option (List Str)
  | [] => some []
  | .str x :: ds => (strsOf ds).map (x :: ·)
  | _ => none
section
variable {X : Cx} {g : Wd} {W : WY} {a b o : Expr} {pos p apos : Pos} {m1 m2 : EM}
end
end T2
namespace T2
open PySem L2
end T2
namespace T2
open PySem L2 PyProof.Rows

/-! ### super().__init__(..) in an own exception over ValueError -/
section
variable {prog : Program} {w : World} {A : Around} {E : Value → Shared → Prop} {h : Heap} {g : Array GenState} {d : Drawn} {t : Nat} {os : OsState} {nm q : Str} {C N : Addr} {bs bm : List Value} {hdct : Bool} {sn : List Str} {sub : List Value} {ab : Bool} {col : Option Bool} {dd : Option Addr} {k0 k1 k2 k3 k5 : Option Value}
/-- the bound __init__ of ValueError, called -/
theorem call_mw {u e t0 : Addr} {rest : List Value} {Q : Value → Shared → Prop} (hC : h.get? C = some (excClassObj nm q C N bs bm hdct sn sub ab col dd k0 k1 k2 k3 k5 "ValueError.__new__")) (he : h.get? e = some (HandSPX.excO C t0)) (hu : h.get? u = some (PySem.W.kxs_mw "ValueError.__init__" e)) (hz : rest.length ≤ sizeLine)
    (hq : ∀ h' t1, (∀ b o, b ≠ e → h.get? b = some o → h'.get? b = some o) → h'.get? e = some (HandSPX.excO C t1) → Q .none ⟨h', g, d, t, os⟩) : wpAny (model prog w) A (call (.ref u) rest) Q E ⟨h, g, d, t, os⟩ := by
  refine wpAny_call (codeAny_of_tree (show wpAny _ A.in1 (callAny (.ref u) ⟨rest, []⟩) _ _ _ from ?_))
  simp only [callAny]
  refine wpAny_bind (wpAny_load hu ?_)
  simp only [PySem.W.kxs_mw, show ((Value.type "method-wrapper" == Value.type "method" || Value.type "method-wrapper" == Value.type "builtin_function_or_method") || Value.type "method-wrapper" == Value.type "method-wrapper") = true by decide, if_true]
  refine W.KFB.if_so (by decide) (wpAny_bind (PySem.ESX.check_bound F.excBase_ValueError hC he rfl (wpAny_bind (wpAny_pure (wpAny_pure ?_)))))
  refine ⟨plainId_quiet F.excBase_ValueError.init.plain _, codeAny_builtin F.excBase_ValueError.initEntry ?_⟩
  rw [Around.under_plainId F.excBase_ValueError.init.plain _]
  wp_walk
  refine hq _ h.objs.size (fun b o hb ho => by rw [Heap.get?_update_other _ _ (Ne.symm hb)]; exact Heap.get?_push_of_some _ ho) ?_
  rw [Heap.get?_update_self _ (Heap.get?_push_of_some _ he) rfl]; rfl
end
/-- the scope of such an __init__ -/
structure ScopeS (N ps : List Str) (sc : Scope) : Prop where
  kind : sc.kind = .function
  co : sc.isCoroutine = false
  gen : sc.isGenerator = false
  nd : N.Nodup
  pre : N.take ps.length = ps
  par : ∀ x ∈ ps, sc.names.lookup x = some .local
  nocell : ∀ y ∈ sc.names, y.2 ≠ .cell
  sup : sc.names.lookup ("super" : Str) = some .globalImplicit
  cls : sc.names.lookup ("__class__" : Str) = some .free
  free : ∀ y ∈ sc.names, y.2 = .free → y.1 = "__class__"
def cxS (CX : CXT) (P : Program) (w : World) (K : PySem.W.Frag) (mg : Str → Option Value) (base : Heap) (N : List Str) (qual : Str) (scope : Scope) (f : Addr) (cd : Value) (cc : Addr) (A : Around) (outer : List Env) (s : Shared) (H : Hp) (E : XK) : Cx where
  prog := P
  w := w
  K := K
  mg := mg
  base := base
  A := A.deeper (PySem.W.ksEnv qual scope s.heap.objs.size f cd cc)
  N := N
  s_0 := s
  H_0 := H
  env := PySem.W.ksEnv qual scope s.heap.objs.size f cd cc
  outer := outer
  stack := PySem.W.ksEnv qual scope s.heap.objs.size f cd cc :: outer
  ex := []
  calm := true
  fn := fun x => x != "__class__"
  pn := []
  xe := fun e s' => wpAny (model P w) (A.deeper (PySem.W.ksEnv qual scope s.heap.objs.size f cd cc)) (leaving (PySem.W.ksEnv qual scope s.heap.objs.size f cd cc) e) (fun _ s'' => CX outer H s E e s'') (fun e' s'' => CX outer H s E e' s'') s'
theorem look_nodup {x : Str} {u : Value} : ∀ {l : List (Str × Value)}, (l.map (·.1)).Nodup → (x, u) ∈ l → l.lookup x = some u
  | [], _, h => by simp at h
  | (y, v) :: l, nd, h => by
    rw [List.map_cons, List.nodup_cons] at nd
    rw [List.lookup_cons]
    rcases List.mem_cons.mp h with e | e
    · cases e; simp
    · have : (x == y) = false := by
        rw [beq_eq_false_iff_ne]
        rintro rfl
        exact nd.1 (List.mem_map.mpr ⟨_, e, rfl⟩)
      rw [this]
      exact look_nodup nd.2 e
theorem one_cell {c d : Addr} {x y : Str} (h : ([(y, c)] : List (Str × Addr)).lookup x = some d) : x = y ∧ c = d := by
  rw [List.lookup_cons] at h
  cases e : (x == y) with
  | true => rw [e] at h; exact ⟨beq_iff_eq.mp e, Option.some.inj h⟩
  | false => rw [e] at h; cases h
theorem start_val {N : List Str} {vs : List V} {i : Nat} {v : V} (h : (L2.start N vs)[i]? = some (some v)) : vs[i]? = some v := by
  unfold L2.start at h
  rw [List.getElem?_append] at h
  split at h
  · simpa using h
  · rw [List.getElem?_replicate] at h
    split at h <;> simp at h
theorem inv_startS {CX : CXT} {P : Program} {w : World} {K : PySem.W.Frag} {mg : Str → Option Value} {base : Heap} {N ps : List Str} {qual : Str} {scope : Scope} {f cc : Addr} {cd : Value} {A : Around} {outer : List Env} {s : Shared} {H : Hp} {E : XK} {us : List Value} {vs : List V} {h1 : Heap} {tk : Nat} {cv : Option Value}
    (S : ScopeS N ps scope) (hd : A.handled = none) (e0 : Env0 P w K mg base A outer s H) (hl : vs.length = ps.length) (r : Vals vs us) (hc : ∃ o, K.lookup cc = some o ∧ o.data = .cell cv)
    (hns : h1.Ns s.heap.objs.size (fun x => (ps.zip us).reverse.lookup x)) (hk : ∀ b o, s.heap.get? b = some o → h1.get? b = some o) :
    Inv (cxS CX P w K mg base N qual scope f cd cc A outer s H E) [] (start N vs) H { s with heap := h1, toks := tk } := by
  have hpl : ps.length ≤ N.length := by have := congrArg List.length S.pre; rw [List.length_take] at this; omega
  have ndP : ps.Nodup := by rw [← S.pre]; exact S.nd.sublist (List.take_sublist _ _)
  obtain ⟨co, lc, dc⟩ := hc
  have bc := e0.mod.kin _ _ lc
  have sc := e0.bs _ _ bc
  have noA : ∀ b : Addr, b ∉ (cxS CX P w K mg base N qual scope f cd cc A outer s H E).ex := fun b z => absurd (show b ∈ ([] : List Addr) from z) (by simp)
  refine ⟨⟨e0.mod, S.kind, rfl, rfl, Nat.le_refl _, fun y z c h1 h2 => (one_cell h1).1.trans (one_cell h2).1.symm, fun y hy => ?_, fun y c hn h => ?_, fun _ => hd, Around.frames_deeper e0.frames, .inr ⟨rfl, rfl⟩, fun b z => absurd z (noA b), e0.bs, e0.bsz, fun b _ _ => noA b, fun b z => absurd z (noA b), e0.funs, e0.frf⟩,
    rfl, e0.bare, Un.kept hk, ⟨_, hns, fun i y v h1 h2 h3 => ?_⟩, fun y c h => ?_, e0.hok.fresh (Nat.le_refl _), fun y c h => ?_, fun p hp => absurd (show p ∈ ([] : List (Addr × Obj)) from hp) (by simp), e0.hok.kept hk, ?_⟩
  · have hy : scope.names.lookup y = some .cell ∨ scope.names.lookup y = some .free := hy
    rcases hy with hy | hy
    · exact absurd rfl (S.nocell _ (PySem.mem_of_lookup hy))
    · have : y = "__class__" := S.free _ (PySem.mem_of_lookup hy) rfl
      subst this
      exact ⟨cc, by rfl⟩
  · obtain ⟨rfl, _⟩ := one_cell h
    exact absurd (show (("__class__" : Str) != "__class__") = true from hn) (by decide)
  · have ha : vs[i]? = some v := start_val h2
    have hi : i < vs.length := (List.getElem?_eq_some_iff.mp ha).1
    obtain ⟨u, hu, rv⟩ := r.get ha
    have hp : ps[i]? = some y := by rw [← S.pre, List.getElem?_take_of_lt (by omega)]; exact h1
    refine ⟨u, rv, .inl ⟨S.par y (List.mem_of_getElem? hp), ?_⟩⟩
    have hul : us.length = ps.length := by rw [← r.length]; exact hl
    refine look_nodup ?_ ?_
    · rw [List.map_reverse, List.map_fst_zip (by omega)]
      exact List.pairwise_reverse.mpr (ndP.imp fun h => Ne.symm h)
    · rw [List.mem_reverse]
      exact List.mem_of_getElem? (by rw [List.getElem?_zip_eq_some]; exact ⟨hp, hu⟩)
  · obtain ⟨rfl, rfl⟩ := one_cell h
    exact ⟨cv, co, hk _ _ sc.1, dc⟩
  · obtain ⟨rfl, rfl⟩ := one_cell h
    exact sc.2
  · unfold L2.start
    show _ = N.length
    rw [List.length_append, List.length_map, List.length_replicate]
    omega
end T2
namespace T2
open PySem L2 PyProof.Rows

/-! ### changes at places that no value reads -/
def NExt (o : HO) : Prop := ∀ p, o ≠ .ext p
section
variable {g : Wd} {F : List Addr} {H H' : Hp}
theorem FroL.ext (k : ∀ b o, H b = some o → NExt o → H' b = some o) {a : Addr} {vs : List V} (h : FroL g F H a vs) : FroL g F H' a vs := by
  rcases h with ⟨h, n⟩ | ⟨o, h⟩ | h
  · exact .inl ⟨k _ _ h (fun _ z => by cases z), n⟩
  · exact .inr (.inl ⟨o, k _ _ h (fun _ z => by cases z)⟩)
  · exact .inr (.inr h)
theorem sqT_ext (k : ∀ b o, H b = some o → NExt o → H' b = some o) {a : Addr} {vs : List V} (h : SqT g.K H a vs) : SqT g.K H' a vs := by
  rcases h with (h | ⟨o, h⟩) | h
  · exact .inl (.inl (k _ _ h (fun _ z => by cases z)))
  · exact .inl (.inr ⟨o, k _ _ h (fun _ z => by cases z)⟩)
  · exact .inr h
mutual
theorem Rep.ext (k : ∀ b o, H b = some o → NExt o → H' b = some o) : ∀ {d : D} {v : V}, Rep g F H d v → Rep g F H' d v
  | _, _, .non => .non
  | _, _, .bl b => .bl b
  | _, _, .int i => .int i
  | _, _, .str x => .str x
  | _, _, .ty n => .ty n
  | _, _, .cls c => .cls c
  | _, _, .obj a => .obj a
  | _, _, .tk h => .tk (k _ _ h (fun _ z => by cases z))
  | _, _, .ref h => .ref h
  | _, _, .tup h r => .tup (sqT_ext k h) (Reps.ext k r)
  | _, _, .fro h r => .fro (h.ext k) (Reps.ext k r)
  | _, _, .ins h hn hl r => .ins (k _ _ h (fun _ z => by cases z)) hn hl (Reps.ext k r)
theorem Reps.ext (k : ∀ b o, H b = some o → NExt o → H' b = some o) : ∀ {ds : List D} {vs : List V}, Reps g F H ds vs → Reps g F H' ds vs
  | _, _, .nil => .nil
  | _, _, .cons h t => .cons (Rep.ext k h) (Reps.ext k t)
end
theorem ObjR.ext (k : ∀ b o, H b = some o → NExt o → H' b = some o) {o : MO} {h : HO} (r : ObjR g F H o h) : ObjR g F H' o h := by
  cases r with
  | lst r => exact .lst (r.ext k)
  | dk hl r => exact .dk hl (r.ext k)
  | dt hl r => exact .dt hl (r.ext k)
  | ob hl r => exact .ob hl (r.ext k)
  | lk hl r => exact .lk hl (r.ext k)
  | lt hl r => exact .lt hl (r.ext k)
theorem ObjR.nx {o : MO} {h : HO} (r : ObjR g F H o h) : NExt h := by cases r <;> exact fun _ z => by cases z
theorem RelM.ext (k : ∀ b o, H b = some o → NExt o → H' b = some o) {M : MH} (R : RelM g F M H) : RelM g F M H' :=
  ⟨R.len, R.nd, fun n a o e m => by
    obtain ⟨h, e2, r⟩ := R.obj n a o e m
    exact ⟨h, k _ _ e2 r.nx, r.ext k⟩⟩
theorem EnvR.ext (k : ∀ b o, H b = some o → NExt o → H' b = some o) : ∀ {e : Env2} {s : L2.St}, EnvR g F H e s → EnvR g F H' e s
  | _, _, .nil => .nil
  | _, _, .cons .none t => .cons .none (EnvR.ext k t)
  | _, _, .cons (.some r) t => .cons (.some (r.ext k)) (EnvR.ext k t)
theorem grow_same {F F' : List Addr} {M : MH} {H' : Hp} (h : F <+: F') (R : RelM g F M H) (R' : RelM g F' M H') : F' = F := by
  obtain ⟨t, rfl⟩ := h
  have := R'.len
  rw [List.length_append, R.len] at this
  have : t = [] := List.eq_nil_of_length_eq_zero (by omega)
  rw [this, List.append_nil]
end

/-! ### the stores of an own exception's __init__ -/
def WN : WY := ⟨fun _ _ _ _ => False, ⟨[], []⟩⟩
inductive Sto (X : Cx) (g : Wd) (C : Addr) : List Stmt → List (Str × EM) → Prop
  | nil : Sto X g C [] []
  | cons {f : Str} {p p' pos : Pos} {e : Expr} {m : EM} {sts : List Stmt} {l : List (Str × EM)} (hs : PE X (.Name "self" p) (tVar 0)) (he : PE X e (tD g WN m)) (hf : PySem.W.findIn X.K (.ref C) f = some none)
      (hw : swapsWith e (some (.Attribute (.Name "self" p) f p')) pos.line X.env = pure false) (h : Sto X g C sts l) : Sto X g C (.Assign [.Attribute (.Name "self" p) f p'] e pos :: sts) ((f, m) :: l)
/-- the exception at a, its dict at d with the fields fs -/
inductive XS (a C : Addr) (H : Hp) : Option Addr → List (Str × V) → Prop
  | no (h : H a = some (exo a C none)) : XS a C H none []
  | so {d : Addr} {fs : List (Str × V)} (h : H a = some (exo a C (some d))) (hd : H d = some (exd d fs)) (hne : d ≠ a) : XS a C H (some d) fs
def evs (env : Env2) (M : MH) : List (Str × EM) → List (Str × D) → Prop
  | [], acc => acc = []
  | (f, m) :: l, acc => ∃ d r, m env M = .ok d M ∧ evs env M l r ∧ acc = (f, d) :: r
theorem sto_run {X : Cx} {g : Wd} {C a : Addr} (T : OexC X.K C) {F : List Addr} {env : Env2} {M : MH} {H0 : Hp} {pins : List (Addr × Obj)} {E : Ends} {σ : L2.St} (h0 : σ[0]? = some (some (.ref a))) :
    ∀ {sts : List Stmt} {l : List (Str × EM)}, Sto X g C sts l → ∀ (H : Hp) (s : Shared) (o : Option Addr) (ns : List Str) (ds : List D) (vs : List V) (acc : List (Str × D)), Inv X pins σ H s → RelM g F M H → EnvR g F H env σ → XS a C H o (ns.zip vs) → ns.length = vs.length → ns.length + l.length ≤ 100 → Reps g F H ds vs →
      (∀ b u, b ≠ a → (b ∉ F ∨ ¬ NoLk (some u)) → H0 b = some u → H b = some u) → (∀ b, H b = none → H0 b = none) → (∀ d, o = some d → H0 d = none) → evs env M l acc →
      (∀ H2 o2 vs2, (∀ b u, b ≠ a → (b ∉ F ∨ ¬ NoLk (some u)) → H0 b = some u → H2 b = some u) → XS a C H2 o2 (((acc.map (·.1)).reverse ++ ns).zip vs2) → ((acc.map (·.1)).reverse ++ ns).length = vs2.length → (∀ d, o2 = some d → H0 d = none) → RelM g F M H2 → Reps g F H2 ((acc.map (·.2)).reverse ++ ds) vs2 → E.nx σ H2) →
      wpAny (model X.prog X.w) X.A (execs sts X.env) (SP X pins E) X.xe s := by
  intro sts l S
  induction S with
  | nil =>
    intro H s o ns ds vs acc I R e xs hl hz r k kd ko ev fin
    cases ev
    rw [execs_nil]
    refine wpAny_pure ⟨σ, H, I, fin H o vs k ?_ ?_ ko R ?_⟩ <;> simpa
  | @cons f p p' pos ex m sts l hs he hf hw hS ih =>
    intro H s o ns ds vs acc I R e xs hl hz r k kd ko ev fin
    obtain ⟨d, ar, hm, ev, rfl⟩ := ev
    have key : tOst X.K f (tVar 0) (tD g WN m) { nx := fun σ' H' => σ' = σ ∧ ∃ o2 v vs', RelM g F M H' ∧ EnvR g F H' env σ ∧ XS a C H' o2 ((f :: ns).zip (v :: vs')) ∧ ns.length = vs'.length ∧ Reps g F H' (d :: ds) (v :: vs') ∧ (∀ b u, b ≠ a → (b ∉ F ∨ ¬ NoLk (some u)) → H0 b = some u → H' b = some u) ∧ (∀ b, H' b = none → H0 b = none) ∧ (∀ d, o2 = some d → H0 d = none), rt := fun _ _ => False } σ H := by
      refine ⟨F, env, M, ⟨R, e, pin_nil, xrs_nil⟩, ?_⟩
      rw [hm]
      intro F1 H1 v g1 R1 rv
      have hF : F = F1 := (grow_same g1.pre R R1).symm
      subst hF
      refine ⟨.ref a, h0, a, C, rfl, T, hf, ?_⟩
      have nF : ∀ {b : Addr} {u : HO}, H b = some u → ¬ MutO (some u) → b ∉ F := fun hb hu => R.good.notin hb hu
      generalize hfs : ns.zip vs = fs at xs
      cases xs with
      | no h =>
        obtain rfl : ns = [] := by
          cases ns with
          | nil => rfl
          | cons x xs => cases vs with
            | nil => cases hl
            | cons y ys => cases hfs
        obtain rfl : vs = [] := List.eq_nil_of_length_eq_zero hl.symm
        have ha : a ∉ F := nF h (fun z => z)
        have h1 := g1.keep _ _ h ha
        refine .inl ⟨h1, fun dx hd hda => ⟨rfl, some dx, v, [], ?_⟩⟩
        have kk : ∀ b o, H1 b = some o → NExt o → upd (upd H1 dx (exd dx [(f, v)])) a (exo a C (some dx)) b = some o := fun b o hb hn => by
          have b1 : b ≠ a := fun z => by rw [z, h1] at hb; exact hn _ (Option.some.inj hb).symm
          have b2 : b ≠ dx := fun z => by rw [z, hd] at hb; cases hb
          rw [upd_ne b1, upd_ne b2]; exact hb
        refine ⟨R1.ext kk, (e.mono g1 R.good).ext kk, .so (d := dx) upd_same (by rw [upd_ne hda]; exact upd_same) hda, rfl, .cons (rv.ext kk) ((r.mono g1 R.good).ext kk), fun b u hb hf hu => ?_, fun b hb => ?_, fun d hd' => ?_⟩
        · have z := g1.keep2 (k b u hb hf hu) hf
          have b2 : b ≠ dx := fun y => by rw [y, hd] at z; cases z
          rw [upd_ne hb, upd_ne b2]; exact z
        · by_cases b1 : b = a
          · rw [b1, upd_same] at hb; cases hb
          · rw [upd_ne b1] at hb
            by_cases b2 : b = dx
            · rw [b2, upd_same] at hb; cases hb
            · rw [upd_ne b2] at hb
              by_cases hbF : b ∈ F
              · have := R1.good b hbF; rw [hb] at this; exact this.elim
              · cases z : H b with
                | none => exact kd b z
                | some u => rw [g1.keep _ _ z hbF] at hb; cases hb
        · cases hd'
          have hdF : dx ∉ F := R1.notin hd
          cases z : H dx with
          | none => exact kd dx z
          | some u => rw [g1.keep _ _ z hdF] at hd; cases hd
      | so h hd hne =>
        rename_i dx
        subst hfs
        have ha : a ∉ F := nF h (fun z => z)
        have hdF : dx ∉ F := nF hd (fun z => z)
        have h1 := g1.keep _ _ h ha
        have hd1 := g1.keep _ _ hd hdF
        have hzl : (ns.zip vs).length ≤ 900 := by rw [List.length_zip]; omega
        refine .inr ⟨dx, ns.zip vs, h1, hd1, hzl, ⟨rfl, some dx, v, vs, ?_⟩⟩
        have hda : a ≠ dx := Ne.symm hne
        have kk : ∀ b o, H1 b = some o → NExt o → upd H1 dx (exd dx ((f, v) :: ns.zip vs)) b = some o := fun b o hb hn => by
          have b2 : b ≠ dx := fun z => by rw [z, hd1] at hb; exact hn _ (Option.some.inj hb).symm
          rw [upd_ne b2]; exact hb
        refine ⟨R1.ext kk, (e.mono g1 R.good).ext kk, .so (d := dx) (by rw [upd_ne hda]; exact h1) upd_same hne, hl, .cons (rv.ext kk) ((r.mono g1 R.good).ext kk), fun b u hb hf hu => ?_, fun b hb => ?_, fun d hd' => ko d hd'⟩
        · have z := g1.keep2 (k b u hb hf hu) hf
          have b2 : b ≠ dx := fun y => by rw [y] at hu; rw [ko dx rfl] at hu; cases hu
          rw [upd_ne b2]; exact z
        · by_cases b2 : b = dx
          · rw [b2, upd_same] at hb; cases hb
          · rw [upd_ne b2] at hb
            by_cases hbF : b ∈ F
            · have := R1.good b hbF; rw [hb] at this; exact this.elim
            · cases z : H b with
              | none => exact kd b z
              | some u => rw [g1.keep _ _ z hbF] at hb; cases hb
    refine wpAny_execs_cons (thn ((ps_ost (p' := p') (f := f) (pos := pos) hs he hw).run pins s σ H _ I key) fun fl s1 q => ?_)
    cases fl with
    | next =>
      obtain ⟨σ', H', I', rfl, o2, v, vs', R', e', xs', hl', r', k', kd', ko'⟩ := q
      refine ih H' s1 o2 (f :: ns) (d :: ds) (v :: vs') ar I' R' e' xs' (by simp [hl']) (by simp at hz ⊢; omega) r' k' kd' ko' ev fun H2 o3 vs2 k2 x2 l2 ko2 R2 r2 => fin H2 o3 vs2 k2 ?_ ?_ ko2 R2 ?_
      · simpa using x2
      · simpa using l2
      · simpa using r2
    | ret v => obtain ⟨_, _, _, _, _, q⟩ := q; exact q.elim
    | brk => obtain ⟨_, _, _, q⟩ := q; exact q.elim
    | cont => obtain ⟨_, _, _, q⟩ := q; exact q.elim

/-! ### super().__init__(text), first in such an __init__ -/
structure SupIn (P : Program) (K : PySem.W.Frag) (mg : Str → Option Value) (C f cc cda : Addr) (fd : FuncData) : Prop where
  lk : ∃ oc od osl, K.lookup f = some ⟨oc, od, .func fd, osl⟩
  par : ∃ ar : Arg, (fd.params.posonlyargs ++ fd.params.args).head? = some ar ∧ ar.arg = "self"
  code : ∃ ccl cdd vs ccs file tf, K.lookup cda = some ⟨ccl, cdd, .fields vs, ccs⟩ ∧ vs[2]? = some (.str file tf) ∧ ((P.main.file : Str) == file) = true
  cell : ∃ cl cld csl, K.lookup cc = some ⟨cl, cld, .cell (some (.ref C)), csl⟩
  self : PySem.W.mroIn K C (.ref C) = some true
  sup : mg "super" = none
  third : PySem.W.nsIn K cStatics "thirdparty.any" = some none
  sin : PySem.W.ks_superIn K C C "__init__" = some (some (.builtin "ValueError.__init__"))
  isV : PySem.W.subIn K (.ref C) (.type "ValueError") = some true
  top : (P.main.scope.names.lookup ("super" : Str)).isSome = false
theorem boot_super : bootBuiltins "super" = some (.type "super") := by decide +kernel
abbrev supSt (txt : Str) (j : Nat) (p0 p1 p2 p3 p4 p5 : Pos) : Stmt := .Expr (.Call (.Attribute (.Call (.Name "super" p0) [] [] p1) "__init__" p2) [.Constant (.str txt) j p3] [] p4) p5
theorem sup_first {CX : CXT} {P : Program} {w : World} {K : PySem.W.Frag} {mg : Str → Option Value} {base : Heap} {N ps : List Str} {qual : Str} {scope : Scope} {f cda cc C a : Addr} {fd : FuncData} {A : Around} {outer : List Env} {s0 : Shared} {H0 : Hp} {E0 : XK} {σ : L2.St} {H : Hp} {s : Shared} {body rest : List Stmt}
    {txt : Str} {j : Nat} {p0 p1 p2 p3 p4 p5 : Pos} {Q : Flow → Shared → Prop}
    (S : ScopeS N ps scope) (T : OexC K C) (U : SupIn P K mg C f cc cda fd) (hN : N[0]? = some ("self" : Str)) (hl : scope.names.lookup ("self" : Str) = some .local)
    (I : Inv (cxS CX P w K mg base N qual scope f (.ref cda) cc A outer s0 H0 E0) [] σ H s) (ea : H a = some (exo a C none)) (h0 : σ[0]? = some (some (.ref a)))
    {pl : Sem Bool} (he : eval (.Call (.Attribute (.Call (.Name "super" p0) [] [] p1) "__init__" p2) [.Constant (.str txt) j p3] [] p4) (PySem.W.ksEnv qual scope s0.heap.objs.size f (.ref cda) cc) = (do
      let ov ← attributeBase (.Call (.Name "super" p0) [] [] p1) "__init__" (PySem.W.ksEnv qual scope s0.heap.objs.size f (.ref cda) cc) (eval (.Call (.Name "super" p0) [] [] p1) (PySem.W.ksEnv qual scope s0.heap.objs.size f (.ref cda) cc))
      standAt p2.atName
      let (f', first) ← holding [ov] (getMethod ov "__init__" pl)
      callWith p4 f' first (backTo p4 (starEach [.Constant (.str txt) j p3] (PySem.W.ksEnv qual scope s0.heap.objs.size f (.ref cda) cc))) []))
    (hi : interactive (PySem.W.ksEnv qual scope s0.heap.objs.size f (.ref cda) cc) = false)
    (k : ∀ s', Inv (cxS CX P w K mg base N qual scope f (.ref cda) cc A outer s0 H0 E0) [] σ H s' → wpAny (model P w) (cxS CX P w K mg base N qual scope f (.ref cda) cc A outer s0 H0 E0).A (execs rest (cxS CX P w K mg base N qual scope f (.ref cda) cc A outer s0 H0 E0).env) Q (cxS CX P w K mg base N qual scope f (.ref cda) cc A outer s0 H0 E0).xe s') :
    _root_.PySem.wpAt (model P w) (cxS CX P w K mg base N qual scope f (.ref cda) cc A outer s0 H0 E0).A (.func body (PySem.W.ksEnv qual scope s0.heap.objs.size f (.ref cda) cc))
      (execs (supSt txt j p0 p1 p2 p3 p4 p5 :: rest) (PySem.W.ksEnv qual scope s0.heap.objs.size f (.ref cda) cc)) Q (cxS CX P w K mg base N qual scope f (.ref cda) cc A outer s0 H0 E0).xe s := by
  obtain ⟨nm, q, N', bs, bm, sn, sub, ab, col, dd, k0, k1, k2, k3, k5, hC, hbm⟩ := T.cls
  obtain ⟨oc, od, osl, lk⟩ := U.lk
  obtain ⟨ar, hp, har⟩ := U.par
  obtain ⟨ccl, cdd, vs, ccs, file, tf, hco, hvs, hfile⟩ := U.code
  obtain ⟨cl, cld, csl, hcc⟩ := U.cell
  obtain ⟨t1, ho⟩ := exo_at I.hok ea
  have KX := I.kIn
  have KX : K.In s.heap := KX
  obtain ⟨m, hns, hloc⟩ := I.loc
  obtain ⟨u, ru, hlk⟩ := hloc 0 "self" (.ref a) hN h0 (.inl hl)
  obtain rfl : u = Value.ref a := ru
  have hms : m ar.arg = some (.ref a) := by
    rw [har]
    rcases hlk with ⟨_, h⟩ | ⟨h, _⟩
    · exact h
    · have h : scope.names.lookup ("self" : Str) = some .cell ∨ scope.names.lookup ("self" : Str) = some .free := h
      rw [hl] at h; rcases h with h | h <;> cases h
  obtain ⟨mb, hb1, hb2⟩ := I.mod.blt
  have hgl := I.mod.glob.keeps I.bk
  obtain ⟨hh, g, d, t, os⟩ := s
  have hcl : PySem.W.clsIn K C = some { name := nm, bases := bs, mro := .ref C :: bm, ns := N', qualname := q, hasDict := true, slotNames := sn, subclasses := sub, abstract := ab, collection := col, hasDel := false } := by unfold PySem.W.clsIn; rw [hC] <;> rfl
  have hCo := KX _ _ hC
  have IA : PySem.W.InstAt hh a { cls := .ref C, dict := none, data := .fields #[.ref t1, .none, .none, .none, .bool false, .none] } C none := ⟨ho, rfl, rfl, trivial⟩
  refine ks_wpAt_execs_cons (ks_wpAt_Expr_any (ks_wpAt_MethodCall (pl := pl) ?_ he) hi)
  refine ks_wpAt_super_base (env := PySem.W.ksEnv qual scope s0.heap.objs.size f (.ref cda) cc) S.sup S.cls (by decide) rfl (KX _ _ lk) rfl hp rfl (KX _ _ hco) rfl hvs hfile U.top ?_
  refine PySem.W.ks_loadName_global S.kind S.sup (PySem.Calls.loadGlobal_builtin (env := PySem.W.ksEnv qual scope s0.heap.objs.size f (.ref cda) cc) hgl U.sup (hb1.keeps I.bk) ((hb2 _ (by decide)).trans boot_super) ⟨rfl, ?_⟩)
  refine wpAny_loadName_free S.kind S.cls rfl ⟨_, KX _ _ hcc, rfl⟩ ?_
  refine wpAny_loadName_local S.kind (by rw [har]; exact hl) hns hms ?_
  refine ks_wpAny_isType_cls hCo rfl ⟨rfl, ?_⟩
  refine ks_wpAny_call_super hCo rfl ho rfl (fun c e => by cases e) (PySem.W.looks_mroIn KX U.self) (fun h1 e1 kk1 => ?_)
  have KX1 : K.In h1 := fun b o e => kk1 b o (KX b o e)
  have hI1 : PySem.W.Looks (model P w) h1 (isInstance (.ref a) (.type "ValueError")) true := (show PySem.W.InstAt h1 a _ C none from ⟨kk1 _ _ ho, rfl, rfl, trivial⟩).type.andThen (PySem.W.looks_subIn KX1 U.isV)
  have hsin := U.sin
  unfold PySem.W.ks_superIn at hsin
  rw [hcl, Option.bind_some] at hsin
  refine PySem.W.kxs_getMethod PySem.W.kxs_ValueError e1 (PySem.W.looks_opaque KX1 U.third) (l₀ := .ref C :: bm) ?_ rfl KX1 hsin hI1 (PySem.W.ks_ne KX IA hcl) (by decide) ?_
  · exact fun A Q E s k q => wpAny_bind ((PySem.W.looks_clsIn KX1 hcl) A _ E s k (wpAny_pure q))
  have kk2 : ∀ b o, hh.get? b = some o → (h1.push (PySem.W.kxs_mw "ValueError.__init__" a)).get? b = some o := fun b o e => Heap.get?_push_of_some _ (kk1 b o e)
  have I2 := I.kept (h' := h1.push (PySem.W.kxs_mw "ValueError.__init__" a)) (t' := t + 1) kk2
  have hsz : hh.objs.size ≤ h1.objs.size := Nat.le_of_lt (Heap.lt_size e1)
  have hu : (h1.push (PySem.W.kxs_mw "ValueError.__init__" a)).get? h1.objs.size = some (PySem.W.kxs_mw "ValueError.__init__" a) := Heap.get?_push_at rfl rfl
  have I3 := I2.pins_of (pins' := [(h1.objs.size, PySem.W.kxs_mw "ValueError.__init__" a)]) (fun p hp => by
    rcases List.mem_singleton.mp hp with rfl
    refine ⟨hu, I.hok.fresh hsz, ?_, I.nofs hsz, fun v z => by cases z⟩
    exact Nat.ne_of_gt (Nat.lt_of_lt_of_le I.lt hsz))
  refine PySem.W.kxs_callWith (i := "ValueError.__init__") (x := a) (by rfl) (PySem.Calls.evalArgs_plain (thn ((pa_cons pe_str pa_nil (by rfl)).run p4 _ _ σ H (fun vs H1 => vs = [.str txt] ∧ H1 = H) I3 ⟨rfl, rfl⟩) ?_))
  rintro us s4 ⟨ws, H4, I4, rw4, rfl, rfl⟩
  have hu4 := (I4.pin _ (List.mem_append_right _ (List.mem_singleton.mpr rfl))).1
  refine ⟨hu4, ?_⟩
  obtain ⟨t4, ho4⟩ := exo_at I4.hok ea
  obtain ⟨h4, g4, d4, tk4, os4⟩ := s4
  have hlen : us.length = 1 := by rw [← rw4.length]; rfl
  refine call_mw (I4.kIn _ _ hC) ho4 hu4 (by rw [List.nil_append, hlen]; decide) fun h' t5 kk5 he5 => ?_
  have J := I4.write (t' := tk4) (x := a) (e := a) (o := exo a C none) (by rw [ea]; exact True.intro) (.inl rfl) kk5 ⟨_, he5⟩ (exo_ok he5)
  have eu : upd H4 a (exo a C none) = H4 := by
    funext b
    by_cases hb : b = a
    · rw [hb, upd_same, ea]
    · rw [upd_ne hb]
  rw [eu] at J
  exact wpAt_of_wpAny (k _ (J.pins_of (pins' := []) (fun p hp => absurd hp (by simp))))
end T2
namespace T2
open PySem L2 PyProof.Rows

/-! ### an own exception's __init__ as a def -/
def spX (g : Wd) (c n : Nat) (ns : List Str) (f : List D → List D) : Sp := fun vs H Q _ => vs.length = n + 1 ∧ ∃ a ws F M ds, vs = .ref a :: ws ∧ H a = some (exo a (g.ca c) none) ∧ RelM g F M H ∧ Reps g F H ds ws ∧
  ∀ H2 d us, (∀ b u, b ≠ a → (b ∉ F ∨ ¬ NoLk (some u)) → H b = some u → H2 b = some u) → H2 a = some (exo a (g.ca c) (some d)) → H2 d = some (exd d (ns.zip us)) → d ≠ a → H d = none → ns.length = us.length → RelM g F M H2 → Reps g F H2 (f ds) us → Q .non H2
theorem fnX_ok {P : Program} {w : World} {K : PySem.W.Frag} {mg : Str → Option Value} {base : Heap} {g : Wd} {c n k : Nat} {f cc cda : Addr} {name qual : Str} {params : Arguments} {scope : Scope} {dV kV doc pm ct oc : Value} {an od : Option Addr} {osl : Array (Option Value)} {ps' : List Str} {ns : List Str}
    {txt : Str} {j : Nat} {p0 p1 p2 p3 p4 p5 : Pos} {rest : List Stmt} {l : List (Str × EM)} {acc : List D → List (Str × D)} {pl : Addr → Sem Bool}
    (lk : K.lookup f = some ⟨oc, od, .func (PySem.W.ksFn name qual params (supSt txt j p0 p1 p2 p3 p4 p5 :: rest) scope dV kV doc pm an (.ref cda) ct cc), osl⟩) (hcd : PySem.W.codeIn K (.ref cda) qual = true) (S : ScopeS ("self" :: ps') ("self" :: ps') scope) (T : OexC K (g.ca c))
    (U : SupIn P K mg (g.ca c) f cc cda (PySem.W.ksFn name qual params (supSt txt j p0 p1 p2 p3 p4 p5 :: rest) scope dV kV doc pm an (.ref cda) ct cc)) (hn : ps'.length = n)
    (he : ∀ L, eval (.Call (.Attribute (.Call (.Name "super" p0) [] [] p1) "__init__" p2) [.Constant (.str txt) j p3] [] p4) (PySem.W.ksEnv qual scope L f (.ref cda) cc) = (do
      let ov ← attributeBase (.Call (.Name "super" p0) [] [] p1) "__init__" (PySem.W.ksEnv qual scope L f (.ref cda) cc) (eval (.Call (.Name "super" p0) [] [] p1) (PySem.W.ksEnv qual scope L f (.ref cda) cc))
      standAt p2.atName
      let (f', first) ← holding [ov] (getMethod ov "__init__" (pl L))
      callWith p4 f' first (backTo p4 (starEach [.Constant (.str txt) j p3] (PySem.W.ksEnv qual scope L f (.ref cda) cc))) []))
    (hi : ∀ L, interactive (PySem.W.ksEnv qual scope L f (.ref cda) cc) = false)
    (hst : ∀ A outer s H E, Sto (cxS (L2N.CX P w) P w K mg base ("self" :: ps') qual scope f (.ref cda) cc A outer s H E) g (g.ca c) rest l)
    (hev : ∀ a ds M, ds.length = n → evs (some (.obj a) :: ds.map some) M l (acc ds)) (hns : ∀ ds, ((acc ds).map (·.1)).reverse = ns) (hnn : ns ≠ []) (hll : l.length ≤ 100) :
    FnOk P w K mg base (L2N.CX P w) (k + 1) f (PySem.W.ksFn name qual params (supSt txt j p0 p1 p2 p3 p4 p5 :: rest) scope dV kV doc pm an (.ref cda) ct cc) ("self" :: ps') (spX g c n ns fun ds => ((acc ds).map (·.2)).reverse) := by
  refine ⟨fun vs H Q E h => by rw [h.1, List.length_cons, hn], fun A outer s H args us vs Q E hr e0 hb r hsp => ?_⟩
  obtain ⟨hl, a, ws, F, M, ds, rfl, ea, R, rs, fin⟩ := hsp
  have KX : K.In s.heap := e0.mod.kin.keeps fun b o e => (e0.bs b o e).1
  have lim : s.heap.NoLimit := e0.mod.nolimit.keeps fun b o e => (e0.bs b o e).1
  have hlw : ws.length = n := by simpa using hl
  have hld : ds.length = n := by rw [rs.length]; exact hlw
  refine ks_codeAny_call_defAt hr.depth (KX _ _ lk) rfl lim (PySem.W.codeRec_of KX hcd) rfl hb S.nocell (fun x hx => S.par x.1 (List.of_mem_zip hx).1) (fun h1 hns1 hk1 => ?_) S.co S.gen S.kind
  obtain ⟨cl, cld, csl, hcc⟩ := U.cell
  have I := inv_startS (CX := L2N.CX P w) (P := P) (w := w) (N := "self" :: ps') (qual := qual) (f := f) (cd := .ref cda) (outer := outer) (E := E) (tk := s.toks + ((("self" : Str) :: ps').zip us).length) S hr.hd e0 (by rw [hl, List.length_cons, hn]) r ⟨_, hcc, rfl⟩ hns1 hk1
  have I0 := I
  have hst0 : (L2.start ("self" :: ps') (V.ref a :: ws)) = some (.ref a) :: ws.map some := by
    unfold L2.start
    rw [List.length_cons, List.length_cons, hn, hlw]
    simp
  rw [hst0] at I
  have hself : scope.names.lookup ("self" : Str) = some .local := S.par _ (List.mem_cons_self ..)
  refine ks_wpAt_mono (Q := SP (cxS (L2N.CX P w) P w K mg base ("self" :: ps') qual scope f (.ref cda) cc A outer s H E) [] { nx := fun _ H' => Q .non H', rt := Q }) (sup_first (CX := L2N.CX P w) (base := base) (outer := outer) (H0 := H) (E0 := E) (qual := qual) (scope := scope) (a := a) S T U rfl hself I ea rfl (he _) (hi _) fun s' I' => ?_) (fun fl s' hs => ?_) fun _ _ z => z
  · have er : EnvR g F H (some (.obj a) :: ds.map some) (some (.ref a) :: ws.map some) := by
      have := envR_start (N := []) (Reps.cons (Rep.obj a) rs) 0
      simpa using this
    refine sto_run (H0 := H) (a := a) (env := some (.obj a) :: ds.map some) T rfl (hst A outer s H E) H s' none [] [] [] (acc ds) I' R er (.no ea) rfl (by simpa using hll) .nil (fun b u _ _ z => z) (fun b z => z) (fun d z => by cases z) (hev a ds M hld) fun H2 o2 vs2 k2 x2 l2 ko2 R2 r2 => ?_
    rw [List.append_nil] at x2 l2
    rw [List.append_nil] at r2
    rw [hns] at x2 l2
    generalize hz : ns.zip vs2 = fs at x2
    cases x2 with
    | no h =>
      exfalso
      cases ns with
      | nil => exact hnn rfl
      | cons x xs => cases vs2 with
        | nil => cases l2
        | cons y ys => cases hz
    | so h hd hne => subst hz; exact fin H2 _ vs2 k2 h hd hne (ko2 _ rfl) l2 R2 r2
  · have fin2 : ∀ {σ' : L2.St} {H' : Hp} {v : V} {u : Value}, Inv (cxS (L2N.CX P w) P w K mg base ("self" :: ps') qual scope f (.ref cda) cc A outer s H E) [] σ' H' s' → RelV v u → Q v H' → CE outer P w H s Q u s' :=
      fun {σ' H' v u} J rv q => ⟨v, H', J.os, J.bare, J.base, J.hok, rv, q⟩
    cases fl with
    | ret u => obtain ⟨v, σ', H', J, rv, q⟩ := hs; exact fin2 J rv q
    | next => obtain ⟨σ', H', J, q⟩ := hs; exact fin2 (v := V.non) (u := Value.none) J rfl q
    | brk => obtain ⟨_, _, _, q⟩ := hs; exact False.elim q
    | cont => obtain ⟨_, _, _, q⟩ := hs; exact False.elim q

/-! ### raise C(e, ..) -/
def sRaiseX (c n : Nat) (ns : List Str) (f : List D → List D) (ma : AM) : SM := fun e M => match ma e M with
  | .ok ds M1 => if ds.length = n then .ex c ns (f ds) e M1 else .bad
  | .exc c ns ds M1 => .ex c ns ds e M1
  | .bad => .bad
section
variable {X : Cx} {g : Wd} {W : WY} {e : Expr} {es : List Expr} {ma : AM} {c n k : Nat} {x : Str} {fI : Addr} {fd : FuncData} {ps ns : List Str} {f : List D → List D} {p pos pos2 : Pos}
theorem passes_no : Passes (L2N.CX X.prog X.w) X (fun _ _ _ => False) := fun _ _ _ _ _ _ _ h => by
  obtain ⟨_, _, _, _, _, _, _, _, _, _, _, _, z⟩ := h
  exact z.elim
theorem mk_endN {pins : List (Addr × Obj)} {σ : L2.St} {H1 H2 : Hp} {Q : XK} {hp hp2 h2 : Heap} {g1 g2 : Array GenState} {d1 d2 : Drawn} {t1 t2 : Nat} {os1 os2 : OsState} {a C d : Addr} {fs : List (Str × V)} (T : Raises X (.ref C)) (I1 : Inv X pins σ H1 ⟨hp, g1, d1, t1, os1⟩)
    (ha : hp.objs.size ≤ a) (k : ∀ b o, hp.get? b = some o → hp2.get? b = some o) (un : Un (frs X.stack) [] (upd H1 a (exo a C none)) H2 hp2 h2) (hok : HOk X.prog X.w H2 h2) (ho : os2 = os1) (hb : AllBare g2)
    (ea : H2 a = some (exo a C (some d))) (ed : H2 d = some (exd d fs)) (hd1 : H1 d = none) (q : Q (.ref C) (some d) (upd (del H2 a) d (.xd fs))) : L2N.MkP X pins σ Q (.ref a) ⟨h2, g2, d2, t2, os2⟩ := by
  obtain ⟨t0, G, J, kG, ge, hoe, na⟩ := mk_end0 (d2 := d2) (t2 := t2) I1 ha k un hok ho hb ea ed hd1
  exact ⟨a, _, _, ⟨G, g2, d2, t2, os2⟩, _, .ref C, some d, rfl, J, kG, ge, hoe, ⟨rfl, rfl, fun vs e => by cases e; rfl⟩, rfl, rfl, na, rfl, hb, T, q⟩
/-- an exception's object and its tuple of what was handed in, laid -/
theorem exc_begun {pins : List (Addr × Obj)} {σ : L2.St} {H : Hp} {hp : Heap} {gs : Array GenState} {dr : Drawn} {tk : Nat} {os : OsState} (us : List Value) (C : Addr) (I : Inv X pins σ H ⟨hp, gs, dr, tk, os⟩) :
    (∀ b o, hp.get? b = some o → ((hp.push (PySem.W.kdv_tup us)).push (PySem.HandSPX.excO C hp.objs.size)).get? b = some o) ∧
    Inv X pins σ (upd H (hp.objs.size + 1) (exo (hp.objs.size + 1) C none)) ⟨(hp.push (PySem.W.kdv_tup us)).push (PySem.HandSPX.excO C hp.objs.size), gs, dr, tk, os⟩ := by
  have keep : ∀ b o, hp.get? b = some o → ((hp.push (PySem.W.kdv_tup us)).push (PySem.HandSPX.excO C hp.objs.size)).get? b = some o := fun _ _ z => Heap.get?_push_of_some _ (Heap.get?_push_of_some _ z)
  exact ⟨keep, I.laid (t' := tk) (a := hp.objs.size + 1) (o := exo _ C none) keep (Nat.le_succ _) (exo_ok (by heap_get))⟩
theorem pmk_oexN {sp : Sp} {C : Addr} {ta : TA} (T : OexC X.K C) (iC : PySem.W.findIn X.K (.ref C) "__init__" = some (some (.ref fI))) (tI : PySem.W.typeIn X.K (.ref fI) = some (.type "function"))
    (F1 : FnOk X.prog X.w X.K X.mg X.base (L2N.CX X.prog X.w) k fI fd ps sp) (hr : Room (k + 1) X.A) (hb : Binds X.K fd ps []) (hg : Gl X x) (hm : X.mg x = some (.ref C)) (ha : PA X (e :: es) ta)
    (hdb : (x == ("__debug__" : Str)) = false := by decide) (he : starEach (e :: es) X.env = (false, eval e X.env) :: starEach es X.env := by rfl) (hpl : (backTo pos (starEach es X.env)).any (·.1) = false := by rfl) :
    L2N.PMk X (.Call (.Name x p) (e :: es) [] pos) (tMkO C sp [] ta) := by
  intro pins s σ H Q I h
  have ⟨_, _, _, _, bm, _, _, _, _, _, _, _, _, _, _, hC, hbm⟩ := T.cls
  refine wpAny_Call_Name_kw (ld_glob I hg hm (PySem.W.callWith_K (h₀ := X.base) I.ok.mod.kin T.kC (thn (ha.run pos pins s σ H _ I h) fun us s1 h1 => ?_) he hpl) hdb)
  obtain ⟨vs, H1, I1, r1, hz, q1⟩ := h1
  refine ⟨I1.kIn, ?_⟩
  have first := q1 _ (I1.hok.fresh (Nat.le_succ s1.heap.objs.size))
  obtain ⟨hp, g, dr, tk, os⟩ := s1
  have hsz : hp.objs.size ≤ hp.objs.size + 1 := Nat.le_succ _
  have hn : H1 (hp.objs.size + 1) = none := I1.hok.fresh hsz
  obtain ⟨kk, I2⟩ := exc_begun us C I1
  have hq : sp (.ref (hp.objs.size + 1) :: vs) _ _ _ := List.append_nil vs ▸ first
  have r2 : Vals (V.ref (hp.objs.size + 1) :: vs) (Value.ref (hp.objs.size + 1) :: us) := .cons rfl r1
  have hbb := hb _ (Value.ref (hp.objs.size + 1) :: us) I2.kIn (by simpa using r2.length.symm.trans (F1.len _ _ _ _ hq))
  have hus : us.length ≤ sizeLine := Paired.length r1 ▸ (by rw [sizeLine_eq]; omega)
  rw [List.append_nil] at hbb
  refine wpAny_call (PySem.HandSPX.call_own F.excBase_ValueError (fun Y => PySem.HandSPX.refsVE_contains Y bm hbm) (I1.kIn _ _ hC) (PySem.W.looks_findIn I1.kIn iC) (fun self => PySem.W.bind_fn I1.kIn self tI) hus
    (codeAny_mono (F1.run _ X.stack _ _ ⟨Value.ref (hp.objs.size + 1) :: us, []⟩ (Value.ref (hp.objs.size + 1) :: us) _ _ (fun _ _ _ => False) (hr.make C us []) (I2.env0.make C us []) hbb r2 hq) fun r s' hq' => ?_))
  match r, hq' with
  | .error er, hq' => exact passes_no pins σ _ _ er s' I2 hq'
  | .ok .next, hq' | .ok .brk, hq' | .ok .cont, hq' => exact hq'.elim
  | .ok (.ret u), hq' =>
    obtain ⟨v, H2, os2, bare2, un2, hok2, rv, rfl, d, fs, ea, ed, hd1, q2⟩ := hq'
    exact ⟨rv, mk_endN (raises_own T.exC T.tyC) I1 hsz kk un2 hok2 os2 bare2 ea ed hd1 q2⟩
theorem raiseX_imp {E : Ends} {σ : L2.St} {H : Hp} {t : TA} (hnn : ns ≠ []) (hn : n ≤ 100) (hlen : ∀ ds : List D, ds.length = n → (f ds).length = ns.length) (ht : ∀ σ H Q, tA g W ma σ H Q → t σ H Q) (q : tS g W (sRaiseX c n ns f ma) E σ H) : tMkO (g.ca c) (spX g c n ns f) [] t σ H (fun cls d H' => W.w cls d σ H') := by
  obtain ⟨F, e, M, RS, q⟩ := q
  refine ht σ H _ ⟨F, e, M, RS, ?_⟩
  unfold sRaiseX at q
  cases hm : ma e M with
  | bad => rw [hm] at q; exact q
  | exc c' ns' ds' M' =>
    rw [hm] at q
    exact fun F' H' d g1 Rm x => q F' H' σ d g1 Rm (RS.e.mono g1 RS.m.good) x
  | ok ds M1 =>
    rw [hm] at q
    dsimp only at q
    intro F1 H1 vs g1 R1 rs
    by_cases hl : ds.length = n
    · rw [if_pos hl] at q
      have hvl : vs.length = n := by rw [← rs.length]; exact hl
      refine ⟨by omega, fun a ha => ⟨by simp [hvl], a, vs, F1, M1, ds, by simp, upd_same, ?_, ?_, ?_⟩⟩
      · exact (R1.still ha).2
      · exact rs.mono (R1.still ha).1 R1.good
      · intro H2 d us k2 ea ed hda hd hul R2 r2
        have hd1 : H1 d = none := by rw [upd_ne hda] at hd; exact hd
        refine ⟨rfl, d, _, ea, ed, hd1, ?_⟩
        have kk : ∀ b o, H2 b = some o → NExt o → upd (del H2 a) d (.xd (ns.zip us)) b = some o := fun b o hb hx => by
          have b1 : b ≠ a := fun z => by rw [z, ea] at hb; exact hx _ (Option.some.inj hb).symm
          have b2 : b ≠ d := fun z => by rw [z, ed] at hb; exact hx _ (Option.some.inj hb).symm
          rw [upd_ne b2, del_ne b1]; exact hb
        have gr : Grow F1 H1 F1 (upd (del H2 a) d (.xd (ns.zip us))) := ⟨List.prefix_refl _, fun b o hb hf => by
          have b1 : b ≠ a := fun z => by rw [z, ha] at hb; cases hb
          have b2 : b ≠ d := fun z => by rw [z, hd1] at hb; cases hb
          rw [upd_ne b2, del_ne b1]
          exact k2 b o b1 (.inl hf) (by rw [upd_ne b1]; exact hb), fun b hb => .inl hb, fun b o hb hf => by
          have b1 : b ≠ a := fun z => by rw [z, ha] at hb; cases hb
          have b2 : b ≠ d := fun z => by rw [z, hd1] at hb; cases hb
          rw [upd_ne b2, del_ne b1]
          exact k2 b o b1 (.inr hf) (by rw [upd_ne b1]; exact hb)⟩
        exact q F1 _ σ (some d) (g1.trans gr) (R2.ext kk) (RS.e.mono (g1.trans gr) RS.m.good) (.so upd_same hnn hul (r2.ext kk))
    · rw [if_neg hl] at q; exact q.elim
theorem ds_raiseX (T : OexC X.K (g.ca c)) (iC : PySem.W.findIn X.K (.ref (g.ca c)) "__init__" = some (some (.ref fI))) (tI : PySem.W.typeIn X.K (.ref fI) = some (.type "function"))
    (F1 : FnOk X.prog X.w X.K X.mg X.base (L2N.CX X.prog X.w) k fI fd ps (spX g c n ns f)) (hr : Room (k + 1) X.A) (tk : L2N.Takes X W.w) (hb : Binds X.K fd ps []) (hm : X.mg x = some (.ref (g.ca c))) (ha : PA X (e :: es) (tA g W ma)) (hnn : ns ≠ [] := by decide) (hn : n ≤ 100 := by decide) (hlen : ∀ ds : List D, ds.length = n → (f ds).length = ns.length := by exact fun _ _ => rfl)
    (hc : X.calm = true := by rfl) (hg : Gl X x := by rfl) (hdb : (x == ("__debug__" : Str)) = false := by decide) (he : starEach (e :: es) X.env = (false, eval e X.env) :: starEach es X.env := by rfl) (hpl : (backTo pos (starEach es X.env)).any (·.1) = false := by rfl) :
    PS X (.Raise (some (.Call (.Name x p) (e :: es) [] pos)) none pos2) (tS g W (sRaiseX c n ns f ma)) :=
  ps_imp (L2N.ps_raise hc tk (pmk_oexN T iC tI F1 hr hb hg hm ha hdb he hpl)) fun E σ H q => raiseX_imp hnn hn hlen (fun _ _ _ q => q) q
end
end T2
namespace T2
open PySem L2 PyProof.Rows

/-! ### within a suite: isinstance(n, C) and n.f, n an exception with fields -/
def eXIsF (b : Option Bool) : EM := fun _ M => match b with
  | some b => .ok (.bl b) M
  | none => .bad
def eXFld (b : Bool) (f : Str) (ns : List Str) (ds : List D) : EM := fun _ M => if b = true then match fieldOf f ns ds with
  | some d => .ok d M
  | none => .bad else .bad
section
variable {X : Cx} {g : Wd} {W : WY} {a b : Expr} {pos p apos : Pos} {m1 m2 m3 : EM} {ma : AM} {es : List Expr} {s1 : SM}
theorem call_isF {a D : Addr} {oe : Obj} {odx : Option Obj} {pn : List (Addr × Obj)} (C : ExcC X.K D) (hz : oe.cls = .ref D) (hf : ∃ vs, oe.data = .fields vs) {Hc : Hp → Prop} (ho : ∀ pins σ H s, Inv (X.suite a ((a, oe) :: pn)) pins σ H s → Hc H → ∃ od, PySem.W.InstAt s.heap a oe D od) :
    CallR (X.suite a ((a, oe) :: pn)) (.builtin "isinstance") (fun xs H Q => Hc H ∧ rIsE X.K D a xs H Q) := by
  intro pins s σ H xs us Q I r h
  obtain ⟨hc, c, cv, b, rfl, hcv, e, q⟩ := h
  cases r with
  | cons rx rr =>
    cases rr with
    | cons rt rr =>
      cases rr; cases rx
      obtain rfl := hcv _ rt
      obtain ⟨od, J⟩ := ho pins σ H s I hc
      have hcl : (PySem.W.clsIn X.K D).isSome = true := by
        obtain ⟨cd, h, _⟩ := PySem.W.any_some C.hd
        rw [h]; rfl
      exact PySem.W.kia_one (PySem.W.kitx_exc hcl C.hg C.hk C.hs C.ha C.hn C.ht C.hm) I.kIn J e (fun z => nomatch z) fun tk => ⟨.bl b, H, I.kept (t' := tk) fun _ _ z => z, rfl, q⟩
theorem inst_suite {ad : Addr} {oe : Obj} {c : Nat} {d : Option Addr} {pn : List (Addr × Obj)} {ns : List Str} {ds : List D} (hz : L2N.Zn (.ref (g.ca c)) d oe) (hf : ∃ vs, oe.data = .fields vs) (pins : List (Addr × Obj)) (σ : L2.St) (H : Hp) (s : Shared) (I : Inv (X.suite ad ((ad, oe) :: pn)) pins σ H s) (hx : ∃ F, XRep g F H ns ds d) :
    ∃ od, PySem.W.InstAt s.heap ad oe (g.ca c) od := by
  obtain ⟨hget, _⟩ := I.pin (ad, oe) (List.mem_append.mpr (.inl List.mem_cons_self))
  obtain ⟨vs, hv⟩ := hf
  obtain ⟨F, hx⟩ := hx
  have hn : PySem.W.notCls oe = true := by unfold PySem.W.notCls; rw [hv] <;> rfl
  cases hx with
  | no => exact ⟨none, hget, hz.1, hn, by rw [hz.2.1]; trivial⟩
  | so h hne hl r =>
    have hx : ObjOk X.prog X.w H s.heap _ (.xd _) := I.hok _ _ h
    obtain ⟨mA, hns, hr⟩ := hx
    obtain ⟨od, ho, hl⟩ := lookIn_ns hns
    exact ⟨some od, hget, hz.1, hn, by rw [hz.2.1]; exact ho⟩
theorem de_xisF {i : Nat} {ad : Addr} {oe : Obj} {c k : Nat} {d : Option Addr} {pn : List (Addr × Obj)} {ns : List Str} {ds : List D} {n x : Str} {p1 p2 : Pos} {isx : Nat → Option Bool} (hE : ∀ c bb, isx c = some bb → ExcC X.K (g.ca c) ∧ PySem.W.kitOne X.K (.ref (g.ca c)) (.ref (g.ca k)) = some bb) (hz : L2N.Zn (.ref (g.ca c)) d oe) (hf : ∃ vs, oe.data = .fields vs)
    (hm : X.mg "isinstance" = none) (gC : X.mg x = some (.ref (g.ca k)))
    (hN : X.N[i]? = some n := by rfl) (hv : Vis X.env.scope n := by first | exact Or.inl rfl | exact Or.inr (Or.inl rfl) | exact Or.inr (Or.inr rfl)) (hdn : (n == ("__debug__" : Str)) = false := by decide) (hcd : (n == ("__classdict__" : Str)) = false := by decide) (hg : Gl (X.suite ad ((ad, oe) :: pn)) "isinstance" := by rfl) (hgx : Gl (X.suite ad ((ad, oe) :: pn)) x := by rfl)
    (he : starEach [.Name n p1, .Name x p2] X.env = (false, eval (.Name n p1) X.env) :: starEach [.Name x p2] X.env := by rfl) (he2 : starEach [.Name x p2] X.env = (false, eval (.Name x p2) X.env) :: starEach [] X.env := by rfl) (hpl : (backTo pos (starEach [.Name x p2] X.env)).any (·.1) = false := by rfl) (hdx : (x == ("__debug__" : Str)) = false := by decide) :
    PE (X.suite ad ((ad, oe) :: pn)) (.Call (.Name "isinstance" p) [.Name n p1, .Name x p2] [] pos) (tD g (WS i ad ns ds d) (eXIsF (isx c))) := by
  refine ⟨fun pins s σ H Q I ⟨F, e, M, RS, q⟩ => ?_⟩
  cases hx : isx c with
  | none => rw [hx] at q; exact q.elim
  | some bb =>
    rw [hx] at q
    obtain ⟨EC, kt⟩ := hE c bb hx
    have xr : XRep g F H ns ds d := RS.y (ns, ds, d) (by simp)
    refine (pe_callB (X := X.suite ad ((ad, oe) :: pn)) (call_isF (odx := none) EC hz.1 hf (Hc := fun H => ∃ F, XRep g F H ns ds d) (inst_suite hz hf)) hg hm (by decide +kernel) (pa_cons (pe_var (i := i) hN hv hdn hcd) (pa_cons (pe_glob (X := X.suite ad ((ad, oe) :: pn)) (v := .ref (g.ca k)) hgx gC rfl hdx) pa_nil he2) he) (by decide) (by decide) he hpl).run pins s σ H Q I ?_
    exact ⟨.ref ad, RS.x (i, ad) (by simp), ⟨F, xr⟩, .ref (g.ca k), .ref (g.ca k), bb, rfl, fun u r => r, kt, q.here RS.m (.bl _)⟩
theorem de_xfld {i : Nat} {ad : Addr} {oe : Obj} {c : Nat} {d : Option Addr} {pn : List (Addr × Obj)} {ns : List Str} {ds : List D} {n f : Str} {p1 : Pos} {xf : Nat → Bool} (hE : ∀ c, xf c = true → XfC X.K (g.ca c) ∧ PySem.W.findIn X.K (.ref (g.ca c)) f = some none) (hz : L2N.Zn (.ref (g.ca c)) d oe) (hf : ∃ vs, oe.data = .fields vs)
    (hN : X.N[i]? = some n := by rfl) (hv : Vis X.env.scope n := by first | exact Or.inl rfl | exact Or.inr (Or.inl rfl) | exact Or.inr (Or.inr rfl)) (hdn : (n == ("__debug__" : Str)) = false := by decide) (hcd : (n == ("__classdict__" : Str)) = false := by decide)
    (hb : attributeBase (.Name n p1) f X.env (eval (.Name n p1) X.env) = eval (.Name n p1) X.env := by rfl) :
    PE (X.suite ad ((ad, oe) :: pn)) (.Attribute (.Name n p1) f pos) (tD g (WS i ad ns ds d) (eXFld (xf c) f ns ds)) := by
  refine ⟨fun pins s σ H Q I ⟨F, e, M, RS, q⟩ => ?_⟩
  unfold eXFld at q
  by_cases hx : xf c = true
  · rw [if_pos hx] at q
    obtain ⟨T, hno⟩ := hE c hx
    refine (pe_xf (X := X) (a := ad) (pn := pn) T hno hz.zc hf (pe_var (X := X.suite ad ((ad, oe) :: pn)) (i := i) hN hv hdn hcd) hb).run pins s σ H Q I ?_
    have xr : XRep g F H ns ds d := RS.y (ns, ds, d) (by simp)
    cases hq : fieldOf f ns ds with
    | none => rw [hq] at q; exact q.elim
    | some y =>
      rw [hq] at q
      cases xr with
      | no => cases hq
      | so h hne hl r =>
        obtain ⟨v, hlv, rv⟩ := field_rep r hq
        exact ⟨.ref ad, RS.x (i, ad) (by simp), rfl, rfl, _, _, v, rfl, h, hlv, q.here RS.m rv⟩
  · rw [if_neg hx] at q; exact q.elim

/-! ### try: body, except C: suite -/
def sTry0 (ct : Nat → Option Bool) (body : SM) (suite : SM) : SM := fun e M => match body e M with
  | .ex c ns ds e1 M1 => match ct c with
    | some true => match suite e1 M1 with
      | .ex _ _ _ _ _ => .bad
      | r => r
    | some false => .ex c ns ds e1 M1
    | none => .bad
  | r => r
/-! ### defs called where an exception is handled -/
variable {k n : Nat} {f : Addr} {fd : FuncData} {ps : List Str} {m : List D → MH → Res D} {x : Str}
theorem hot_suite {ad : Addr} {oe : Obj} {pn : List (Addr × Obj)} {cls : Value} {d : Option Addr} (hz : L2N.Zn cls d oe) (hf : ∃ vs, oe.data = .fields vs) : L2H.HotC (X.suite ad ((ad, oe) :: pn)) := by
  obtain ⟨vs, hv⟩ := hf
  exact ⟨(ad, oe), ⟨rfl, vs, hv, hz.2.2 vs hv⟩, List.mem_cons_self⟩
theorem room_suite {ad : Addr} {pn : List (Addr × Obj)} (hr : Room k X.A) : L2H.RoomH k (X.suite ad pn).A := L2H.roomH_mark hr _
theorem de_callH (G : L2H.FnH X.prog X.w X.K X.mg X.base (L2N.CX X.prog X.w) k f fd ps (spD g n m)) (hr : L2H.RoomH k X.A) (hc : L2H.HotC X) (tk : L2N.Takes X W.w) (hm : X.mg x = some (.ref f)) (hk : PySem.W.keepIn X.K (.ref f) = true) (hb : Binds X.K fd ps []) (ha : PA X (a :: es) (tA g W ma)) (hg : Gl X x := by rfl)
    (hdb : (x == ("__debug__" : Str)) = false := by decide) (he : starEach (a :: es) X.env = (false, eval a X.env) :: starEach es X.env := by rfl) (hpl : (backTo pos (starEach es X.env)).any (·.1) = false := by rfl) : PE X (.Call (.Name x p) (a :: es) [] pos) (tD g W (eCall n m ma)) :=
  pe_imp (L2H.pe_callH G hr hc hg hm hk hb (fun σ => L2N.passAt tk σ) ha hdb he hpl) fun σ H Q q => call_imp q
theorem ds_forH {tgE iter : Expr} {sts : List Stmt} {wi : TI} {it : Env2 → MH → Res IV} {gt : TG} {tg : TgM} (px : ∀ σ, Pin W.p.xs σ) (po : PassesOwn (model X.prog X.w) X.A X.env X.xe) (hc : L2H.HotC X) (hi : L2H.PIH X tgE iter wi) (hsim : ItSim g W it wi) (hg : PG X tgE gt) (ts : TgSim g tg gt) (hb : PSs X sts (tS g W s1))
    (hs : ∀ x, foldedSetIterable iter X.env x = pure x := by intro _; rfl) : PS X (.For tgE iter sts [] pos) (tS g W (sForI it tg s1)) :=
  ps_imp (L2H.ps_forH po hc hi hg hb hs) fun E σ H ⟨F, e, M, RS, q⟩ => hsim σ H F e M _ RS (by
    unfold sForI at q
    cases hm : it e M with
    | ok iv M1 =>
      rw [hm] at q
      cases iv with
      | vals ds => exact fun F1 H1 J g1 R1 itv => forV_run px (RS.up g1 R1) itv ts (q.up g1)
      | live n =>
        dsimp only at q
        split at q
        · rename_i ds hd
          exact ⟨ds, hd, fun F1 H1 ad g1 R1 hn => forL_run px (RS.up g1 R1) hn ts (q.up g1)⟩
        · exact q.elim
    | exc c ns ds M1 => rw [hm] at q; exact fun F1 H1 d g1 R1 x => q F1 H1 σ d g1 R1 (RS.up g1 R1).e x
    | bad => rw [hm] at q; exact q)
end
theorem fn_badH {P : Program} {w : World} {K : PySem.W.Frag} {mg : Str → Option Value} {base : Heap} {CX : CXT} {k n : Nat} {f : Addr} {fd : FuncData} {ps : List Str} {g : Wd} (h : ps.length = n) : L2H.FnH P w K mg base CX k f fd ps (spD g n fun _ _ => .bad) :=
  ⟨fun vs H Q E q => by rw [q.1, h], fun A outer s H args us vs Q E p _ _ _ _ _ _ hs => by obtain ⟨_, _, _, _, _, _, q⟩ := hs; exact q.elim⟩
theorem fn_okH {P : Program} {w : World} {K : PySem.W.Frag} {mg : Str → Option Value} {base : Heap} {g : Wd} {x qual : Str} {st : Stmt} {f : Addr} {fd : FuncData} {N ps : List Str} {k : Nat} {b : SM} (F : Fun K x qual st f fd) (S : FnScope N ps (defScope st))
    (hbody : ∀ (cdv : Value) (A : Around) (outer : List Env) (s : Shared) (H : Hp) (E : XK) (p : Addr × Obj), L2H.RoomH k (A.deeper (PyProof.Rows.envOfC qual (defScope st) s.heap.objs.size f cdv)) →
      L2H.HotC (L2H.cxH (L2N.CX P w) P w K mg base N qual (defScope st) f cdv A outer s H E p) →
      L2N.Takes (L2H.cxH (L2N.CX P w) P w K mg base N qual (defScope st) f cdv A outer s H E p) (WY.mk (fun c d _ H => E c d H) ⟨[], []⟩).w →
      PassesOwn (model P w) (L2H.cxH (L2N.CX P w) P w K mg base N qual (defScope st) f cdv A outer s H E p).A (L2H.cxH (L2N.CX P w) P w K mg base N qual (defScope st) f cdv A outer s H E p).env (L2H.cxH (L2N.CX P w) P w K mg base N qual (defScope st) f cdv A outer s H E p).xe →
      PSs (L2H.cxH (L2N.CX P w) P w K mg base N qual (defScope st) f cdv A outer s H E p) (defBody st) (tS g ⟨fun c d _ H => E c d H, ⟨[], []⟩⟩ b)) : L2H.FnH P w K mg base (L2N.CX P w) (k + 1) f fd ps (spD g ps.length (fnB N.length b)) := by
  obtain ⟨oc, od, kV, doc, pm, an, cdv, ct, osl, rfl, lk, hcd⟩ := F.ex
  refine L2H.fn_ofH lk hcd S (fun vs H Q E h => h.1) fun A outer s H vs Q E p hot hr h => ⟨_, hbody cdv A outer s H E p hr ⟨p, hot, List.mem_singleton.mpr rfl⟩ (L2N.takes_of rfl rfl rfl rfl) (passes_of (X := L2H.cxH (L2N.CX P w) P w K mg base N qual (defScope st) f cdv A outer s H E p) rfl), body_run h⟩
theorem takesN0 {X : Cx} : L2N.Takes X (fun _ _ _ _ => False) := fun _ _ x => by
  obtain ⟨_, _, _, _, _, _, _, _, _, _, _, _, _, _, _, _, z⟩ := x
  exact z.elim
theorem unitsH {A : Around} {k : Nat} (hr : L2H.RoomH k A) : A.units + 64 < cLine := by have := hr.un; omega
theorem hu_ofH {A : Around} {k : Nat} (hr : L2H.RoomH k A) : A.units + 1 < cLine := by have := hr.un; omega
/-- an item of a list of values -/
def dAt (ds : List D) (i : Nat) : D := ds.getD i .non
end T2
namespace T2
open PySem L2 PyProof.Rows

/-- an own exception's __init__ in the text -/
structure OIn (P : Program) (K : PySem.W.Frag) (mg : Str → Option Value) (C : Addr) (nm qual : Str) (st : Stmt) (f : Addr) (fd : FuncData) : Prop where
  ex : ∃ cc cda oc od osl kV doc pm an ct, fd = PySem.W.ksFn nm qual (defArgs st) (defBody st) (defScope st) .none kV doc pm an (.ref cda) ct cc ∧ K.lookup f = some ⟨oc, od, .func fd, osl⟩ ∧ PySem.W.codeIn K (.ref cda) qual = true ∧ SupIn P K mg C f cc cda fd
theorem initX_ok {P : Program} {w : World} {K : PySem.W.Frag} {mg : Str → Option Value} {base : Heap} {g : Wd} {c n k : Nat} {f : Addr} {fd : FuncData} {nm qual : Str} {st : Stmt} {ps' ns : List Str}
    {txt : Str} {j : Nat} {p0 p1 p2 p3 p4 p5 : Pos} {rest : List Stmt} {l : List (Str × EM)} {acc : List D → List (Str × D)} {fm : List D → List D} {pl : Addr → Addr → Addr → Addr → Sem Bool}
    (O : OIn P K mg (g.ca c) nm qual st f fd) (S : ScopeS ("self" :: ps') ("self" :: ps') (defScope st)) (T : OexC K (g.ca c)) (hb : defBody st = supSt txt j p0 p1 p2 p3 p4 p5 :: rest) (hn : ps'.length = n)
    (he : ∀ L f cda cc, eval (.Call (.Attribute (.Call (.Name "super" p0) [] [] p1) "__init__" p2) [.Constant (.str txt) j p3] [] p4) (PySem.W.ksEnv qual (defScope st) L f (.ref cda) cc) = (do
      let ov ← attributeBase (.Call (.Name "super" p0) [] [] p1) "__init__" (PySem.W.ksEnv qual (defScope st) L f (.ref cda) cc) (eval (.Call (.Name "super" p0) [] [] p1) (PySem.W.ksEnv qual (defScope st) L f (.ref cda) cc))
      standAt p2.atName
      let (f', first) ← holding [ov] (getMethod ov "__init__" (pl L f cda cc))
      callWith p4 f' first (backTo p4 (starEach [.Constant (.str txt) j p3] (PySem.W.ksEnv qual (defScope st) L f (.ref cda) cc))) []))
    (hi : ∀ L f cda cc, interactive (PySem.W.ksEnv qual (defScope st) L f (.ref cda) cc) = false)
    (hst : ∀ cda cc A outer s H E, Sto (cxS (L2N.CX P w) P w K mg base ("self" :: ps') qual (defScope st) f (.ref cda) cc A outer s H E) g (g.ca c) rest l)
    (hev : ∀ a ds M, ds.length = n → evs (some (.obj a) :: ds.map some) M l (acc ds)) (hns : ∀ ds, ((acc ds).map (·.1)).reverse = ns) (hfm : ∀ ds, ((acc ds).map (·.2)).reverse = fm ds) (hnn : ns ≠ []) (hll : l.length ≤ 100) :
    FnOk P w K mg base (L2N.CX P w) (k + 1) f fd ("self" :: ps') (spX g c n ns fm) := by
  obtain ⟨cc, cda, oc, od, osl, kV, doc, pm, an, ct, rfl, lk, hcd, U⟩ := O.ex
  rw [hb] at lk U ⊢
  have := fnX_ok (w := w) (base := base) (k := k) (pl := fun L => pl L f cda cc) lk hcd S T U hn (fun L => he L f cda cc) (fun L => hi L f cda cc) (fun A outer s H E => hst cda cc A outer s H E) hev hns hnn hll
  rwa [show (fun ds => ((acc ds).map (·.2)).reverse) = fm from funext hfm] at this
end T2
namespace T2
open PySem L2 PyProof.Rows

/-! ### list + list -/
def rCatLS (K : PySem.W.Frag) : R2 := fun x y H Q => ∃ l b xs zs, x = .ref l ∧ y = .ref b ∧ SqL K H l xs ∧ SqL K H b zs ∧ xs.length + zs.length ≤ sizeLine ∧ ∀ p, H p = none → Q (.ref p) (upd H p (.lst (xs ++ zs)))
theorem op_catLS {X : Cx} : OpR X (binaryOp .Add) (rCatLS X.K) := by
  intro pins s σ H x y v u Q I rx ry h
  obtain ⟨l, b, xs, zs, rfl, rfl, ha, hb, hz, q⟩ := h
  cases rx; cases ry
  obtain ⟨its, r, ⟨⟨oc, od, oda, osl⟩, n, e, hc, hd, ho⟩, _⟩ := I.list ha
  obtain ⟨its2, r2, ⟨⟨oc2, od2, oda2, osl2⟩, n2, e2, hc2, hd2, ho2⟩, _⟩ := I.list hb
  dsimp only at hc hd ho hc2 hd2 ho2
  subst hc hd ho hc2 hd2 ho2
  have hl1 := r.length
  have hl2 := r2.length
  have sz : its.toArray.size + its2.toArray.size ≤ sizeLine := by rw [List.size_toArray, List.size_toArray]; omega
  refine PySem.concat_meets ⟨_, e, rfl⟩ ⟨_, e2, rfl⟩ PySem.noFill_list_add PySem.seq_list_add F.slot_list_add F.entry_list_add (F.args_list_add_2 _ _) (PyProof.Rows.list_addW l b its.toArray its2.toArray n n2 none none osl osl2 sz) ⟨e, e2, ?_⟩
  have ea : its.toArray ++ its2.toArray = (its ++ its2).toArray := by simp
  rw [ea]
  exact ⟨.ref _, _, I.lnew (t' := s.toks) (r.append r2) (by rw [List.length_append]; omega), rfl, q _ I.fresh⟩
def dCat (mk : List D → MH → Res D) (x y : D) (M : MH) : Res D := match listItems M x, listItems M y with
  | some xs, some ys => if xs.length + ys.length ≤ big then mk (xs ++ ys) M else .bad
  | _, _ => .bad
section
variable {X : Cx} {g : Wd} {W : WY} {a b : Expr} {pos : Pos} {m1 m2 : EM}
theorem listItems_at {F : List Addr} {M : MH} {H : Hp} {x : D} {v : V} {ds : List D} (R : RelM g F M H) (r : Rep g F H x v) (h : listItems M x = some ds) : ∃ a vs, v = .ref a ∧ SqL g.K H a vs ∧ Reps g F H ds vs := by
  cases r with
  | fro hf r => cases h; exact ⟨_, _, rfl, hf.sq, r⟩
  | @ref n ad hn =>
    unfold listItems at h
    dsimp only at h
    split at h
    · rename_i ys hm
      cases h
      obtain ⟨o, e, ro⟩ := R.obj n ad _ hn hm
      cases ro with | lst r => exact ⟨_, _, rfl, SqL.of e, r⟩
    · cases h
  | _ => cases h
theorem sim_cat (hK : g.K = X.K) {mk : List D → MH → Res D} (hmk : MkOk g mk) : Sim2 g (dCat mk) (rCatLS X.K) := fun F M σ H W x y v w Q R rx ry q => by
  unfold dCat at q
  split at q
  · rename_i xs ys h1 h2
    obtain ⟨a1, v1, rfl, s1, r1⟩ := listItems_at R rx h1
    obtain ⟨a2, v2, rfl, s2, r2⟩ := listItems_at R ry h2
    split at q
    · rename_i hl
      exact ⟨a1, a2, v1, v2, rfl, rfl, by rw [← hK]; exact s1, by rw [← hK]; exact s2, by rw [← r1.length, ← r2.length]; exact bigLine hl, fun p hp => hmk W F M H σ Q _ _ p R (r1.append r2) q hp⟩
    · exact q.elim
  · exact q.elim
theorem de_cat (hK : g.K = X.K) {mk : List D → MH → Res D} (hmk : MkOk g mk) (ha : PE X a (tD g W m1)) (hb : PE X b (tD g W m2)) : PE X (.BinOp a .Add b pos) (tD g W (eBin (dCat mk) m1 m2)) := de_op op_catLS (sim_cat hK hmk) ha hb
end
end T2
namespace T2
open PySem L2 PyProof.Rows

/-! ### def f(a, .., *v) -/
def packR (n : Nat) (ds : List D) : List D := ds.take n ++ [.tup (ds.drop n)]
/-- *e in an argument list -/
def eStar (a : EM) (b : AM) : AM := fun e M => (a e M).bind fun x M1 => match items M1 x with
  | some ds => (b e M1).bind fun xs M2 => .ok (ds ++ xs) M2
  | none => .bad
def fCallR (n : Nat) (f : List D → MH → Res D) (ds : List D) (M : MH) : Res D := if n ≤ ds.length ∧ ds.length ≤ 1000 then f (packR n ds) M else .bad
def eCallR (n : Nat) (f : List D → MH → Res D) (a : AM) : EM := eArgs (fCallR n f) a
section
variable {X : Cx} {g : Wd} {W : WY} {a e : Expr} {es : List Expr} {pos p ps0 : Pos} {m1 : EM} {ma : AM} {k n : Nat} {f : Addr} {m : List D → MH → Res D} {x : Str}
end

/-! ### C(k = v, ..): an instance that may change, its __init__ with keyword-only parameters -/
def eMakeK (c n kk : Nat) (gD : List D → List D → List D) (f : List D → MH → Res D) (mk : AM) : EM := fun e M => (mk e M).bind fun zs M1 => if zs.length = kk then (f (gD [.ref M1.length] zs) (M1 ++ [.ob c [] []])).bind fun r M2 => match r with
  | .non => .ok (.ref M1.length) M2
  | _ => .bad else .bad
section
variable {X : Cx} {g : Wd} {W : WY} {pos p : Pos} {mk : AM} {kws : List Keyword} {k n N : Nat} {f : Addr} {fd : FuncData} {ps ks : List Str} {m : List D → MH → Res D} {x : Str} {c : Nat}
end
end T2
namespace T2
open PySem L2 PyProof.Rows

/-! ### targets that are tuples of names -/
def setAll (e : Env2) : List Nat → List D → Env2
  | i :: is, d :: ds => setAll (e.set i (some d)) is ds
  | _, _ => e
def tgTup (is : List Nat) : TgM := fun d e => match d with
  | .tup ds => if ds.length = is.length then some (setAll e is ds) else none
  | _ => none
/-! ### zip of two tuples -/
def zipD (xs ys : List D) : List D := List.zipWith (fun x y => .tup [x, y]) xs ys
def fZip (x y : D) (M : MH) : Res IV := match x, y with
  | .tup xs, .tup ys => .ok (.vals (zipD xs ys)) M
  | .fro xs, .fro ys => .ok (.vals (zipD xs ys)) M
  | _, _ => .bad
def iZip2 (a b : EM) : Env2 → MH → Res IV := fun e M => (a e M).bind fun x M1 => (b e M1).bind fun y M2 => fZip x y M2
section
variable {g : Wd}
end

/-! ### all, any of a list of bools -/
def blsOf : List D → Option (List Bool)
  | [] => some []
  | .bl b :: ds => (blsOf ds).map (b :: ·)
  | _ => none
def rAllB (K : PySem.W.Frag) (f : List Bool → Bool) : List V → Hp → VK → Prop := fun xs H Q => ∃ a bs, xs = [.ref a] ∧ SqL K H a (bs.map V.bl) ∧ Q (.bl (f bs)) H
theorem dp_bls {K : PySem.W.Frag} {H : Hp} : ∀ bs : List Bool, DpAll K H (bs.map V.bl) (bs.map PyData.bool)
  | [] => .nil
  | b :: bs => .cons (.bl b) (dp_bls bs)
theorem bls_plain : ∀ bs : List Bool, PyData.plainAll (bs.map PyData.bool) = true
  | [] => rfl
  | b :: bs => by simp only [List.map_cons, PyData.plainAll, PyData.plain, bls_plain bs, Bool.and_self]
theorem call_allB {X : Cx} (hc : X.calm = true) : CallR X (.builtin "all") (rAllB X.K fun bs => bs.all id) := by
  intro pins s σ H xs us Q I r h
  obtain ⟨a, bs, rfl, hs, q⟩ := h
  cases r with | cons rx rr =>
  cases rr; cases rx
  obtain ⟨its, rv, pl, hz⟩ := I.list hs
  obtain ⟨as, hr⟩ := Dp.readsAll I _ _ its (dp_bls bs) rv
  refine PySem.W.all_list_data (I.ok.hd hc) pl.isList (by simpa using hr) (bls_plain bs) (fun x hx => ?_) fun h' tk hk => ⟨.bl _, H, I.kept (t' := tk) hk, ?_, q⟩
  · obtain ⟨b, _, rfl⟩ := List.mem_map.mp hx
    trivial
  · show Value.bool _ = Value.bool _
    rw [List.all_map]
    congr 1
def dAllB (f : List Bool → Bool) (ds : List D) (M : MH) : Res D := match ds with
  | [x] => match listItems M x with
    | some ys => match blsOf ys with
      | some bs => .ok (.bl (f bs)) M
      | none => .bad
    | none => .bad
  | _ => .bad
theorem bls_rep {g : Wd} {F : List Addr} {H : Hp} : ∀ {ds : List D} {vs : List V} {bs : List Bool}, Reps g F H ds vs → blsOf ds = some bs → vs = bs.map V.bl
  | _, _, bs, .nil, h => by cases h; rfl
  | _, _, bs, .cons r t, h => by
    cases r with
    | bl b =>
      unfold blsOf at h
      obtain ⟨cs, h1, rfl⟩ := Option.map_eq_some_iff.mp h
      rw [bls_rep t h1]; rfl
    | _ => cases h
theorem sim_allB {g : Wd} {X : Cx} {f : List Bool → Bool} (hK : g.K = X.K) : SimA g (dAllB f) (rAllB X.K f) := fun F M σ H W ds vs Q R r q => by
  unfold dAllB at q
  split at q
  · rename_i x
    cases r with | cons rx rr =>
    cases rr
    split at q
    · rename_i ys hy
      split at q
      · rename_i bs hb
        obtain ⟨a, us, rfl, hs, rs⟩ := listItems_at R rx hy
        have := bls_rep rs hb
        subst this
        exact ⟨a, bs, rfl, by rw [← hK]; exact hs, q.here R (.bl _)⟩
      · exact q.elim
    · exact q.elim
  · exact q.elim

/-! ### x in a list or tuple of data of any depth -/
section
variable {X : Cx} {g : Wd} {W : WY} {a b : Expr} {pos p : Pos} {m1 m2 : EM} {ma : AM} {es : List Expr}
theorem de_all (hK : g.K = X.K) (ha : PA X (a :: es) (tA g W ma)) (hm : X.mg "all" = none) (hc : X.calm = true := by rfl) (hg : Gl X "all" := by rfl) (he : starEach (a :: es) X.env = (false, eval a X.env) :: starEach es X.env := by rfl) (hpl : (backTo pos (starEach es X.env)).any (·.1) = false := by rfl) :
    PE X (.Call (.Name "all" p) (a :: es) [] pos) (tD g W (eArgs (dAllB fun bs => bs.all id) ma)) := de_callB (call_allB hc) (sim_allB hK) hm (by decide +kernel) ha hg (by decide) (by decide) he hpl
end
end T2
namespace T2
open PySem L2 PyProof.Rows

/-! ### l.pop(i), l[::-1], a, b = e -/
def ePopAt (mo ma : EM) : EM := fun e M => (mo e M).bind fun x M1 => match x with
  | .ref n => match M1[n]? with
    | some (.lst _) => (ma e M1).bind fun y M2 => match M2[n]?, y with
      | some (.lst ds), .int i => if 0 ≤ i ∧ i < ds.length then (match ds[i.toNat]? with
        | some d => if ds.length ≤ 1000 then .ok d (M2.set n (.lst (ds.eraseIdx i.toNat))) else .bad
        | none => .bad) else .bad
      | _, _ => .bad
    | _ => .bad
  | _ => .bad
def fRev (mk : List D → MH → Res D) (x : D) (M : MH) : Res D := match listItems M x with
  | some ds => mk ds.reverse M
  | none => .bad
theorem Reps.reverse {g : Wd} {F : List Addr} {H : Hp} : ∀ {ds : List D} {vs : List V}, Reps g F H ds vs → Reps g F H ds.reverse vs.reverse
  | _, _, .nil => .nil
  | _, _, .cons h t => by rw [List.reverse_cons, List.reverse_cons]; exact (Reps.reverse t).append (.cons h .nil)
def sUnp (is : List Nat) (m : EM) : SM := fun e M => (m e M).toS e fun d M1 => match tgTup is d e with
  | some e1 => .nx e1 M1
  | none => .bad
section
variable {X : Cx} {g : Wd} {W : WY} {a b o : Expr} {pos p apos : Pos} {m1 m2 m3 : EM} {ma : AM} {es : List Expr}
/-! ### dicts with int and text keys: d[k] = v, d.get, d.pop -/
/-- d.get(k), d.get(k, x): of the dict at n -/
def eDGet1 (mo mk : EM) : EM := fun e M => (mo e M).bind fun x M1 => match x with
  | .ref n => match M1[n]? with
    | some (.dk _ _) => (mk e M1).bind fun y M2 => match M2[n]?, keyOf y with
      | some (.dk ks ds), some k => .ok ((kGet ks ds k).getD .non) M2
      | _, _ => .bad
    | _ => .bad
  | _ => .bad
def eDGet2 (mo mk mx : EM) : EM := fun e M => (mo e M).bind fun x M1 => match x with
  | .ref n => match M1[n]? with
    | some (.dk _ _) => (mk e M1).bind fun y M2 => (mx e M2).bind fun z M3 => match M3[n]?, keyOf y with
      | some (.dk ks ds), some k => .ok ((kGet ks ds k).getD z) M3
      | _, _ => .bad
    | _ => .bad
  | _ => .bad
/-- d.pop(k, x) -/
def kDrop {κ A : Type} [DecidableEq κ] (x : κ) (ks : List κ) (ds : List A) : List (κ × A) := (ks.zip ds).filter fun p => decide (p.1 ≠ x)
def eDPop2 (mo mk mx : EM) : EM := fun e M => (mo e M).bind fun x M1 => match x with
  | .ref n => match M1[n]? with
    | some (.dk _ _) => (mk e M1).bind fun y M2 => (mx e M2).bind fun z M3 => match M3[n]?, keyOf y with
      | some (.dk ks ds), some k => (match kGet ks ds k with
        | some d => .ok d (M3.set n (.dk ((kDrop k ks ds).map (·.1)) ((kDrop k ks ds).map (·.2))))
        | none => .ok z M3)
      | _, _ => .bad
    | _ => .bad
  | _ => .bad
end

/-! ### for c in a text -/
def signsOf (z : Str) : List D := z.cps.toList.map fun c => .str ⟨#[c]⟩
def fStrI (d : D) (M : MH) : Res IV := match d with
  | .str z => .ok (.vals (signsOf z)) M
  | _ => .bad
def iStrD (m : EM) : Env2 → MH → Res IV := fun e M => (m e M).bind fStrI
theorem signs_len (z : Str) : (signsOf z).length = z.cps.size := by unfold signsOf; simp
theorem itV_str {g : Wd} {F : List Addr} {H : Hp} (z : Str) : ItV g (Its z) F H (signsOf z) where
  go := fun F' H' i gr hi => by rw [signs_len] at hi; exact hi
  yld := fun F' H' i x H2 gr hi hy => by
    obtain ⟨rfl, c, hc, rfl⟩ := hy
    refine ⟨fun _ _ q => q, .str ⟨#[c]⟩, ?_, .str _⟩
    unfold signsOf
    rw [List.getElem?_map, Array.getElem?_toList, hc]
    rfl
  stop := fun F' H' i gr hi => by rw [signs_len] at hi; exact hi
theorem itSim_str {g : Wd} {W : WY} {m1 : EM} : ItSim g W (iStrD m1) (iStr (tD g W m1)) := fun σ H F e M R RS q => by
  refine ⟨F, e, M, RS, ?_⟩
  unfold iStrD at q
  cases h1 : m1 e M with
  | bad => rw [h1] at q; exact q
  | exc c ns ds M' => rw [h1] at q; exact q
  | ok x M1 =>
    rw [h1] at q
    intro F1 H1 v g1 R1 rx
    cases rx with
    | str z => exact ⟨z, rfl, q F1 H1 _ g1 R1 (itV_str z)⟩
    | _ => exact q.elim
end T2
namespace T2
open PySem L2

/-! ### evaluation by rewriting: each construct's parts first, then the rest -/
section
variable {A B : Type} {e e1 : Env2} {M M1 : MH} {d x y : D} {c : Nat} {ns : List Str} {ds xs : List D} {k : Bool}
def qSeq (r : SR) (b : SM) : SR := match r with
  | .nx e1 M1 => b e1 M1
  | r => r
theorem z_seq {a b : SM} : sSeq a b e M = qSeq (a e M) b := rfl
theorem z_seq_nx {b : SM} : qSeq (.nx e1 M1) b = b e1 M1 := rfl
theorem z_seq_rt {b : SM} : qSeq (.rt d M1) b = .rt d M1 := rfl
theorem z_seq_ex {b : SM} : qSeq (.ex c ns ds e1 M1) b = .ex c ns ds e1 M1 := rfl
theorem z_seq_bk {b : SM} : qSeq (.bk e1 M1) b = .bk e1 M1 := rfl
theorem z_seq_ct {b : SM} : qSeq (.ct e1 M1) b = .ct e1 M1 := rfl
def qIf (r : Res Bool) (e : Env2) (a b : SM) : SR := r.toSB e fun k M1 => if k = true then a e M1 else b e M1
theorem z_if {c : BM} {a b : SM} : sIf c a b e M = qIf (c e M) e a b := rfl
theorem z_if_t {a b : SM} : qIf (.ok true M1) e a b = a e M1 := rfl
theorem z_if_f {a b : SM} : qIf (.ok false M1) e a b = b e M1 := rfl
theorem z_if_x {a b : SM} : qIf (.exc c ns ds M1) e a b = .ex c ns ds e M1 := rfl
def qSet (i : Nat) (e : Env2) (r : Res D) : SR := r.toS e fun d M1 => .nx (e.set i (some d)) M1
theorem z_set {i : Nat} {m : EM} : sSet i m e M = qSet i e (m e M) := rfl
theorem z_set_ok {i : Nat} : qSet i e (.ok d M1) = .nx (e.set i (some d)) M1 := rfl
theorem z_set_x {i : Nat} : qSet i e (.exc c ns ds M1) = .ex c ns ds e M1 := rfl
def qRet (e : Env2) (r : Res D) : SR := r.toS e fun d M1 => .rt d M1
theorem z_ret {m : EM} : sRet m e M = qRet e (m e M) := rfl
theorem z_ret_ok : qRet e (.ok d M1) = .rt d M1 := rfl
theorem z_ret_x : qRet e (.exc c ns ds M1) = .ex c ns ds e M1 := rfl
theorem z_retN : sRetN e M = .rt .non M := rfl
def qDo (e : Env2) (r : Res D) : SR := r.toS e fun _ M1 => .nx e M1
theorem z_do {m : EM} : sDo m e M = qDo e (m e M) := rfl
theorem z_do_ok : qDo e (.ok d M1) = .nx e M1 := rfl
theorem z_do_x : qDo e (.exc c ns ds M1) = .ex c ns ds e M1 := rfl
theorem z_nil : sNil e M = .nx e M := rfl
theorem z_raise0 {c : Nat} : sRaise0 c e M = .ex c [] [] e M := rfl
def qRaise (c n : Nat) (ns : List Str) (f : List D → List D) (e : Env2) (r : Res (List D)) : SR := match r with
  | .ok ds M1 => if ds.length = n then .ex c ns (f ds) e M1 else .bad
  | .exc c ns ds M1 => .ex c ns ds e M1
  | .bad => .bad
theorem z_raise {n : Nat} {f : List D → List D} {ma : AM} : sRaiseX c n ns f ma e M = qRaise c n ns f e (ma e M) := by unfold sRaiseX qRaise; cases ma e M <;> rfl
theorem z_raise_ok {n : Nat} {f : List D → List D} (h : ds.length = n) : qRaise c n ns f e (.ok ds M1) = .ex c ns (f ds) e M1 := if_pos h
theorem z_toR_rt : toR (.rt d M) = .ok d M := rfl
theorem z_toR_nx : toR (.nx e M) = .ok .non M := rfl
theorem z_toR_ex : toR (.ex c ns ds e M) = .exc c ns ds M := rfl
theorem z_fn {n : Nat} {b : SM} : fnB n b ds M = toR (b (env0 n ds) M) := rfl

/-! expressions -/
theorem z_c : eC d e M = .ok d M := rfl
def qVar (o : Option (Option D)) (M : MH) : Res D := match o with
  | some (some d) => .ok d M
  | _ => .bad
theorem z_var {n : Nat} : eVar n e M = qVar e[n]? M := rfl
theorem z_var_ok : qVar (some (some d)) M = .ok d M := rfl
def qUn (f : D → MH → Res D) (r : Res D) : Res D := r.bind f
theorem z_un {f : D → MH → Res D} {a : EM} : eUn f a e M = qUn f (a e M) := rfl
theorem z_un_ok {f : D → MH → Res D} : qUn f (.ok x M1) = f x M1 := rfl
theorem z_un_x {f : D → MH → Res D} : qUn f (.exc c ns ds M1) = .exc c ns ds M1 := rfl
def qBin (f : D → D → MH → Res D) (r : Res D) (b : EM) (e : Env2) : Res D := r.bind fun x M1 => (b e M1).bind fun y M2 => f x y M2
theorem z_bin {f : D → D → MH → Res D} {a b : EM} : eBin f a b e M = qBin f (a e M) b e := rfl
theorem z_bin_ok {f : D → D → MH → Res D} {b : EM} : qBin f (.ok x M1) b e = qUn (f x) (b e M1) := rfl
theorem z_bin_x {f : D → D → MH → Res D} {b : EM} : qBin f (.exc c ns ds M1) b e = .exc c ns ds M1 := rfl
theorem z_anil : eNil e M = .ok [] M := rfl
def qC2 (x : D) (r : Res (List D)) : Res (List D) := r.bind fun xs M2 => .ok (x :: xs) M2
def qC1 (r : Res D) (b : AM) (e : Env2) : Res (List D) := r.bind fun x M1 => (b e M1).bind fun xs M2 => .ok (x :: xs) M2
theorem z_cons {a : EM} {b : AM} : eCons a b e M = qC1 (a e M) b e := rfl
theorem z_cons1 {b : AM} : qC1 (.ok x M1) b e = qC2 x (b e M1) := rfl
theorem z_cons1x {b : AM} : qC1 (.exc c ns ds M1) b e = .exc c ns ds M1 := rfl
theorem z_cons2 : qC2 x (.ok xs M1) = .ok (x :: xs) M1 := rfl
theorem z_cons2x : qC2 x (.exc c ns ds M1) = .exc c ns ds M1 := rfl
def qArgs (f : List D → MH → Res D) (r : Res (List D)) : Res D := r.bind f
theorem z_args {f : List D → MH → Res D} {a : AM} : eArgs f a e M = qArgs f (a e M) := rfl
theorem z_args_ok {f : List D → MH → Res D} : qArgs f (.ok xs M1) = f xs M1 := rfl
theorem z_args_x {f : List D → MH → Res D} : qArgs f (.exc c ns ds M1) = .exc c ns ds M1 := rfl
def fTup (ds : List D) (M : MH) : Res D := if ds.length ≤ 1000 then .ok (.tup ds) M else .bad
theorem z_tup {a : AM} : eTup a e M = qArgs fTup (a e M) := rfl
theorem z_tup_ok (h : xs.length ≤ 1000) : fTup xs M = .ok (.tup xs) M := if_pos h
def fFro (ds : List D) (M : MH) : Res D := if ds.length ≤ 1000 then .ok (.fro ds) M else .bad
theorem z_fro {a : AM} : eFro a e M = qArgs fFro (a e M) := rfl
theorem z_fro_ok (h : xs.length ≤ 1000) : fFro xs M = .ok (.fro xs) M := if_pos h
def fLst (ds : List D) (M : MH) : Res D := if ds.length ≤ 1000 then .ok (.ref M.length) (M ++ [.lst ds]) else .bad
theorem z_lst {a : AM} : eLst a e M = qArgs fLst (a e M) := rfl
theorem z_lst_ok (h : xs.length ≤ 1000) : fLst xs M = .ok (.ref M.length) (M ++ [.lst xs]) := if_pos h
def fCall (n : Nat) (f : List D → MH → Res D) (ds : List D) (M : MH) : Res D := if ds.length = n then f ds M else .bad
theorem z_call {n : Nat} {f : List D → MH → Res D} {a : AM} : eCall n f a e M = qArgs (fCall n f) (a e M) := rfl
theorem z_stat {c n : Nat} {f : List D → MH → Res D} {a : AM} : eStat c n f a e M = qArgs (fCall n f) (a e M) := rfl
theorem z_call_ok {n : Nat} {f : List D → MH → Res D} (h : xs.length = n) : fCall n f xs M = f xs M := if_pos h
def qK (n k : Nat) (gD : List D → List D → List D) (f : List D → MH → Res D) (ds : List D) (r : Res (List D)) : Res D := r.bind fun zs M2 => if ds.length = n ∧ zs.length = k then f (gD ds zs) M2 else .bad
def qK1 (n k : Nat) (gD : List D → List D → List D) (f : List D → MH → Res D) (r : Res (List D)) (mk : AM) (e : Env2) : Res D := r.bind fun ds M1 => (mk e M1).bind fun zs M2 => if ds.length = n ∧ zs.length = k then f (gD ds zs) M2 else .bad
theorem z_callk {n k : Nat} {gD : List D → List D → List D} {f : List D → MH → Res D} {ma mk : AM} : eCallK n k gD f ma mk e M = qK1 n k gD f (ma e M) mk e := rfl
theorem z_callk1 {n k : Nat} {gD : List D → List D → List D} {f : List D → MH → Res D} {mk : AM} : qK1 n k gD f (.ok xs M1) mk e = qK n k gD f xs (mk e M1) := rfl
theorem z_callk2 {n k : Nat} {gD : List D → List D → List D} {f : List D → MH → Res D} {zs : List D} (h1 : xs.length = n) (h2 : zs.length = k) : qK n k gD f xs (.ok zs M1) = f (gD xs zs) M1 := if_pos ⟨h1, h2⟩
def fMakeF (c : Nat) (fs : List Str) (ds : List D) (M : MH) : Res D := if ds.length = fs.length then .ok (.ins c fs ds) M else .bad
theorem z_mkF {c : Nat} {fs : List Str} {a : AM} : eMakeF c fs a e M = qArgs (fMakeF c fs) (a e M) := rfl
theorem z_mkF_ok {c : Nat} {fs : List Str} (h : xs.length = fs.length) : fMakeF c fs xs M = .ok (.ins c fs xs) M := if_pos h
def fOwn1 (c : Nat) (f : List D → MH → Res D) (x : D) (M1 : MH) : Res D := match instOf M1 x with
  | some (c1, _, _) => if c1 = c then f [x] M1 else .bad
  | none => .bad
theorem z_own1 {c : Nat} {f : List D → MH → Res D} {a : EM} : eOwn1 c f a e M = qUn (fOwn1 c f) (a e M) := rfl
theorem z_own1_ok {c : Nat} {f : List D → MH → Res D} : fOwn1 c f (.ins c ns ds) M = f [.ins c ns ds] M := if_pos rfl
theorem z_prop {c : Nat} {f : List D → MH → Res D} {a : EM} : eProp c f a e M = qUn (fOwn1 c fun ds M => okR (f ds M)) (a e M) := rfl
def fOwn2 (c : Nat) (f : List D → MH → Res D) (x y : D) (M2 : MH) : Res D := if both M2 c x y = true then f [x, y] M2 else .bad
theorem z_own2 {c : Nat} {f : List D → MH → Res D} {a b : EM} : eOwn2 c f a b e M = qBin (fOwn2 c f) (a e M) b e := rfl
theorem z_own2_ok {c : Nat} {f : List D → MH → Res D} {ns' : List Str} {ds' : List D} : fOwn2 c f (.ins c ns ds) (.ins c ns' ds') M = f [.ins c ns ds, .ins c ns' ds'] M := by
  unfold fOwn2; rw [if_pos]; unfold both instOf; simp

/-! tests -/
def qVal (r : Res D) : Res Bool := r.bind asB
theorem z_val {m : EM} : bVal m e M = qVal (m e M) := rfl
theorem z_val_ok : qVal (.ok (.bl k) M1) = .ok k M1 := rfl
theorem z_val_x : qVal (.exc c ns ds M1) = .exc c ns ds M1 := rfl
def qAnd (r : Res Bool) (b : BM) (e : Env2) : Res Bool := r.bind fun c M1 => if c = true then b e M1 else .ok false M1
theorem z_and {a b : BM} : bAnd a b e M = qAnd (a e M) b e := rfl
theorem z_and_t {b : BM} : qAnd (.ok true M1) b e = b e M1 := rfl
theorem z_and_f {b : BM} : qAnd (.ok false M1) b e = .ok false M1 := rfl
def qOr (r : Res Bool) (b : BM) (e : Env2) : Res Bool := r.bind fun c M1 => if c = true then .ok true M1 else b e M1
theorem z_or {a b : BM} : bOr a b e M = qOr (a e M) b e := rfl
theorem z_or_t {b : BM} : qOr (.ok true M1) b e = .ok true M1 := rfl
theorem z_or_f {b : BM} : qOr (.ok false M1) b e = b e M1 := rfl
def qNot (r : Res Bool) : Res Bool := r.bind fun c M1 => .ok (!c) M1
theorem z_not {a : BM} : bNot a e M = qNot (a e M) := rfl
theorem z_not_ok : qNot (.ok k M1) = .ok (!k) M1 := rfl
theorem z_yes : bYes e M = .ok true M := rfl
def qEAnd (r : Res D) (b : EM) (e : Env2) : Res D := match r with
  | .ok (.bl true) M1 => b e M1
  | .ok (.bl false) M1 => .ok (.bl false) M1
  | .ok _ _ => .bad
  | .exc c ns ds M1 => .exc c ns ds M1
  | .bad => .bad
theorem z_eand {a b : EM} : eAnd a b e M = qEAnd (a e M) b e := by
  show Res.bind _ _ = _
  cases a e M with
  | ok d M1 => cases d <;> first | rfl | (rename_i b; cases b <;> rfl)
  | _ => rfl
theorem z_eand_t {b : EM} : qEAnd (.ok (.bl true) M1) b e = b e M1 := rfl
theorem z_eand_f {b : EM} : qEAnd (.ok (.bl false) M1) b e = .ok (.bl false) M1 := rfl
def qEOr (r : Res D) (b : EM) (e : Env2) : Res D := match r with
  | .ok (.bl false) M1 => b e M1
  | .ok (.bl true) M1 => .ok (.bl true) M1
  | .ok _ _ => .bad
  | .exc c ns ds M1 => .exc c ns ds M1
  | .bad => .bad
theorem z_eor {a b : EM} : eOr a b e M = qEOr (a e M) b e := by
  show Res.bind _ _ = _
  cases a e M with
  | ok d M1 => cases d <;> first | rfl | (rename_i b; cases b <;> rfl)
  | _ => rfl
theorem z_eor_t {b : EM} : qEOr (.ok (.bl true) M1) b e = .ok (.bl true) M1 := rfl
theorem z_eor_f {b : EM} : qEOr (.ok (.bl false) M1) b e = b e M1 := rfl
def qENot (r : Res D) : Res D := match r with
  | .ok (.bl k) M1 => .ok (.bl (!k)) M1
  | .ok _ _ => .bad
  | .exc c ns ds M1 => .exc c ns ds M1
  | .bad => .bad
theorem z_enot {a : EM} : eNot a e M = qENot (a e M) := by
  show Res.bind _ _ = _
  cases a e M with
  | ok d M1 => cases d <;> rfl
  | _ => rfl
theorem z_enot_ok : qENot (.ok (.bl k) M1) = .ok (.bl (!k)) M1 := rfl
def qEIf (r : Res Bool) (a b : EM) (e : Env2) : Res D := r.bind fun k M1 => if k = true then a e M1 else b e M1
theorem z_eif {c : BM} {a b : EM} : eIf c a b e M = qEIf (c e M) a b e := rfl
theorem z_eif_t {a b : EM} : qEIf (.ok true M1) a b e = a e M1 := rfl
theorem z_eif_f {a b : EM} : qEIf (.ok false M1) a b e = b e M1 := rfl

/-! loops: what is walked first -/
def qIt (r : Res IV) (tg : TgM) (body : SM) (e : Env2) : SR := match r with
  | .ok (.vals ds) M1 => forV tg body ds e M1
  | .ok (.live n) M1 => match M1[n]? with
    | some (.lst ds) => forL tg body n ds.length 0 e M1
    | _ => .bad
  | .exc c ns ds M1 => .ex c ns ds e M1
  | .bad => .bad
theorem z_for {it : Env2 → MH → Res IV} {tg : TgM} {body : SM} : sForI it tg body e M = qIt (it e M) tg body e := by
  unfold sForI qIt
  cases it e M with
  | ok iv M1 => cases iv <;> rfl
  | _ => rfl
theorem z_for_v {tg : TgM} {body : SM} : qIt (.ok (.vals ds) M1) tg body e = forV tg body ds e M1 := rfl
def qSeqI (r : Res D) : Res IV := r.bind ivOf
theorem z_iseq {m : EM} : iSeq m e M = qSeqI (m e M) := rfl
theorem z_iseq_t : qSeqI (.ok (.tup ds) M1) = .ok (.vals ds) M1 := rfl
theorem z_iseq_f : qSeqI (.ok (.fro ds) M1) = .ok (.vals ds) M1 := rfl
theorem z_iseq_r {n : Nat} : qSeqI (.ok (.ref n) M1) = .ok (.live n) M1 := rfl
def fRng (d : D) (M1 : MH) : Res IV := match d with
  | .int j => if -(2 ^ 62) ≤ j ∧ j < 2 ^ 62 then .ok (.vals (rangeD 0 j.toNat)) M1 else .bad
  | _ => .bad
def qRng (r : Res D) : Res IV := r.bind fRng
theorem z_rng {a : EM} : iRange1 a e M = qRng (a e M) := rfl
theorem z_rng_ok {i : Int} (h0 : 0 ≤ i) (h : i < 1000000) : qRng (.ok (.int i) M1) = .ok (.vals (rangeD 0 i.toNat)) M1 := by
  unfold qRng fRng
  rw [Res.bind_ok]
  dsimp only
  rw [if_pos ⟨by omega, by omega⟩]
theorem z_env0 {n : Nat} {ds : List D} : env0 n ds = ds.map some ++ List.replicate (n - ds.length) none := rfl
/-! try -/
def qTry (i : Nat) (ct : Nat → Option Bool) (suite : Nat → List Str → List D → SM) (r : SR) : SR := match r with
  | .ex c ns ds e1 M1 => match ct c with
    | some true => if i < e1.length then unbind i (suite c ns ds (e1.set i none) M1) else .bad
    | some false => .ex c ns ds e1 M1
    | none => .bad
  | r => r
theorem z_try {i : Nat} {ct : Nat → Option Bool} {body : SM} {suite : Nat → List Str → List D → SM} {e : Env2} {M : MH} : sTry i ct body suite e M = qTry i ct suite (body e M) := rfl
theorem z_try_nx {i : Nat} {ct : Nat → Option Bool} {suite : Nat → List Str → List D → SM} {e : Env2} {M : MH} : qTry i ct suite (.nx e M) = .nx e M := rfl
theorem z_try_rt {i : Nat} {ct : Nat → Option Bool} {suite : Nat → List Str → List D → SM} {d : D} {M : MH} : qTry i ct suite (.rt d M) = .rt d M := rfl
def qTry0 (ct : Nat → Option Bool) (suite : SM) (r : SR) : SR := match r with
  | .ex c ns ds e1 M1 => match ct c with
    | some true => match suite e1 M1 with
      | .ex _ _ _ _ _ => .bad
      | r => r
    | some false => .ex c ns ds e1 M1
    | none => .bad
  | r => r
theorem z_try0 {ct : Nat → Option Bool} {body suite : SM} {e : Env2} {M : MH} : sTry0 ct body suite e M = qTry0 ct suite (body e M) := rfl
theorem z_try0_nx {ct : Nat → Option Bool} {suite : SM} {e : Env2} {M : MH} : qTry0 ct suite (.nx e M) = .nx e M := rfl
theorem z_try0_rt {ct : Nat → Option Bool} {suite : SM} {d : D} {M : MH} : qTry0 ct suite (.rt d M) = .rt d M := rfl
/-! loops that keep an invariant -/
theorem loop_inv {body : SM} {tg : TgM} {I : Nat → Env2 → MH → Prop} : ∀ (ps : List D) (k : Nat) (e : Env2) (M : MH), I k e M → (∀ j (hj : j < ps.length) e M, I (k + j) e M → ∃ e1 e2 M2, tg ps[j] e = some e1 ∧ body e1 M = .nx e2 M2 ∧ I (k + j + 1) e2 M2) → ∃ e' M', forV tg body ps e M = .nx e' M' ∧ I (k + ps.length) e' M'
  | [], k, e, M, h, _ => ⟨e, M, rfl, h⟩
  | p :: ps, k, e, M, h, hs => by
    obtain ⟨e1, e2, M2, ht, hb, hi⟩ := hs 0 (by simp) e M h
    obtain ⟨e', M', he, hI⟩ := loop_inv (body := body) (tg := tg) (I := I) ps (k + 1) e2 M2 hi fun j hj e M hh => by
      have := hs (j + 1) (by simp; omega) e M (by rw [show k + (j + 1) = k + 1 + j by omega]; exact hh)
      rw [show k + (j + 1) + 1 = k + 1 + j + 1 by omega] at this
      exact this
    refine ⟨e', M', ?_, by rw [List.length_cons, show k + (ps.length + 1) = k + 1 + ps.length by omega]; exact hI⟩
    unfold forV
    simp only [List.getElem_cons_zero] at ht
    rw [ht]
    simp only [hb]
    exact he
theorem z_for_l {tg : TgM} {body : SM} {e : Env2} {M : MH} {n : Nat} {ds : List D} (h : M[n]? = some (.lst ds)) : qIt (.ok (.live n) M) tg body e = forL tg body n ds.length 0 e M := by
  unfold qIt; dsimp only; rw [h]
theorem draw_at {R : MH} {s : Bx} {n : Int} (hs : BxOk s) (h1 : 0 < n) (h2 : n < 1073741824) : ∃ r s', drawM [.ref 0, .int n] (s.obj :: R) = .ok (.int r) (s'.obj :: R) ∧ 0 ≤ r ∧ r < n ∧ BxOk s' :=
  draw_spec (M := s.obj :: R) (b := 0) ⟨rfl, hs⟩ h1 h2
/-! a loop's turns one by one -/
def qFv (tg : TgM) (body : SM) (xs : List D) (r : SR) : SR := match r with
  | .nx e2 M2 => forV tg body xs e2 M2
  | .ct e2 M2 => forV tg body xs e2 M2
  | .bk e2 M2 => .nx e2 M2
  | .rt d M2 => .rt d M2
  | .ex c ns ds e2 M2 => .ex c ns ds e2 M2
  | .bad => .bad
theorem z_fv {i : Nat} {body : SM} {x : D} {xs : List D} {e : Env2} {M : MH} : forV (tgName i) body (x :: xs) e M = qFv (tgName i) body xs (body (e.set i (some x)) M) := by
  unfold forV tgName qFv
  dsimp only
  first
    | done
    | (cases body (e.set i (some x)) M <;> rfl)
theorem z_fv0 {tg : TgM} {body : SM} {e : Env2} {M : MH} : forV tg body [] e M = .nx e M := rfl
theorem z_fv_nx {tg : TgM} {body : SM} {xs : List D} {e : Env2} {M : MH} : qFv tg body xs (.nx e M) = forV tg body xs e M := rfl
theorem z_fv_ct {tg : TgM} {body : SM} {xs : List D} {e : Env2} {M : MH} : qFv tg body xs (.ct e M) = forV tg body xs e M := rfl
theorem z_fv_rt {tg : TgM} {body : SM} {xs : List D} {d : D} {M : MH} : qFv tg body xs (.rt d M) = .rt d M := rfl
/-! comprehensions -/
def qLc (tg : TgM) (tt : BM) (m : EM) (vs : List Nat) (e : Env2) (r : Res IV) : Res D := match r with
  | .ok (.vals ds) M1 => lcV tg tt m (wipe2 e vs) M1.length ds (M1 ++ [.lst []])
  | .ok (.live s) M1 => match M1[s]? with
    | some (.lst ds) => lcL tg tt m (wipe2 e vs) M1.length s ds.length 0 (M1 ++ [.lst []])
    | _ => .bad
  | .exc c ns ds M1 => .exc c ns ds M1
  | .bad => .bad
theorem z_lc {it : Env2 → MH → Res IV} {tg : TgM} {tt : BM} {m : EM} {vs : List Nat} {e : Env2} {M : MH} : eLc it tg tt m vs e M = qLc tg tt m vs e (it e M) := by
  unfold eLc qLc
  cases it e M with
  | ok iv M1 => cases iv <;> rfl
  | _ => rfl
theorem z_lc_v {tg : TgM} {tt : BM} {m : EM} {vs : List Nat} {e : Env2} {M : MH} {ds : List D} : qLc tg tt m vs e (.ok (.vals ds) M) = lcV tg tt m (wipe2 e vs) M.length ds (M ++ [.lst []]) := rfl
def qStep (r : Res D) : Res (Option D) := (noX r).bind fun y M2 => .ok (some y) M2
theorem z_step {i : Nat} {m : EM} {e : Env2} {x : D} {M : MH} : lcStep (tgName i) bYes m e x M = qStep (m (e.set i (some x)) M) := rfl
theorem z_step_ok {y : D} {M : MH} : qStep (.ok y M) = .ok (some y) M := rfl
/-! the box -/
def boxM : List D → MH → Res D := fnB 1 (sRet (eLst (eCons (eArgs dListF (eCons (eVar 0) (eNil))) (eCons (eC (.int 0)) (eCons (eC (.int 0)) (eCons (eC (.int 0)) (eCons (eC (.int 0)) (eNil))))))))
theorem box_run {ns : List Int} (hl : ns.length ≤ 63) : boxM [.fro (ns.map D.int)] [] = .ok (.ref 0) [(⟨ns, 0, 0, 0, 0⟩ : Bx).obj] := by
  have : (ns.map D.int).length ≤ 1000 := by rw [List.length_map]; omega
  unfold boxM
  rw [z_fn]
  have e1 : ∀ M, dListF [.fro (ns.map D.int)] M = .ok (.fro (ns.map D.int)) M := fun M => by unfold dListF items; rfl
  simp only [z_ret, z_lst, z_cons, z_args, z_var, z_env0, List.map_cons, List.map_nil, List.length_cons, List.length_nil, Nat.reduceAdd, Nat.reduceSub, List.replicate, List.append_nil, List.getElem?_cons_zero, z_var_ok, z_cons1, z_anil, z_cons2, z_args_ok, e1, z_c, z_ret_ok, z_toR_rt]
  rfl
/-! a list that is walked while nothing changes -/
theorem items_ref {M : MH} {l : D} {ds : List D} (h : listItems M l = some ds) : l = .fro ds ∨ ∃ n, l = .ref n ∧ M[n]? = some (.lst ds) := by
  unfold listItems at h
  split at h
  · cases h; exact .inl rfl
  · rename_i n
    split at h
    · rename_i ds' hm; cases h; exact .inr ⟨n, rfl, hm⟩
    · cases h
  · cases h
def qStrI (r : Res D) : Res IV := r.bind fStrI
theorem z_istr {m : EM} {e : Env2} {M : MH} : iStrD m e M = qStrI (m e M) := rfl
theorem z_istr_ok {z : Str} {M : MH} : qStrI (.ok (.str z) M) = .ok (.vals (signsOf z)) M := rfl
end
end T2
namespace T2
open PySem L2

/-! ### the laws' own comparison -/
def alikeL (self : List D → MH → Res D) : SM :=
    sIf (bNot (bVal (eCall 2 self (eCons (eBin dIxA (eVar 0) (eVar 2)) (eCons (eBin dIxA (eVar 1) (eVar 2)) (eNil))))))
    (sRet (eC (.bl false)))
    (sNil)
def alikeT (self : List D → MH → Res D) : SM :=
    sSeq (sForI (iRange1 (eArgs dLen (eCons (eVar 1) (eNil)))) (tgName 2) (alikeL self))
    (sRet (eC (.bl true)))
def alikeB (isi : Tg → Tg → Option Bool) (self : List D → MH → Res D) : SM :=
    sSeq (sIf (bVal (eBin dIs (eVar 1) (eC .non)))
    (sRet (eBin dIs (eVar 0) (eC .non)))
    (sNil))
    (sSeq (sIf (bOr (bVal (eBin dIs (eVar 1) (eC (.bl true)))) (bVal (eBin dIs (eVar 1) (eC (.bl false)))))
    (sRet (eAnd (eArgs (dIsi isi) (eCons (eVar 0) (eCons (eC (.ty "bool")) (eNil)))) (eBin dEq (eVar 0) (eVar 1))))
    (sNil))
    (sSeq (sIf (bVal (eArgs (dIsi isi) (eCons (eVar 1) (eCons (eC (.ty "int")) (eNil)))))
    (sRet (eAnd (eArgs (dIsi isi) (eCons (eVar 0) (eCons (eC (.ty "int")) (eNil)))) (eAnd (eNot (eArgs (dIsi isi) (eCons (eVar 0) (eCons (eC (.ty "bool")) (eNil))))) (eBin dEq (eVar 0) (eVar 1)))))
    (sNil))
    (sSeq (sIf (bVal (eArgs (dIsi isi) (eCons (eVar 1) (eCons (eC (.ty "str")) (eNil)))))
    (sRet (eAnd (eArgs (dIsi isi) (eCons (eVar 0) (eCons (eC (.ty "str")) (eNil)))) (eBin dEq (eVar 0) (eVar 1))))
    (sNil))
    (sSeq (sIf (bVal (eArgs (dIsi isi) (eCons (eVar 1) (eCons (eC (.ty "tuple")) (eNil)))))
    (sIf (bOr (bNot (bVal (eArgs (dIsi isi) (eCons (eVar 0) (eCons (eC (.ty "tuple")) (eNil)))))) (bVal (eBin dNe (eArgs dLen (eCons (eVar 0) (eNil))) (eArgs dLen (eCons (eVar 1) (eNil))))))
    (sRet (eC (.bl false)))
    (sNil))
    (sIf (bOr (bNot (bVal (eArgs (dIsi isi) (eCons (eVar 0) (eCons (eC (.ty "list")) (eNil)))))) (bVal (eBin dNe (eArgs dLen (eCons (eVar 0) (eNil))) (eArgs dLen (eCons (eVar 1) (eNil))))))
    (sRet (eC (.bl false)))
    (sNil)))
    (alikeT self)))))
def alikeM (isi : Tg → Tg → Option Bool) : Nat → List D → MH → Res D
  | 0 => fun _ _ => .bad
  | n + 1 => fnB 3 (alikeB isi (alikeM isi n))
/-- what isinstance says of the written types -/
structure IsiB (isi : Tg → Tg → Option Bool) : Prop where
  bb : isi (.inl "bool") (.inl "bool") = some true
  ii : isi (.inl "int") (.inl "int") = some true
  ib : isi (.inl "int") (.inl "bool") = some false
  si : isi (.inl "str") (.inl "int") = some false
  ss : isi (.inl "str") (.inl "str") = some true
  ti : isi (.inl "tuple") (.inl "int") = some false
  ts : isi (.inl "tuple") (.inl "str") = some false
  tt : isi (.inl "tuple") (.inl "tuple") = some true
  li : isi (.inl "list") (.inl "int") = some false
  ls : isi (.inl "list") (.inl "str") = some false
  lt : isi (.inl "list") (.inl "tuple") = some false
  ll : isi (.inl "list") (.inl "list") = some true
theorem isi_of {isi : Tg → Tg → Option Bool} {M : MH} {x : D} {c : String} {t : Tg} {b : Bool} (h1 : tagOf M x = some t) (h2 : isi t (.inl c) = some b) : dIsi isi [x, .ty c] M = .ok (.bl b) M := by
  unfold dIsi
  dsimp only [clsTag]
  rw [h1]
  dsimp only
  rw [h2]
theorem ne_int {i j : Int} {M : MH} : dNe (.int i) (.int j) M = .ok (.bl (!(i == j))) M := by
  unfold dNe
  simp [toP, toPa, SeqAt.shaped, PyData.canLay0, PyData.depth, PyData.eqv]
theorem eq_bl {a b : Bool} {M : MH} : dEq (.bl a) (.bl b) M = .ok (.bl (a == b)) M := by
  cases a <;> cases b <;> kernel_rfl
/-- x is a tuple (t) or a list with the items xs -/
def SeqOf (M : MH) (t : String) (x : D) (xs : List D) : Prop := (t = "tuple" ∧ x = .tup xs) ∨ (t = "list" ∧ listItems M x = some xs)
theorem SeqOf.tag {M : MH} {t : String} {x : D} {xs : List D} (h : SeqOf M t x xs) : tagOf M x = some (.inl t) := by
  rcases h with ⟨rfl, rfl⟩ | ⟨rfl, h⟩
  · rfl
  · rcases items_ref h with rfl | ⟨n, rfl, hn⟩
    · rfl
    · unfold tagOf; dsimp only; rw [hn]
theorem SeqOf.is {M : MH} {t : String} {x : D} {xs : List D} (h : SeqOf M t x xs) : dIs x .non M = .ok (.bl false) M ∧ dIs x (.bl true) M = .ok (.bl false) M ∧ dIs x (.bl false) M = .ok (.bl false) M := by
  rcases h with ⟨rfl, rfl⟩ | ⟨rfl, h⟩
  · exact ⟨rfl, rfl, rfl⟩
  · rcases items_ref h with rfl | ⟨n, rfl, hn⟩ <;> exact ⟨rfl, rfl, rfl⟩
theorem SeqOf.len {M : MH} {t : String} {x : D} {xs : List D} (h : SeqOf M t x xs) : dLen [x] M = .ok (.int xs.length) M := by
  rcases h with ⟨rfl, rfl⟩ | ⟨rfl, h⟩
  · rfl
  · rcases items_ref h with rfl | ⟨n, rfl, hn⟩
    · rfl
    · unfold dLen items
      dsimp only
      rw [hn]
theorem ix_seq' {M : MH} {x : D} {xs : List D} {j : Nat} {a : D} (hi : items M x = some xs) (hd : ∀ n ks ds, x = .ref n → M[n]? ≠ some (.dk ks ds)) (ha : xs[j]? = some a) : dIxA x (.int j) M = .ok a M := by
  have hl : j < xs.length := (List.getElem?_eq_some_iff.mp ha).1
  have hat : atI xs (j : Int) = some a := by
    unfold atI ixN
    rw [if_pos (by omega), if_pos (by omega)]
    exact ha
  have key : dIx x (.int j) M = .ok a M := by
    unfold dIx
    dsimp only
    cases x with
    | str z => cases hi
    | _ => dsimp only; rw [hi]; dsimp only; rw [hat]
  unfold dIxA
  split
  · rename_i n
    split
    · rename_i ks ds hm
      exact absurd hm (hd n ks ds rfl)
    · exact key
  · exact key
theorem SeqOf.ix {M : MH} {t : String} {x : D} {xs : List D} {j : Nat} {a : D} (h : SeqOf M t x xs) (ha : xs[j]? = some a) : dIxA x (.int j) M = .ok a M := by
  rcases h with ⟨rfl, rfl⟩ | ⟨rfl, h⟩
  · exact ix_seq' rfl (fun n ks ds z => by cases z) ha
  · rcases items_ref h with rfl | ⟨n, rfl, hn⟩
    · exact ix_seq' rfl (fun n ks ds z => by cases z) ha
    · refine ix_seq' (by unfold items; dsimp only; rw [hn]) (fun n' ks ds z => ?_) ha
      cases z
      rw [hn]
      intro q
      cases q
/-- two values that stand for the same data -/
def Same (M : MH) : Nat → D → D → Prop
  | 0, _, _ => False
  | k + 1, x, y => (x = .non ∧ y = .non) ∨ (∃ b, x = .bl b ∧ y = .bl b) ∨ (∃ i, x = .int i ∧ y = .int i) ∨ (∃ s, x = .str s ∧ y = .str s ∧ PyData.strOk s = true) ∨
    ∃ t xs ys, SeqOf M t x xs ∧ SeqOf M t y ys ∧ xs.length = ys.length ∧ xs.length ≤ 1000 ∧ ∀ (i : Nat) (a b : D), xs[i]? = some a → ys[i]? = some b → Same M k a b
theorem alike_same {isi : Tg → Tg → Option Bool} (B : IsiB isi) {M : MH} : ∀ (k : Nat) (x y : D), Same M k x y → alikeM isi k [x, y] M = .ok (.bl true) M
  | 0, _, _, h => h.elim
  | k + 1, x, y, h => by
    rw [alikeM, z_fn, alikeB]
    rcases h with ⟨rfl, rfl⟩ | ⟨b, rfl, rfl⟩ | ⟨i, rfl, rfl⟩ | ⟨s, rfl, rfl, hs⟩ | ⟨t, xs, ys, hx, hy, hl, hz, hs⟩
    · have f1 : dIs .non .non M = .ok (.bl true) M := rfl
      simp only [z_seq, z_seq_nx, z_seq_rt, z_seq_ex, z_seq_bk, z_seq_ct, z_if, z_if_t, z_if_f, z_if_x, z_set, z_set_ok, z_set_x, z_ret, z_ret_ok, z_ret_x, z_retN, z_do, z_do_ok, z_do_x, z_nil, z_raise0, z_raise, z_raise_ok, z_toR_rt, z_toR_nx, z_toR_ex, z_c, z_var, z_var_ok, z_un, z_un_ok, z_un_x, z_bin, z_bin_ok, z_bin_x, z_anil, z_cons, z_cons1, z_cons1x, z_cons2, z_cons2x, z_args, z_args_ok, z_args_x, z_tup, z_tup_ok, z_fro, z_fro_ok, z_lst, z_lst_ok, z_call, z_stat, z_call_ok, z_callk, z_callk1, z_callk2, z_mkF, z_mkF_ok, z_own1, z_own1_ok, z_prop, z_own2, z_own2_ok, z_val, z_val_ok, z_val_x, z_and, z_and_t, z_and_f, z_or, z_or_t, z_or_f, z_not, z_not_ok, z_yes, z_eand, z_eand_t, z_eand_f, z_eor, z_eor_t, z_eor_f, z_enot, z_enot_ok, z_eif, z_eif_t, z_eif_f, z_for, z_for_v, z_iseq, z_iseq_t, z_iseq_f, z_iseq_r, z_rng, z_rng_ok, z_env0, z_try, z_try_nx, z_try_rt, z_try0, z_try0_nx, z_try0_rt, z_for_l, z_fv0, z_fv_nx, z_fv_ct, z_fv_rt, z_lc, z_lc_v, z_step, z_step_ok, z_istr, z_istr_ok, z_env0, List.map_cons, List.map_nil, List.replicate, List.append_nil, Nat.reduceSub, List.cons_append, List.nil_append, List.length_cons, List.length_nil, Nat.reduceAdd, Nat.reduceLeDiff, List.getElem?_cons_zero, List.getElem?_cons_succ, List.set_cons_zero, List.set_cons_succ, Bool.not_true, Bool.not_false, f1]
    · have f1 : dIs (.bl b) .non M = .ok (.bl false) M := by cases b <;> rfl
      have g1 : dIsi isi [.bl b, .ty "bool"] M = .ok (.bl true) M := isi_of rfl B.bb
      cases b
      · have f2 : dIs (.bl false) (.bl true) M = .ok (.bl false) M := rfl
        have f3 : dIs (.bl false) (.bl false) M = .ok (.bl true) M := rfl
        simp only [z_seq, z_seq_nx, z_seq_rt, z_seq_ex, z_seq_bk, z_seq_ct, z_if, z_if_t, z_if_f, z_if_x, z_set, z_set_ok, z_set_x, z_ret, z_ret_ok, z_ret_x, z_retN, z_do, z_do_ok, z_do_x, z_nil, z_raise0, z_raise, z_raise_ok, z_toR_rt, z_toR_nx, z_toR_ex, z_c, z_var, z_var_ok, z_un, z_un_ok, z_un_x, z_bin, z_bin_ok, z_bin_x, z_anil, z_cons, z_cons1, z_cons1x, z_cons2, z_cons2x, z_args, z_args_ok, z_args_x, z_tup, z_tup_ok, z_fro, z_fro_ok, z_lst, z_lst_ok, z_call, z_stat, z_call_ok, z_callk, z_callk1, z_callk2, z_mkF, z_mkF_ok, z_own1, z_own1_ok, z_prop, z_own2, z_own2_ok, z_val, z_val_ok, z_val_x, z_and, z_and_t, z_and_f, z_or, z_or_t, z_or_f, z_not, z_not_ok, z_yes, z_eand, z_eand_t, z_eand_f, z_eor, z_eor_t, z_eor_f, z_enot, z_enot_ok, z_eif, z_eif_t, z_eif_f, z_for, z_for_v, z_iseq, z_iseq_t, z_iseq_f, z_iseq_r, z_rng, z_rng_ok, z_env0, z_try, z_try_nx, z_try_rt, z_try0, z_try0_nx, z_try0_rt, z_for_l, z_fv0, z_fv_nx, z_fv_ct, z_fv_rt, z_lc, z_lc_v, z_step, z_step_ok, z_istr, z_istr_ok, z_env0, List.map_cons, List.map_nil, List.replicate, List.append_nil, Nat.reduceSub, List.cons_append, List.nil_append, List.length_cons, List.length_nil, Nat.reduceAdd, Nat.reduceLeDiff, List.getElem?_cons_zero, List.getElem?_cons_succ, List.set_cons_zero, List.set_cons_succ, Bool.not_true, Bool.not_false, f1, f2, f3, g1, eq_bl, beq_self_eq_true]
      · have f2 : dIs (.bl true) (.bl true) M = .ok (.bl true) M := rfl
        simp only [z_seq, z_seq_nx, z_seq_rt, z_seq_ex, z_seq_bk, z_seq_ct, z_if, z_if_t, z_if_f, z_if_x, z_set, z_set_ok, z_set_x, z_ret, z_ret_ok, z_ret_x, z_retN, z_do, z_do_ok, z_do_x, z_nil, z_raise0, z_raise, z_raise_ok, z_toR_rt, z_toR_nx, z_toR_ex, z_c, z_var, z_var_ok, z_un, z_un_ok, z_un_x, z_bin, z_bin_ok, z_bin_x, z_anil, z_cons, z_cons1, z_cons1x, z_cons2, z_cons2x, z_args, z_args_ok, z_args_x, z_tup, z_tup_ok, z_fro, z_fro_ok, z_lst, z_lst_ok, z_call, z_stat, z_call_ok, z_callk, z_callk1, z_callk2, z_mkF, z_mkF_ok, z_own1, z_own1_ok, z_prop, z_own2, z_own2_ok, z_val, z_val_ok, z_val_x, z_and, z_and_t, z_and_f, z_or, z_or_t, z_or_f, z_not, z_not_ok, z_yes, z_eand, z_eand_t, z_eand_f, z_eor, z_eor_t, z_eor_f, z_enot, z_enot_ok, z_eif, z_eif_t, z_eif_f, z_for, z_for_v, z_iseq, z_iseq_t, z_iseq_f, z_iseq_r, z_rng, z_rng_ok, z_env0, z_try, z_try_nx, z_try_rt, z_try0, z_try0_nx, z_try0_rt, z_for_l, z_fv0, z_fv_nx, z_fv_ct, z_fv_rt, z_lc, z_lc_v, z_step, z_step_ok, z_istr, z_istr_ok, z_env0, List.map_cons, List.map_nil, List.replicate, List.append_nil, Nat.reduceSub, List.cons_append, List.nil_append, List.length_cons, List.length_nil, Nat.reduceAdd, Nat.reduceLeDiff, List.getElem?_cons_zero, List.getElem?_cons_succ, List.set_cons_zero, List.set_cons_succ, Bool.not_true, Bool.not_false, f1, f2, g1, eq_bl, beq_self_eq_true]
    · have f1 : dIs (.int i) .non M = .ok (.bl false) M := rfl
      have f2 : dIs (.int i) (.bl true) M = .ok (.bl false) M := rfl
      have f3 : dIs (.int i) (.bl false) M = .ok (.bl false) M := rfl
      have g1 : dIsi isi [.int i, .ty "int"] M = .ok (.bl true) M := isi_of rfl B.ii
      have g2 : dIsi isi [.int i, .ty "bool"] M = .ok (.bl false) M := isi_of rfl B.ib
      simp only [z_seq, z_seq_nx, z_seq_rt, z_seq_ex, z_seq_bk, z_seq_ct, z_if, z_if_t, z_if_f, z_if_x, z_set, z_set_ok, z_set_x, z_ret, z_ret_ok, z_ret_x, z_retN, z_do, z_do_ok, z_do_x, z_nil, z_raise0, z_raise, z_raise_ok, z_toR_rt, z_toR_nx, z_toR_ex, z_c, z_var, z_var_ok, z_un, z_un_ok, z_un_x, z_bin, z_bin_ok, z_bin_x, z_anil, z_cons, z_cons1, z_cons1x, z_cons2, z_cons2x, z_args, z_args_ok, z_args_x, z_tup, z_tup_ok, z_fro, z_fro_ok, z_lst, z_lst_ok, z_call, z_stat, z_call_ok, z_callk, z_callk1, z_callk2, z_mkF, z_mkF_ok, z_own1, z_own1_ok, z_prop, z_own2, z_own2_ok, z_val, z_val_ok, z_val_x, z_and, z_and_t, z_and_f, z_or, z_or_t, z_or_f, z_not, z_not_ok, z_yes, z_eand, z_eand_t, z_eand_f, z_eor, z_eor_t, z_eor_f, z_enot, z_enot_ok, z_eif, z_eif_t, z_eif_f, z_for, z_for_v, z_iseq, z_iseq_t, z_iseq_f, z_iseq_r, z_rng, z_rng_ok, z_env0, z_try, z_try_nx, z_try_rt, z_try0, z_try0_nx, z_try0_rt, z_for_l, z_fv0, z_fv_nx, z_fv_ct, z_fv_rt, z_lc, z_lc_v, z_step, z_step_ok, z_istr, z_istr_ok, z_env0, List.map_cons, List.map_nil, List.replicate, List.append_nil, Nat.reduceSub, List.cons_append, List.nil_append, List.length_cons, List.length_nil, Nat.reduceAdd, Nat.reduceLeDiff, List.getElem?_cons_zero, List.getElem?_cons_succ, List.set_cons_zero, List.set_cons_succ, Bool.not_true, Bool.not_false, f1, f2, f3, g1, g2, eq_int, beq_self_eq_true]
    · have f1 : dIs (.str s) .non M = .ok (.bl false) M := rfl
      have f2 : dIs (.str s) (.bl true) M = .ok (.bl false) M := rfl
      have f3 : dIs (.str s) (.bl false) M = .ok (.bl false) M := rfl
      have g1 : dIsi isi [.str s, .ty "int"] M = .ok (.bl false) M := isi_of rfl B.si
      have g2 : dIsi isi [.str s, .ty "str"] M = .ok (.bl true) M := isi_of rfl B.ss
      simp only [z_seq, z_seq_nx, z_seq_rt, z_seq_ex, z_seq_bk, z_seq_ct, z_if, z_if_t, z_if_f, z_if_x, z_set, z_set_ok, z_set_x, z_ret, z_ret_ok, z_ret_x, z_retN, z_do, z_do_ok, z_do_x, z_nil, z_raise0, z_raise, z_raise_ok, z_toR_rt, z_toR_nx, z_toR_ex, z_c, z_var, z_var_ok, z_un, z_un_ok, z_un_x, z_bin, z_bin_ok, z_bin_x, z_anil, z_cons, z_cons1, z_cons1x, z_cons2, z_cons2x, z_args, z_args_ok, z_args_x, z_tup, z_tup_ok, z_fro, z_fro_ok, z_lst, z_lst_ok, z_call, z_stat, z_call_ok, z_callk, z_callk1, z_callk2, z_mkF, z_mkF_ok, z_own1, z_own1_ok, z_prop, z_own2, z_own2_ok, z_val, z_val_ok, z_val_x, z_and, z_and_t, z_and_f, z_or, z_or_t, z_or_f, z_not, z_not_ok, z_yes, z_eand, z_eand_t, z_eand_f, z_eor, z_eor_t, z_eor_f, z_enot, z_enot_ok, z_eif, z_eif_t, z_eif_f, z_for, z_for_v, z_iseq, z_iseq_t, z_iseq_f, z_iseq_r, z_rng, z_rng_ok, z_env0, z_try, z_try_nx, z_try_rt, z_try0, z_try0_nx, z_try0_rt, z_for_l, z_fv0, z_fv_nx, z_fv_ct, z_fv_rt, z_lc, z_lc_v, z_step, z_step_ok, z_istr, z_istr_ok, z_env0, List.map_cons, List.map_nil, List.replicate, List.append_nil, Nat.reduceSub, List.cons_append, List.nil_append, List.length_cons, List.length_nil, Nat.reduceAdd, Nat.reduceLeDiff, List.getElem?_cons_zero, List.getElem?_cons_succ, List.set_cons_zero, List.set_cons_succ, Bool.not_true, Bool.not_false, f1, f2, f3, g1, g2, eq_str hs hs, beq_self_eq_true]
    · obtain ⟨f1, f2, f3⟩ := hy.is
      have hlx := hx.len
      have hly := hy.len
      have hn : (((xs.length : Int) == (ys.length : Int))) = true := by rw [hl]; simp
      have tail : alikeT (alikeM isi k) [some x, some y, none] M = .rt (.bl true) M := by
        rw [alikeT]
        obtain ⟨e', M', e1, a2, rfl, rfl⟩ := loop_inv (body := alikeL (alikeM isi k)) (tg := tgName 2) (I := fun _ e M' => ∃ a2, e = [some x, some y, a2] ∧ M = M') (rangeD 0 ys.length) 0 [some x, some y, none] M ⟨none, rfl, rfl⟩ (by
          rintro j hj e M' ⟨a2, rfl, rfl⟩
          rw [rangeD_len] at hj
          have hp : (rangeD 0 ys.length)[j]'(by rw [rangeD_len]; exact hj) = .int (j : Nat) := by
            unfold rangeD; simp
          have hj' : j < xs.length := by omega
          have ax := hx.ix (List.getElem?_eq_getElem hj')
          have ay := hy.ix (List.getElem?_eq_getElem hj)
          have hsame := alike_same B k _ _ (hs j _ _ (List.getElem?_eq_getElem hj') (List.getElem?_eq_getElem hj))
          refine ⟨[some x, some y, some (.int (j : Nat))], [some x, some y, some (.int (j : Nat))], M, ?_, ?_, some (.int (j : Nat)), rfl, rfl⟩
          · rw [hp]; rfl
          · rw [alikeL]
            simp only [z_seq, z_seq_nx, z_seq_rt, z_seq_ex, z_seq_bk, z_seq_ct, z_if, z_if_t, z_if_f, z_if_x, z_set, z_set_ok, z_set_x, z_ret, z_ret_ok, z_ret_x, z_retN, z_do, z_do_ok, z_do_x, z_nil, z_raise0, z_raise, z_raise_ok, z_toR_rt, z_toR_nx, z_toR_ex, z_c, z_var, z_var_ok, z_un, z_un_ok, z_un_x, z_bin, z_bin_ok, z_bin_x, z_anil, z_cons, z_cons1, z_cons1x, z_cons2, z_cons2x, z_args, z_args_ok, z_args_x, z_tup, z_tup_ok, z_fro, z_fro_ok, z_lst, z_lst_ok, z_call, z_stat, z_call_ok, z_callk, z_callk1, z_callk2, z_mkF, z_mkF_ok, z_own1, z_own1_ok, z_prop, z_own2, z_own2_ok, z_val, z_val_ok, z_val_x, z_and, z_and_t, z_and_f, z_or, z_or_t, z_or_f, z_not, z_not_ok, z_yes, z_eand, z_eand_t, z_eand_f, z_eor, z_eor_t, z_eor_f, z_enot, z_enot_ok, z_eif, z_eif_t, z_eif_f, z_for, z_for_v, z_iseq, z_iseq_t, z_iseq_f, z_iseq_r, z_rng, z_rng_ok, z_env0, z_try, z_try_nx, z_try_rt, z_try0, z_try0_nx, z_try0_rt, z_for_l, z_fv0, z_fv_nx, z_fv_ct, z_fv_rt, z_lc, z_lc_v, z_step, z_step_ok, z_istr, z_istr_ok, z_env0, List.map_cons, List.map_nil, List.replicate, List.append_nil, Nat.reduceSub, List.cons_append, List.nil_append, List.length_cons, List.length_nil, Nat.reduceAdd, Nat.reduceLeDiff, List.getElem?_cons_zero, List.getElem?_cons_succ, List.set_cons_zero, List.set_cons_succ, Bool.not_true, Bool.not_false, ax, ay, hsame])
        have hr : qRng (.ok (.int ys.length) M) = .ok (.vals (rangeD 0 ys.length)) M := z_rng_ok (by omega) (by omega)
        simp only [z_seq, z_seq_nx, z_seq_rt, z_seq_ex, z_seq_bk, z_seq_ct, z_if, z_if_t, z_if_f, z_if_x, z_set, z_set_ok, z_set_x, z_ret, z_ret_ok, z_ret_x, z_retN, z_do, z_do_ok, z_do_x, z_nil, z_raise0, z_raise, z_raise_ok, z_toR_rt, z_toR_nx, z_toR_ex, z_c, z_var, z_var_ok, z_un, z_un_ok, z_un_x, z_bin, z_bin_ok, z_bin_x, z_anil, z_cons, z_cons1, z_cons1x, z_cons2, z_cons2x, z_args, z_args_ok, z_args_x, z_tup, z_tup_ok, z_fro, z_fro_ok, z_lst, z_lst_ok, z_call, z_stat, z_call_ok, z_callk, z_callk1, z_callk2, z_mkF, z_mkF_ok, z_own1, z_own1_ok, z_prop, z_own2, z_own2_ok, z_val, z_val_ok, z_val_x, z_and, z_and_t, z_and_f, z_or, z_or_t, z_or_f, z_not, z_not_ok, z_yes, z_eand, z_eand_t, z_eand_f, z_eor, z_eor_t, z_eor_f, z_enot, z_enot_ok, z_eif, z_eif_t, z_eif_f, z_for, z_for_v, z_iseq, z_iseq_t, z_iseq_f, z_iseq_r, z_rng, z_rng_ok, z_env0, z_try, z_try_nx, z_try_rt, z_try0, z_try0_nx, z_try0_rt, z_for_l, z_fv0, z_fv_nx, z_fv_ct, z_fv_rt, z_lc, z_lc_v, z_step, z_step_ok, z_istr, z_istr_ok, z_env0, List.map_cons, List.map_nil, List.replicate, List.append_nil, Nat.reduceSub, List.cons_append, List.nil_append, List.length_cons, List.length_nil, Nat.reduceAdd, Nat.reduceLeDiff, List.getElem?_cons_zero, List.getElem?_cons_succ, List.set_cons_zero, List.set_cons_succ, Bool.not_true, Bool.not_false, hly, hr, e1]
      have tx := hx.tag
      have ty := hy.tag
      have ht : t = "tuple" ∨ t = "list" := by rcases hx with ⟨h, _⟩ | ⟨h, _⟩ <;> simp [h]
      rcases ht with rfl | rfl
      · have g1 : dIsi isi [y, .ty "int"] M = .ok (.bl false) M := isi_of ty B.ti
        have g2 : dIsi isi [y, .ty "str"] M = .ok (.bl false) M := isi_of ty B.ts
        have g3 : dIsi isi [y, .ty "tuple"] M = .ok (.bl true) M := isi_of ty B.tt
        have g4 : dIsi isi [x, .ty "tuple"] M = .ok (.bl true) M := isi_of tx B.tt
        simp only [z_seq, z_seq_nx, z_seq_rt, z_seq_ex, z_seq_bk, z_seq_ct, z_if, z_if_t, z_if_f, z_if_x, z_set, z_set_ok, z_set_x, z_ret, z_ret_ok, z_ret_x, z_retN, z_do, z_do_ok, z_do_x, z_nil, z_raise0, z_raise, z_raise_ok, z_toR_rt, z_toR_nx, z_toR_ex, z_c, z_var, z_var_ok, z_un, z_un_ok, z_un_x, z_bin, z_bin_ok, z_bin_x, z_anil, z_cons, z_cons1, z_cons1x, z_cons2, z_cons2x, z_args, z_args_ok, z_args_x, z_tup, z_tup_ok, z_fro, z_fro_ok, z_lst, z_lst_ok, z_call, z_stat, z_call_ok, z_callk, z_callk1, z_callk2, z_mkF, z_mkF_ok, z_own1, z_own1_ok, z_prop, z_own2, z_own2_ok, z_val, z_val_ok, z_val_x, z_and, z_and_t, z_and_f, z_or, z_or_t, z_or_f, z_not, z_not_ok, z_yes, z_eand, z_eand_t, z_eand_f, z_eor, z_eor_t, z_eor_f, z_enot, z_enot_ok, z_eif, z_eif_t, z_eif_f, z_for, z_for_v, z_iseq, z_iseq_t, z_iseq_f, z_iseq_r, z_rng, z_rng_ok, z_env0, z_try, z_try_nx, z_try_rt, z_try0, z_try0_nx, z_try0_rt, z_for_l, z_fv0, z_fv_nx, z_fv_ct, z_fv_rt, z_lc, z_lc_v, z_step, z_step_ok, z_istr, z_istr_ok, z_env0, List.map_cons, List.map_nil, List.replicate, List.append_nil, Nat.reduceSub, List.cons_append, List.nil_append, List.length_cons, List.length_nil, Nat.reduceAdd, Nat.reduceLeDiff, List.getElem?_cons_zero, List.getElem?_cons_succ, List.set_cons_zero, List.set_cons_succ, Bool.not_true, Bool.not_false, f1, f2, f3, g1, g2, g3, g4, hlx, hly, ne_int, hn, tail]
      · have g1 : dIsi isi [y, .ty "int"] M = .ok (.bl false) M := isi_of ty B.li
        have g2 : dIsi isi [y, .ty "str"] M = .ok (.bl false) M := isi_of ty B.ls
        have g3 : dIsi isi [y, .ty "tuple"] M = .ok (.bl false) M := isi_of ty B.lt
        have g4 : dIsi isi [x, .ty "list"] M = .ok (.bl true) M := isi_of tx B.ll
        simp only [z_seq, z_seq_nx, z_seq_rt, z_seq_ex, z_seq_bk, z_seq_ct, z_if, z_if_t, z_if_f, z_if_x, z_set, z_set_ok, z_set_x, z_ret, z_ret_ok, z_ret_x, z_retN, z_do, z_do_ok, z_do_x, z_nil, z_raise0, z_raise, z_raise_ok, z_toR_rt, z_toR_nx, z_toR_ex, z_c, z_var, z_var_ok, z_un, z_un_ok, z_un_x, z_bin, z_bin_ok, z_bin_x, z_anil, z_cons, z_cons1, z_cons1x, z_cons2, z_cons2x, z_args, z_args_ok, z_args_x, z_tup, z_tup_ok, z_fro, z_fro_ok, z_lst, z_lst_ok, z_call, z_stat, z_call_ok, z_callk, z_callk1, z_callk2, z_mkF, z_mkF_ok, z_own1, z_own1_ok, z_prop, z_own2, z_own2_ok, z_val, z_val_ok, z_val_x, z_and, z_and_t, z_and_f, z_or, z_or_t, z_or_f, z_not, z_not_ok, z_yes, z_eand, z_eand_t, z_eand_f, z_eor, z_eor_t, z_eor_f, z_enot, z_enot_ok, z_eif, z_eif_t, z_eif_f, z_for, z_for_v, z_iseq, z_iseq_t, z_iseq_f, z_iseq_r, z_rng, z_rng_ok, z_env0, z_try, z_try_nx, z_try_rt, z_try0, z_try0_nx, z_try0_rt, z_for_l, z_fv0, z_fv_nx, z_fv_ct, z_fv_rt, z_lc, z_lc_v, z_step, z_step_ok, z_istr, z_istr_ok, z_env0, List.map_cons, List.map_nil, List.replicate, List.append_nil, Nat.reduceSub, List.cons_append, List.nil_append, List.length_cons, List.length_nil, Nat.reduceAdd, Nat.reduceLeDiff, List.getElem?_cons_zero, List.getElem?_cons_succ, List.set_cons_zero, List.set_cons_succ, Bool.not_true, Bool.not_false, f1, f2, f3, g1, g2, g3, g4, hlx, hly, ne_int, hn, tail]
end T2
namespace T2
open PySem L2

/-! ### one of a menu -/
def pickM : List D → MH → Res D := fnB 2 (sRet (eBin dIxA (eVar 1) (eCall 2 drawM (eCons (eVar 0) (eCons (eArgs dLen (eCons (eVar 1) (eNil))) (eNil))))))
theorem pick_run {s : Bx} {R : MH} {t : String} {l : D} {ds : List D} (hs : BxOk s) (hl : ∀ s : Bx, SeqOf (s.obj :: R) t l ds) (h0 : 0 < ds.length) (h1 : ds.length < 1000) : ∃ d s', pickM [.ref 0, l] (s.obj :: R) = .ok d (s'.obj :: R) ∧ d ∈ ds ∧ BxOk s' := by
  obtain ⟨r, s', e, a, b, h⟩ := draw_at (R := R) (n := ds.length) hs (by omega) (by omega)
  have hr : r.toNat < ds.length := by omega
  have hx := (hl s').ix (List.getElem?_eq_getElem hr)
  rw [show ((r.toNat : Nat) : Int) = r by omega] at hx
  refine ⟨ds[r.toNat], s', ?_, List.getElem_mem hr, h⟩
  have hlen := (hl s).len
  rw [pickM, z_fn]
  simp only [z_seq, z_seq_nx, z_seq_rt, z_seq_ex, z_seq_bk, z_seq_ct, z_if, z_if_t, z_if_f, z_if_x, z_set, z_set_ok, z_set_x, z_ret, z_ret_ok, z_ret_x, z_retN, z_do, z_do_ok, z_do_x, z_nil, z_raise0, z_raise, z_raise_ok, z_toR_rt, z_toR_nx, z_toR_ex, z_c, z_var, z_var_ok, z_un, z_un_ok, z_un_x, z_bin, z_bin_ok, z_bin_x, z_anil, z_cons, z_cons1, z_cons1x, z_cons2, z_cons2x, z_args, z_args_ok, z_args_x, z_tup, z_tup_ok, z_fro, z_fro_ok, z_lst, z_lst_ok, z_call, z_stat, z_call_ok, z_callk, z_callk1, z_callk2, z_mkF, z_mkF_ok, z_own1, z_own1_ok, z_prop, z_own2, z_own2_ok, z_val, z_val_ok, z_val_x, z_and, z_and_t, z_and_f, z_or, z_or_t, z_or_f, z_not, z_not_ok, z_yes, z_eand, z_eand_t, z_eand_f, z_eor, z_eor_t, z_eor_f, z_enot, z_enot_ok, z_eif, z_eif_t, z_eif_f, z_for, z_for_v, z_iseq, z_iseq_t, z_iseq_f, z_iseq_r, z_rng, z_rng_ok, z_env0, z_try, z_try_nx, z_try_rt, z_try0, z_try0_nx, z_try0_rt, z_for_l, z_fv0, z_fv_nx, z_fv_ct, z_fv_rt, z_lc, z_lc_v, z_step, z_step_ok, z_istr, z_istr_ok, z_env0, List.map_cons, List.map_nil, List.replicate, List.append_nil, Nat.reduceSub, List.cons_append, List.nil_append, List.length_cons, List.length_nil, Nat.reduceAdd, Nat.reduceLeDiff, List.getElem?_cons_zero, List.getElem?_cons_succ, List.set_cons_zero, List.set_cons_succ, Bool.not_true, Bool.not_false, hlen, e, hx]
theorem fro_seq {R : MH} {ds : List D} (s : Bx) : SeqOf (s.obj :: R) "list" (.fro ds) ds := .inr ⟨rfl, rfl⟩
theorem ref_seq {R : MH} {n : Nat} {ds : List D} (h : R[n]? = some (.lst ds)) (s : Bx) : SeqOf (s.obj :: R) "list" (.ref (n + 1)) ds := .inr ⟨rfl, by unfold listItems; dsimp only; rw [List.getElem?_cons_succ, h]⟩

/-! ### names -/
def Low (x : Str) : Prop := ∀ c ∈ x.cps.toList, 97 ≤ c ∧ c ≤ 122
theorem Low.ok {x : Str} (h : Low x) : PyData.strOk x = true := by
  unfold PyData.strOk
  rw [Array.all_eq_true]
  intro i hi
  have := h x.cps[i] (by simp)
  simp; omega
theorem str_app (a b : Str) : (a ++ b).cps = a.cps ++ b.cps := rfl
theorem app_len (a b : Str) : (a ++ b).length = a.length + b.length := by
  show (a.cps ++ b.cps).size = _
  rw [Array.size_append]; rfl
theorem Low.app {a b : Str} (ha : Low a) (hb : Low b) : Low (a ++ b) := by
  intro c hc
  rw [str_app, Array.toList_append, List.mem_append] at hc
  rcases hc with hc | hc
  · exact ha c hc
  · exact hb c hc
theorem low_one {c : Nat} (h : 97 ≤ c ∧ c ≤ 122) : Low ⟨#[c]⟩ := by
  intro d hd
  have : d = c := by simpa using hd
  rw [this]; exact h
theorem low_nil : Low "" := by
  intro c hc
  have : ("" : Str).cps.toList = [] := by decide +kernel
  rw [this] at hc; simp at hc
theorem add_str {a b : Str} {M : MH} (h : a.length + b.length ≤ 1000) : dAdd (.str a) (.str b) M = .ok (.str (a ++ b)) M := by
  unfold dAdd
  dsimp only
  rw [if_pos (by unfold big; omega)]
theorem abc_list : ("abcdefghijklmnopqrstuvwxyz" : Str).cps.toList = (List.range 26).map (· + 97) := by decide +kernel
theorem ix_abc {r : Int} {M : MH} (h0 : 0 ≤ r) (h1 : r < 26) : ∃ c, dIxA (.str ("abcdefghijklmnopqrstuvwxyz" : Str)) (.int r) M = .ok (.str ⟨#[c]⟩) M ∧ 97 ≤ c ∧ c ≤ 122 := by
  have hn : ("abcdefghijklmnopqrstuvwxyz" : Str).cps.toList.length = 26 := by decide +kernel
  obtain ⟨c, hc, hm⟩ := atI_of (l := ("abcdefghijklmnopqrstuvwxyz" : Str).cps.toList) h0 (by omega)
  rw [abc_list] at hm
  obtain ⟨k, hk, rfl⟩ := List.mem_map.mp hm
  have hk := List.mem_range.mp hk
  refine ⟨k + 97, ?_, by omega, by omega⟩
  unfold dIxA dIx
  dsimp only
  rw [if_pos (by decide +kernel), hc]
/-! ### a comprehension that chooses -/
theorem lc_filter {tg : TgM} {tt : BM} {m : EM} {e : Env2} {M0 : MH} {p : D → Bool} {g : D → D} : ∀ (xs : List D) (step : ∀ x ∈ xs, ∀ acc, lcStep tg tt m e x (M0 ++ [.lst acc]) = .ok (if p x = true then some (g x) else none) (M0 ++ [.lst acc])) (acc : List D), acc.length + xs.length ≤ 1000 →
    lcV tg tt m e M0.length xs (M0 ++ [.lst acc]) = .ok (.ref M0.length) (M0 ++ [.lst (acc ++ (xs.filter p).map g)])
  | [], _, acc, _ => by simp [lcV]
  | x :: xs, step, acc, hz => by
    have h1 := step x (by simp) acc
    have hg : (M0 ++ [MO.lst acc])[M0.length]? = some (.lst acc) := by simp
    unfold lcV
    rw [h1, Res.bind_ok]
    by_cases hp : p x = true
    · rw [if_pos hp]
      have hpush : pushAt M0.length (some (g x)) (M0 ++ [.lst acc]) = some (M0 ++ [.lst (acc ++ [g x])]) := by
        unfold pushAt
        dsimp only
        rw [hg]
        dsimp only
        rw [if_pos (by simp at hz; unfold big; omega)]
        congr 1
        simp
      rw [hpush]
      dsimp only
      rw [lc_filter xs (fun y hy => step y (by simp [hy])) (acc ++ [g x]) (by simp at hz ⊢; omega), List.filter_cons, if_pos hp, List.map_cons, List.append_assoc]
      rfl
    · rw [if_neg hp]
      dsimp only [pushAt]
      rw [lc_filter xs (fun y hy => step y (by simp [hy])) acc (by simp at hz ⊢; omega), List.filter_cons, if_neg hp]
theorem in_strs (z : Str) (zs : List Str) : memD (.str z) (zs.map D.str) = decide (z ∈ zs) := by
  unfold memD inV
  rw [List.map_map, List.any_map, Bool.eq_iff_iff]
  simp only [List.any_eq_true, decide_eq_true_eq, Function.comp_apply, vOf, eqV, beq_iff_eq]
  exact ⟨fun ⟨a, h, e⟩ => e ▸ h, fun h => ⟨z, h, rfl⟩⟩
theorem flat_strs (zs : List Str) : (zs.map D.str).all flatD = true := by
  rw [List.all_eq_true]
  intro d hd
  obtain ⟨z, _, rfl⟩ := List.mem_map.mp hd
  rfl
theorem words3 : ([.str "on", .str "set", .str "new"] : List D) = ([("on" : Str), "set", "new"] : List Str).map D.str := rfl
end T2
namespace T2
open PySem L2
/-- what stood stands -/
def Ext (R T : MH) : Prop := ∀ (i : Nat) (o : MO), R[i]? = some o → T[i]? = some o
theorem Ext.trans {R S T : MH} (a : Ext R S) (b : Ext S T) : Ext R T := fun i o h => b i o (a i o h)
theorem Ext.app {R G : MH} : Ext R (R ++ G) := fun i o h => by
  rw [List.getElem?_append_left (List.getElem?_eq_some_iff.mp h).1]; exact h
theorem Ext.set {R T : MH} (h : Ext R T) {p : Nat} (hp : R.length ≤ p) {o : MO} : Ext R (T.set p o) := fun i u hi => by
  have := (List.getElem?_eq_some_iff.mp hi).1
  rw [List.getElem?_set_ne (by omega)]; exact h i u hi
theorem Ext.len {R T : MH} (h : Ext R T) : R.length ≤ T.length := by
  rcases Nat.lt_or_ge T.length R.length with hl | hl
  · have := h T.length _ (List.getElem?_eq_getElem hl)
    have := (List.getElem?_eq_some_iff.mp this).1
    omega
  · exact hl
theorem nil_len : ("" : Str).length = 0 := by decide +kernel
theorem seq_run {a b : SM} {e e1 : Env2} {M M1 : MH} {r : SR} (h : a e M = .nx e1 M1) (h2 : b e1 M1 = r) : sSeq a b e M = r := by
  rw [z_seq, h, z_seq_nx, h2]
theorem for_nx {it : Env2 → MH → Res IV} {tg : TgM} {b : SM} {e e1 : Env2} {M M0 M1 : MH} {ds : List D} (h : it e M = .ok (.vals ds) M0) (h2 : forV tg b ds e M0 = .nx e1 M1) : sForI it tg b e M = .nx e1 M1 := by
  rw [z_for, h, z_for_v, h2]
theorem ret_rt {m : EM} {e : Env2} {M M1 : MH} {d : D} (h : m e M = .ok d M1) : sRet m e M = .rt d M1 := by
  rw [z_ret, h, z_ret_ok]
theorem var_ok {e : Env2} {M : MH} {d : D} {i : Nat} (h : e[i]? = some (some d)) : eVar i e M = .ok d M := by
  rw [z_var, h, z_var_ok]
end T2
namespace T2
open PySem L2
/-- v is a list of these items, behind the box -/
def Lv (T : MH) (v : D) (ds : List D) : Prop := v = .fro ds ∨ ∃ p, v = .ref (p + 1) ∧ T[p]? = some (.lst ds)
theorem Lv.ext {T T' : MH} {v : D} {ds : List D} (h : Lv T v ds) (x : Ext T T') : Lv T' v ds := by
  rcases h with h | ⟨p, e, h⟩
  · exact .inl h
  · exact .inr ⟨p, e, x _ _ h⟩
theorem Lv.items {T : MH} {v : D} {ds : List D} (h : Lv T v ds) (b : MO) : listItems (b :: T) v = some ds := by
  rcases h with rfl | ⟨p, rfl, h⟩
  · rfl
  · unfold listItems
    dsimp only
    rw [List.getElem?_cons_succ, h]
theorem Lv.seq {T : MH} {v : D} {ds : List D} (h : Lv T v ds) (b : MO) : SeqOf (b :: T) "list" v ds := .inr ⟨rfl, h.items b⟩
theorem Lv.all {T : MH} {v : D} {ds : List D} (h : Lv T v ds) (b : MO) : T2.items (b :: T) v = some ds := by
  rcases h with rfl | ⟨p, rfl, h⟩
  · rfl
  · unfold T2.items
    dsimp only
    rw [List.getElem?_cons_succ, h]
theorem cat_F {M : MH} {x y : D} {xs ys : List D} (hx : listItems M x = some xs) (hy : listItems M y = some ys) (h : xs.length + ys.length ≤ 1000) : dCat mkF x y M = .ok (.fro (xs ++ ys)) M := by
  unfold dCat
  rw [hx, hy]
  dsimp only
  rw [if_pos (by unfold big; omega)]
  rfl
/-- [f(x) for x in l], where f makes nothing new -/
theorem lc_map {tg : TgM} {tt : BM} {m : EM} {e : Env2} {n : Nat} {f : D → D} : ∀ (xs acc : List D) (M : MH), M[n]? = some (.lst acc) → (∀ x ∈ xs, ∀ acc, lcStep tg tt m e x (M.set n (.lst acc)) = .ok (some (f x)) (M.set n (.lst acc))) → acc.length + xs.length ≤ 1000 →
    lcV tg tt m e n xs M = .ok (.ref n) (M.set n (.lst (acc ++ xs.map f)))
  | [], acc, M, hM, _, _ => by
    have hn : n < M.length := (List.getElem?_eq_some_iff.mp hM).1
    have : M.set n (.lst acc) = M := by
      rw [← (List.getElem?_eq_some_iff.mp hM).2, List.set_getElem_self]
    simp [lcV, this]
  | x :: xs, acc, M, hM, hs, hz => by
    have hn : n < M.length := (List.getElem?_eq_some_iff.mp hM).1
    have hMe : M.set n (.lst acc) = M := by
      rw [← (List.getElem?_eq_some_iff.mp hM).2, List.set_getElem_self]
    have h1 := hs x (by simp) acc
    rw [hMe] at h1
    have ih := lc_map (tg := tg) (tt := tt) (m := m) (e := e) (n := n) (f := f) xs (acc ++ [f x]) (M.set n (.lst (acc ++ [f x]))) (by rw [List.getElem?_set_self hn]) (fun y hy a => by
      rw [List.set_set]; exact hs y (by simp [hy]) a) (by simp at hz ⊢; omega)
    unfold lcV
    rw [h1, Res.bind_ok]
    have hp : pushAt n (some (f x)) M = some (M.set n (.lst (acc ++ [f x]))) := by
      unfold pushAt
      dsimp only
      rw [hM]
      dsimp only
      rw [if_pos (by simp at hz; unfold big; omega)]
    rw [hp]
    dsimp only
    rw [ih, List.set_set]
    simp
/-- plain data: tuples, texts, numbers -/
def Pd : Nat → D → Prop
  | 0, _ => False
  | k + 1, x => x = .non ∨ (∃ b, x = .bl b) ∨ (∃ i, x = .int i) ∨ (∃ s, x = .str s ∧ PyData.strOk s = true) ∨ ∃ xs, x = .tup xs ∧ xs.length ≤ 1000 ∧ ∀ a ∈ xs, Pd k a
theorem Pd.up : ∀ {k : Nat} {x : D}, Pd k x → Pd (k + 1) x
  | 0, _, h => h.elim
  | k + 1, x, h => by
    rcases h with h | h | h | h | ⟨xs, h, hl, ha⟩
    · exact .inl h
    · exact .inr (.inl h)
    · exact .inr (.inr (.inl h))
    · exact .inr (.inr (.inr (.inl h)))
    · exact .inr (.inr (.inr (.inr ⟨xs, h, hl, fun a m => Pd.up (ha a m)⟩)))
theorem pd_str {k : Nat} {s : Str} (h : PyData.strOk s = true) : Pd (k + 1) (.str s) := .inr (.inr (.inr (.inl ⟨s, rfl, h⟩)))
theorem pd_int {k : Nat} {i : Int} : Pd (k + 1) (.int i) := .inr (.inr (.inl ⟨i, rfl⟩))
theorem pd_tup {k : Nat} {xs : List D} (hl : xs.length ≤ 1000) (h : ∀ a ∈ xs, Pd k a) : Pd (k + 1) (.tup xs) := .inr (.inr (.inr (.inr ⟨xs, rfl, hl, h⟩)))
theorem pd_3 {k : Nat} {x y z : D} (hx : Pd k x) (hy : Pd k y) (hz : Pd k z) : Pd (k + 1) (.tup [x, y, z]) := pd_tup (by simp) (by simp [hx, hy, hz])
theorem same_pd {M : MH} : ∀ {k : Nat} {x : D}, Pd k x → Same M k x x
  | 0, _, h => h.elim
  | k + 1, x, h => by
    rcases h with h | ⟨b, h⟩ | ⟨i, h⟩ | ⟨s, h, ho⟩ | ⟨xs, h, hl, ha⟩
    · exact .inl ⟨h, h⟩
    · exact .inr (.inl ⟨b, h, h⟩)
    · exact .inr (.inr (.inl ⟨i, h, h⟩))
    · exact .inr (.inr (.inr (.inl ⟨s, h, h, ho⟩)))
    · refine .inr (.inr (.inr (.inr ⟨"tuple", xs, xs, .inl ⟨rfl, h⟩, .inl ⟨rfl, h⟩, rfl, hl, fun i a c h1 h2 => ?_⟩)))
      rw [h1] at h2
      cases h2
      exact same_pd (ha a (List.mem_of_getElem? h1))
theorem same_list {M : MH} {k : Nat} {x y : D} {xs : List D} (hx : listItems M x = some xs) (hy : listItems M y = some xs) (hl : xs.length ≤ 1000) (h : ∀ a ∈ xs, Pd k a) : Same M (k + 1) x y := by
  refine .inr (.inr (.inr (.inr ⟨"list", xs, xs, .inr ⟨rfl, hx⟩, .inr ⟨rfl, hy⟩, rfl, hl, fun i a c h1 h2 => ?_⟩)))
  rw [h1] at h2
  cases h2
  exact same_pd (h a (List.mem_of_getElem? h1))
end T2
namespace T2
open PySem L2
/-! ### a law's body, statement by statement: it ends with True -/
/-! ### fields of an instance that is being made -/
/-! ### plain data compared: a bool, whatever the memory -/
/-! ### a list that is walked, under an invariant of the names -/
end T2
namespace T2
open PySem L2 PyProof.Rows

/-! ### o.f += e (ints) -/
def sIncF (cs : List Nat) (f : Str) (mo mv : EM) : SM := fun e M => (mo e M).toS e fun o M1 => match dFld cs f o M1 with
  | .ok (.int i) _ => (mv e M1).toS e fun y M2 => match y, instOf M1 o, instOf M2 o with
    | .int j, some (c, _, _), some (c', _, _) => if c = c' then (match dPutF cs f o (.int (i + j)) M2 with
      | some M3 => .nx e M3
      | none => .bad) else .bad
    | _, _, _ => .bad
  | _ => .bad
section
variable {X : Cx} {g : Wd} {W : WY} {a b o : Expr} {pos p apos : Pos} {m1 m2 m3 : EM} {ma : AM} {es : List Expr}
/-! ### a, b, .. = a list -/
def sUnpL (is : List Nat) (m : EM) : SM := fun e M => (m e M).toS e fun d M1 => match listItems M1 d with
  | some ds => if ds.length = is.length then .nx (setAll e is ds) M1 else .bad
  | none => .bad
end

/-! ### dict comprehensions (one clause, over values) -/
section
variable {X : Cx} {g : Wd} {W : WY} {pos : Pos} {mk mv : EM} {tt : BM}
variable {kx vx tgE iter : Expr} {ifs : List Expr} {scope : Scope} {own : List (Str × Nat)}
end
end T2
namespace T2
open PySem L2
/-! ### functions changed at one place; three in a row -/
def up1 {α : Type} (f : Nat → α) (i : Nat) (v : α) : Nat → α := fun j => if j = i then v else f j
theorem up1_same {α : Type} {f : Nat → α} {i : Nat} {v : α} : up1 f i v i = v := if_pos rfl
theorem up1_ne {α : Type} {f : Nat → α} {i j : Nat} {v : α} (h : j ≠ i) : up1 f i v j = f j := if_neg h
def r3 {α : Type} (f : Nat → α) : List α := [f 0, f 1, f 2]
def k3 : List Key := [.inl 0, .inl 1, .inl 2]
/-! ### slots: slot i stands at the place π i behind the box and holds c i -/
structure Sl (N : Nat) (T : MH) (π : Nat → Nat) (c : Nat → MO) : Prop where
  at_ : ∀ i, i < N → T[π i]? = some (c i)
  inj : ∀ i j, i < N → j < N → π i = π j → i = j
section
variable {N : Nat} {T T' : MH} {π : Nat → Nat} {c : Nat → MO} {i : Nat} {o : MO}
theorem Sl.lt (h : Sl N T π c) (hi : i < N) : π i < T.length := (List.getElem?_eq_some_iff.mp (h.at_ i hi)).1
theorem Sl.set (h : Sl N T π c) (hi : i < N) : Sl N (T.set (π i) o) π (up1 c i o) := by
  refine ⟨fun j hj => ?_, h.inj⟩
  by_cases e : j = i
  · subst e; rw [List.getElem?_set_self (h.lt hi), up1_same]
  · rw [List.getElem?_set_ne (fun z => e (h.inj j i hj hi z.symm)), up1_ne e]; exact h.at_ j hj
theorem Sl.ext (h : Sl N T π c) (x : Ext T T') : Sl N T' π c := ⟨fun j hj => x _ _ (h.at_ j hj), h.inj⟩
theorem Sl.fresh (h : Sl N T π c) (hi : i < N) : Sl N (T ++ [o]) (up1 π i T.length) (up1 c i o) := by
  refine ⟨fun j hj => ?_, fun a b ha hb e => ?_⟩
  · by_cases e : j = i
    · subst e; rw [up1_same, up1_same]; simp
    · rw [up1_ne e, up1_ne e, List.getElem?_append_left (h.lt hj)]; exact h.at_ j hj
  · by_cases ea : a = i
    · by_cases eb : b = i
      · rw [ea, eb]
      · rw [ea, up1_same, up1_ne eb] at e
        have := h.lt hb; omega
    · by_cases eb : b = i
      · rw [eb, up1_same, up1_ne ea] at e
        have := h.lt ha; omega
      · rw [up1_ne ea, up1_ne eb] at e; exact h.inj a b ha hb e
/-- one slot more -/
theorem Sl.more (h : Sl N T π c) (hN : π N = T.length) (hc : c N = o) : Sl (N + 1) (T ++ [o]) π c := by
  refine ⟨fun j hj => ?_, fun a b ha hb e => ?_⟩
  · by_cases e : j = N
    · subst e; rw [hN, hc]; simp
    · rw [List.getElem?_append_left (h.lt (by omega))]; exact h.at_ j (by omega)
  · by_cases ea : a = N
    · by_cases eb : b = N
      · rw [ea, eb]
      · have := h.lt (i := b) (by omega); rw [ea, hN] at e; omega
    · by_cases eb : b = N
      · have := h.lt (i := a) (by omega); rw [eb, hN] at e; omega
      · exact h.inj a b (by omega) (by omega) e
end
abbrev rf (π : Nat → Nat) (i : Nat) : D := .ref (π i + 1)
section
variable {T : MH} {p : Nat} {b : MO} {u : Nat} {v d : D} {ds : List D} {M M1 M2 : MH} {e e1 : Env2}
/-! ### loops over lists that stay, while other things change -/
/-! ### comprehensions with a test, nothing new but the list -/
theorem step_if {i : Nat} {tt : BM} {m : EM} {x y : D} {k : Bool} (h1 : tt (e.set i (some x)) M = .ok k M) (h2 : k = true → m (e.set i (some x)) M = .ok y M) : lcStep (tgName i) tt m e x M = .ok (if k = true then some y else none) M := by
  unfold lcStep tgName
  dsimp only
  rw [h1]
  dsimp only [noX, Res.bind]
  cases k with
  | false => rfl
  | true => rw [if_pos rfl, h2 rfl]; rfl
theorem lc_if {it : Env2 → MH → Res IV} {i : Nat} {tt : BM} {m : EM} {vs : List Nat} {p : D → Bool} {g : D → D} (hi : it e M = .ok (.vals ds) M) (h1 : ∀ x ∈ ds, ∀ acc, tt ((wipe2 e vs).set i (some x)) (M ++ [.lst acc]) = .ok (p x) (M ++ [.lst acc])) (h2 : ∀ x ∈ ds, p x = true → ∀ acc, m ((wipe2 e vs).set i (some x)) (M ++ [.lst acc]) = .ok (g x) (M ++ [.lst acc])) (hz : ds.length ≤ 1000) :
    eLc it (tgName i) tt m vs e M = .ok (.ref M.length) (M ++ [.lst ((ds.filter p).map g)]) := by
  rw [z_lc, hi, z_lc_v, lc_filter ds (p := p) (g := g) (fun x hx acc => step_if (h1 x hx acc) fun hp => h2 x hx hp acc) [] (by simpa using hz)]
  simp
end
end T2
namespace T2
open PySem L2

/-! ### what a call hands back is frozen, what it has made beside it is forgotten -/
mutual
def fzA (rf : Nat → Option D) : D → Option D
  | .ref n => rf n
  | .tup ds => (fzAs rf ds).map .tup
  | .fro ds => (fzAs rf ds).map .fro
  | .ins c ns ds => (fzAs rf ds).map (.ins c ns)
  | .non => some .non
  | .bl b => some (.bl b)
  | .int i => some (.int i)
  | .str x => some (.str x)
  | .ty n => some (.ty n)
  | .cls c => some (.cls c)
  | .obj a => some (.obj a)
  | .tk ks => some (.tk ks)
def fzAs (rf : Nat → Option D) : List D → Option (List D)
  | [] => some []
  | d :: ds => match fzA rf d, fzAs rf ds with
    | some x, some xs => some (x :: xs)
    | _, _ => none
end
def rfz (M : MH) (k : Nat) : Nat → Nat → Option D
  | 0, n => if n < k then some (.ref n) else none
  | f + 1, n => if n < k then some (.ref n) else match M[n]? with
    | some (.lst ds) => (fzAs (rfz M k f) ds).map .fro
    | _ => none
section
variable {g : Wd} {F : List Addr} {H : Hp} {M : MH} {k : Nat}
mutual
theorem fzA_rep {rf : Nat → Option D} (hrf : ∀ n d' a, F[n]? = some a → rf n = some d' → Rep g (F.take k) H d' (.ref a)) : ∀ {d : D} {v : V} {d' : D}, Rep g F H d v → fzA rf d = some d' → Rep g (F.take k) H d' v
  | _, _, _, .non, h => by cases h; exact .non
  | _, _, _, .bl b, h => by cases h; exact .bl b
  | _, _, _, .int i, h => by cases h; exact .int i
  | _, _, _, .str x, h => by cases h; exact .str x
  | _, _, _, .ty n, h => by cases h; exact .ty n
  | _, _, _, .cls c, h => by cases h; exact .cls c
  | _, _, _, .obj a, h => by cases h; exact .obj a
  | _, _, _, .tk h0, h => by cases h; exact .tk h0
  | _, _, _, .ref hn, h => hrf _ _ _ hn h
  | _, _, _, .tup h0 r, h => by
    obtain ⟨xs, h1, rfl⟩ := Option.map_eq_some_iff.mp h
    exact .tup h0 (fzAs_rep hrf r h1)
  | _, _, _, .fro h0 r, h => by
    obtain ⟨xs, h1, rfl⟩ := Option.map_eq_some_iff.mp h
    exact .fro h0.cut (fzAs_rep hrf r h1)
  | _, _, _, .ins h0 hn hl r, h => by
    obtain ⟨xs, h1, rfl⟩ := Option.map_eq_some_iff.mp h
    exact .ins h0 (fun z => hn (List.mem_of_mem_take z)) hl (fzAs_rep hrf r h1)
theorem fzAs_rep {rf : Nat → Option D} (hrf : ∀ n d' a, F[n]? = some a → rf n = some d' → Rep g (F.take k) H d' (.ref a)) : ∀ {ds : List D} {vs : List V} {ds' : List D}, Reps g F H ds vs → fzAs rf ds = some ds' → Reps g (F.take k) H ds' vs
  | _, _, _, .nil, h => by cases h; exact .nil
  | _, _, _, .cons (d := d) (ds := ds) r t, h => by
    unfold fzAs at h
    cases h1 : fzA rf d with
    | none => rw [h1] at h; cases h
    | some x =>
      cases h2 : fzAs rf ds with
      | none => rw [h1, h2] at h; cases h
      | some xs =>
        rw [h1, h2] at h
        cases h
        exact .cons (fzA_rep hrf r h1) (fzAs_rep hrf t h2)
end
theorem notin_take {n : Nat} {a : Addr} (nd : F.Nodup) (hn : F[n]? = some a) (hk : k ≤ n) : a ∉ F.take k := fun z => by
  obtain ⟨i, hi⟩ := List.getElem?_of_mem z
  have hik : i < k := by
    have := (List.getElem?_eq_some_iff.mp hi).1
    rw [List.length_take] at this
    omega
  rw [List.getElem?_take_of_lt hik] at hi
  have := (List.getElem?_inj (List.getElem?_eq_some_iff.mp hi).1 nd).mp (hi.trans hn.symm)
  omega
theorem rfz_rep (R : RelM g F M H) : ∀ (f n : Nat) (d' : D) (a : Addr), F[n]? = some a → rfz M k f n = some d' → Rep g (F.take k) H d' (.ref a)
  | 0, n, d', a, hn, h => by
    unfold rfz at h
    split at h
    · rename_i hk
      cases h
      exact .ref (by rw [List.getElem?_take_of_lt hk]; exact hn)
    · cases h
  | f + 1, n, d', a, hn, h => by
    unfold rfz at h
    split at h
    · rename_i hk
      cases h
      exact .ref (by rw [List.getElem?_take_of_lt hk]; exact hn)
    · rename_i hk
      split at h
      · rename_i ds hM
        obtain ⟨xs, h1, rfl⟩ := Option.map_eq_some_iff.mp h
        obtain ⟨o, ho, r⟩ := R.obj n a _ hn hM
        cases r with | lst r =>
        exact .fro (.inl ⟨ho, notin_take R.nd hn (by omega)⟩) (fzAs_rep (rfz_rep R f) r h1)
      · cases h
end
mutual
theorem D.low_up {k m : Nat} (h : k ≤ m) : ∀ {d : D}, D.low k d → D.low m d
  | .ref n, l => by unfold D.low at l ⊢; omega
  | .tup ds, l => by unfold D.low at l ⊢; exact D.lows_up h l
  | .fro ds, l => by unfold D.low at l ⊢; exact D.lows_up h l
  | .ins _ _ ds, l => by unfold D.low at l ⊢; exact D.lows_up h l
  | .non, _ => trivial
  | .bl _, _ => trivial
  | .int _, _ => trivial
  | .str _, _ => trivial
  | .ty _, _ => trivial
  | .cls _, _ => trivial
  | .obj _, _ => trivial
  | .tk _, _ => trivial
theorem D.lows_up {k m : Nat} (h : k ≤ m) : ∀ {ds : List D}, D.lows k ds → D.lows m ds
  | [], _ => trivial
  | d :: ds, l => ⟨D.low_up h l.1, D.lows_up h l.2⟩
end
theorem MO.low_up {k m : Nat} (h : k ≤ m) : ∀ {o : MO}, MO.low k o → MO.low m o
  | .lst _, l => D.lows_up h l
  | .dk _ _, l => D.lows_up h l
  | .dt _ _, l => D.lows_up h l
  | .ob _ _ _, l => D.lows_up h l
  | .lk _ _, l => D.lows_up h l
  | .lt _ _, l => D.lows_up h l
open Classical in
/-- the first thing alone may have changed, and refers to nothing -/
noncomputable def frzB (f : List D → MH → Res D) : List D → MH → Res D := fun ds M => match M, f ds M with
  | _ :: T, .ok d (b' :: T') => if T'.take T.length = T ∧ MO.low 0 b' then (match fzA (rfz (b' :: T') (T.length + 1) 4) d with
    | some d' => .ok d' (b' :: T)
    | none => .bad) else .bad
  | _, _ => .bad
theorem frz_ok {f : List D → MH → Res D} {ds : List D} {b b' : MO} {T G : MH} {d d' : D} (h : f ds (b :: T) = .ok d (b' :: (T ++ G))) (hb : MO.low 0 b') (hd : fzA (rfz (b' :: (T ++ G)) (T.length + 1) 4) d = some d') : frzB f ds (b :: T) = .ok d' (b' :: T) := by
  unfold frzB
  rw [h]
  dsimp only
  rw [if_pos ⟨by simp, hb⟩, hd]
theorem fn_frz {P : Program} {w : World} {K : PySem.W.Frag} {mg : Str → Option Value} {base : Heap} {CX : CXT} {g : Wd} {f : Addr} {fd : FuncData} {ps : List Str} {k n : Nat} {m : List D → MH → Res D} (F : FnOk P w K mg base CX k f fd ps (spD g n m)) : FnOk P w K mg base CX k f fd ps (spD g n (frzB m)) :=
  F.imp fun vs H Q E ⟨hl, F, M, ds, R, r, q⟩ => ⟨hl, F, M, ds, R, r, by
    unfold frzB at q
    split at q
    · rename_i b T d b' T' hm
      split at q
      · rename_i hc
        split at q
        · rename_i d' hd
          rw [hm]
          intro F1 H1 v g1 R1 rv
          have e : b' :: T' = (b' :: T) ++ T'.drop T.length := by
            rw [List.cons_append]
            congr 1
            conv => lhs; rw [← List.take_append_drop T.length T', hc.1]
          have lm : MLow (b' :: T) := fun o ho => by
            rcases List.mem_cons.mp ho with rfl | ho
            · exact MO.low_up (Nat.zero_le _) hc.2
            · have := R.low o (List.mem_cons_of_mem _ ho)
              exact this
          have R1' : RelM g F1 ((b' :: T) ++ T'.drop T.length) H1 := by rw [← e]; exact R1
          exact q _ H1 v (g1.cut (by rw [R.len]; simp)) (R1'.cut lm) (fzA_rep (rfz_rep R1 4) rv hd)
        · exact q.elim
      · exact q.elim
    · exact q.elim⟩
/-- data without places stay as they are -/
theorem fz_pd {rf : Nat → Option D} : ∀ {k : Nat} {x : D}, Pd k x → fzA rf x = some x
  | 0, _, h => h.elim
  | k + 1, x, h => by
    rcases h with rfl | ⟨b, rfl⟩ | ⟨i, rfl⟩ | ⟨s, rfl, ho⟩ | ⟨xs, rfl, hl, ha⟩
    · rfl
    · rfl
    · rfl
    · rfl
    · have key : ∀ ys : List D, (∀ a ∈ ys, Pd k a) → fzAs rf ys = some ys := by
        intro ys
        induction ys with
        | nil => exact fun _ => rfl
        | cons y ys ih =>
          intro h
          unfold fzAs
          rw [fz_pd (h y (by simp)), ih fun a m => h a (by simp [m])]
      unfold fzA
      rw [key xs ha]
      rfl
theorem fzs_pd {rf : Nat → Option D} {k : Nat} : ∀ {ys : List D}, (∀ a ∈ ys, Pd k a) → fzAs rf ys = some ys
  | [], _ => rfl
  | y :: ys, h => by
    unfold fzAs
    rw [fz_pd (h y (by simp)), fzs_pd fun a m => h a (by simp [m])]
theorem low_ints {k : Nat} : ∀ ns : List Int, D.lows k (ns.map D.int)
  | [] => trivial
  | _ :: ns => ⟨trivial, low_ints ns⟩
theorem box_low {s : Bx} : MO.low 0 s.obj := by
  unfold Bx.obj MO.low
  refine ⟨?_, trivial, trivial, trivial, trivial, trivial⟩
  unfold D.low
  exact low_ints _
/-- a new list of plain data, frozen -/
theorem fz_new {s : Bx} {T G : MH} {p k : Nat} {xs : List D} (hp : T.length < p) (hG : (s.obj :: (T ++ G))[p]? = some (.lst xs)) (hx : ∀ a ∈ xs, Pd k a) : fzA (rfz (s.obj :: (T ++ G)) (T.length + 1) 4) (.ref p) = some (.fro xs) := by
  show rfz (s.obj :: (T ++ G)) (T.length + 1) 4 p = _
  unfold rfz
  rw [if_neg (by omega), hG]
  dsimp only
  rw [fzs_pd hx]
  rfl

/-! ### min of a list of numbers -/
section
variable {X : Cx} {g : Wd} {W : WY} {a : Expr} {pos p : Pos} {ma : AM} {es : List Expr}
end
end T2
namespace T2
open PySem L2

/-! ### dicts whose keys are tuples -/
section
variable {X : Cx} {g : Wd} {W : WY} {a b o : Expr} {pos p apos : Pos} {m1 m2 m3 : EM} {ma : AM} {es : List Expr}
end
/-! ### for k in d: the dict is locked as long as the loop goes -/
section
variable {g : Wd} {F F' : List Addr} {H H' : Hp}
end
section
variable {X : Cx} {g : Wd} {W : WY} {sts : List Stmt} {s1 : SM} {pos p : Pos}
end
section
variable {X : Cx} {g : Wd} {W : WY} {pos p : Pos} {x : Str} {c : Nat}
end
end T2
namespace T2
open PySem L2
/-! ### break -/
section
variable {X : Cx} {g : Wd} {W : WY} {pos : Pos}
end
end T2
namespace GP
open PySem
open Sem (wp)

/-! ### a sleeping generator that nobody wakes stays as it is -/
/-- the same to look at, but it cannot be woken -/
def poi : GenState → GenState
  | .suspended _ l c p fs cl => .suspended (fun _ => .unsupported "") l c p fs cl
  | x => x
def susp : GenState → Bool
  | .suspended .. => true
  | _ => false
theorem poi_seen (x : GenState) : (poi x).seen = x.seen := by cases x <;> rfl
/-- no generator's frame among them -/
def NG (fs : List Frame) : Prop := splitAtGen fs = none
def NGst : GenState → Prop
  | .suspended _ _ _ _ fs _ => NG fs
  | _ => True
/-- a: what runs; b: what is so; f: the sleeping ones -/
structure Poi (f : Nat → Option GenState) (a b : Array GenState) : Prop where
  size : a.size = b.size
  fix : ∀ i st, f i = some st → susp st = true ∧ b[i]? = some st ∧ a[i]? = some (poi st)
  same : ∀ i, f i = none → a[i]? = b[i]? ∧ ∀ st, a[i]? = some st → NGst st
theorem Poi.get {f : Nat → Option GenState} {a b : Array GenState} {i : Nat} {st : GenState} (P : Poi f a b) (h : a[i]? = some st) : ∃ st', b[i]? = some st' ∧ st'.seen = st.seen := by
  cases e : f i with
  | none => exact ⟨st, by rw [← (P.same i e).1]; exact h, rfl⟩
  | some x =>
    obtain ⟨h1, h2, h3⟩ := P.fix i x e
    rw [h] at h3; cases h3
    exact ⟨x, h2, (poi_seen x).symm⟩
/-- what is no sleeping one -/
theorem Poi.awake {f : Nat → Option GenState} {a b : Array GenState} {i : Nat} {st : GenState} (P : Poi f a b) (h : a[i]? = some st) (n : susp st = false) : f i = none := by
  cases e : f i with
  | none => rfl
  | some x =>
    obtain ⟨h1, h2, h3⟩ := P.fix i x e
    rw [h] at h3; cases h3
    cases x <;> first | (have n' : true = false := n; exact absurd n' (by decide)) | (have n' : false = true := h1; exact absurd n' (by decide))
theorem Poi.set {f : Nat → Option GenState} {a b : Array GenState} {i : Nat} {st : GenState} (P : Poi f a b) (n : f i = none) (hst : NGst st) : Poi f (a.setIfInBounds i st) (b.setIfInBounds i st) := by
  refine ⟨by simp [P.size], fun j x hj => ?_, fun j hj => ?_⟩
  · have hne : i ≠ j := fun z => by rw [z] at n; rw [n] at hj; cases hj
    obtain ⟨h1, h2, h3⟩ := P.fix j x hj
    exact ⟨h1, by rw [Array.getElem?_setIfInBounds_ne hne]; exact h2, by rw [Array.getElem?_setIfInBounds_ne hne]; exact h3⟩
  · by_cases hij : i = j
    · subst hij
      refine ⟨by simp [Array.getElem?_setIfInBounds, P.size], fun x hx => ?_⟩
      rw [Array.getElem?_setIfInBounds] at hx
      split at hx
      · split at hx
        · cases hx; exact hst
        · cases hx
      · rename_i hh; exact absurd rfl hh
    · obtain ⟨h1, h2⟩ := P.same j hj
      refine ⟨by rw [Array.getElem?_setIfInBounds_ne hij, Array.getElem?_setIfInBounds_ne hij]; exact h1, fun x hx => ?_⟩
      rw [Array.getElem?_setIfInBounds_ne hij] at hx
      exact h2 x hx
theorem Poi.push {f : Nat → Option GenState} {a b : Array GenState} {c : Code} (P : Poi f a b) : Poi f (a.push (.fresh c)) (b.push (.fresh c)) := by
  refine ⟨by simp [P.size], fun j x hj => ?_, fun j hj => ?_⟩
  · obtain ⟨h1, h2, h3⟩ := P.fix j x hj
    have l1 : j < b.size := (Array.getElem?_eq_some_iff.mp h2).1
    have l2 : j < a.size := (Array.getElem?_eq_some_iff.mp h3).1
    exact ⟨h1, by rw [Array.getElem?_push, if_neg (Nat.ne_of_lt l1)]; exact h2, by rw [Array.getElem?_push, if_neg (Nat.ne_of_lt l2)]; exact h3⟩
  · obtain ⟨h1, h2⟩ := P.same j hj
    refine ⟨by rw [Array.getElem?_push, Array.getElem?_push, P.size, h1], fun x hx => ?_⟩
    rw [Array.getElem?_push] at hx
    split at hx
    · cases hx; trivial
    · exact h2 x hx
/-- the sleeping ones -/
def fixOf (b : Array GenState) (i : Nat) : Option GenState := (b[i]?).filter susp
/-- nothing that sleeps has changed -/
def Sleeps (a b : Array GenState) : Prop := ∀ (i : Nat) (st : GenState), a[i]? = some st → susp st = true → b[i]? = some st
theorem Sleeps.trans {a b c : Array GenState} (x : Sleeps a b) (y : Sleeps b c) : Sleeps a c := fun i st h n => y i st (x i st h n) n
theorem Poi.sleeps {b0 a b : Array GenState} (P : Poi (fixOf b0) a b) : Sleeps b0 b := fun i st h n => (P.fix i st (by unfold fixOf; rw [h, Option.filter_some, if_pos n])).2.1
end GP
namespace GP
open PySem PySem.Spec PyProof.Rows GenW
open Sem (wp)

/-! ### the heap never shrinks -/
theorem runs_hsz {M : Model} {Γ : PySem.Ctx} {p : Pos} {t : Sem PySem.Fin} {fs : List Frame} {s s' : Shared} {e : End} (h : Runs M Γ p t fs s e s') : s.heap.objs.size ≤ s'.heap.objs.size := by
  induction h <;> (try simp only [Shared.setGen, Heap.size_push, Heap.size_after_update] at *) <;> omega
theorem wakes_hsz {M : Model} {Γ : PySem.Ctx} {p : Pos} {g : Nat} {r : Resume} {s s' : Shared} {res : GenResult} (h : Wakes M Γ p g r s res s') : s.heap.objs.size ≤ s'.heap.objs.size := by
  unfold Wakes at h
  split at h
  · exact h.elim
  · split at h
    · obtain ⟨e₁, s₁, hr, _, _, rfl⟩ := h; exact (runs_hsz hr : (s.setGen g .running).heap.objs.size ≤ s₁.heap.objs.size)
    · rw [h.2]; exact Nat.le_refl _
    · rw [h.2]; exact Nat.le_refl _
  · obtain ⟨e₁, s₁, hr, _, _, rfl⟩ := h; exact (runs_hsz hr : (s.setGen g .running).heap.objs.size ≤ s₁.heap.objs.size)
  · rw [h.2]; exact Nat.le_refl _
  · rw [h.2]; exact Nat.le_refl _
theorem wp_hsz {α : Type} (M : Model) (Γ : PySem.Ctx) (n : Nat) (t : Sem α) : ∀ (Q : α → Pos → Shared → Prop) (E : Value → Pos → Shared → Prop) (p : Pos) (s : Shared), n ≤ s.heap.objs.size → wp M Γ t Q E p s →
    wp M Γ t (fun a p' s' => n ≤ s'.heap.objs.size ∧ Q a p' s') (fun e p' s' => n ≤ s'.heap.objs.size ∧ E e p' s') p s := by
  induction t with
  | unsupported | finish | register | yield | fork | await => exact fun _ _ _ _ _ h => h
  | pure | raise => exact fun _ _ _ _ hn h => ⟨hn, h⟩
  | rule _ _ ih | «at» _ _ ih | point _ _ ih => exact fun Q E _ _ hn h => ih () Q E _ _ hn h
  | loadIfAlive _ _ ih | ask _ ih | handled _ _ ih | stack _ ih | thread _ ih | os _ _ _ ih | newGen _ _ ih | fresh _ ih => exact fun Q E _ _ hn h => ih _ Q E _ _ hn h
  | load _ _ _ ih | genState _ _ ih => exact fun Q E _ _ hn ⟨x, e, h⟩ => ⟨x, e, ih _ Q E _ _ hn h⟩
  | choose _ _ _ ih => exact fun Q E _ _ hn ⟨x, h⟩ => ⟨x, ih _ Q E _ _ hn h⟩
  | call _ _ _ _ _ ih => exact fun Q E _ _ hn ⟨r, s', z, h⟩ => ⟨r, s', z, ih r Q E _ _ (Nat.le_trans hn (runs_hsz z)) h⟩
  | resume _ _ _ _ ih => exact fun Q E _ _ hn ⟨r, s', z, h⟩ => ⟨r, s', z, ih r Q E _ _ (Nat.le_trans hn (wakes_hsz z)) h⟩
  | update a _ f _ ih => exact fun Q E _ s hn ⟨x, h⟩ => ⟨x, ih () Q E _ _ (Eq.mp (congrArg (n ≤ ·) (Heap.size_after_update s.heap a f).symm) hn) h⟩
  | alloc o _ ih => exact fun Q E _ s hn h => ih _ Q E _ { s with heap := s.heap.push o } (Nat.le_trans hn (Nat.le_of_lt (by rw [Heap.size_push]; exact Nat.lt_succ_self _))) h
theorem wpAny_hsz {α : Type} {M : Model} {A : Around} {s : Shared} {t : Sem α} {Q : α → Shared → Prop} {E : Value → Shared → Prop}
    (h : wpAny M A t (fun a s' => s.heap.objs.size ≤ s'.heap.objs.size → Q a s') E s) : wpAny M A t Q E s :=
  wpAny_mono (fun Γ p hΓ => wp_hsz M Γ _ t _ _ p s (Nat.le_refl _) (h Γ p hΓ) : wpAny M A t (fun a s' => s.heap.objs.size ≤ s'.heap.objs.size ∧ (s.heap.objs.size ≤ s'.heap.objs.size → Q a s')) (fun e s' => s.heap.objs.size ≤ s'.heap.objs.size ∧ E e s') s)
    (fun _ _ x => x.2 x.1) fun _ _ x => x.2

/-! ### a generator's code from one waking to the next halt -/
def Sg (M : Model) (A : Around) (Φ : End → Shared → Prop) (c : Code) (t : Sem PySem.Fin) (fs : List Frame) (s : Shared) : Prop :=
  ∀ Γ p, Γ.code = c → Γ.Woken A → ∃ e s', Runs M Γ p t fs s e s' ∧ Φ e s'
section
variable {M : Model} {A : Around} {Φ : End → Shared → Prop} {c : Code} {fs : List Frame} {s : Shared}
theorem sg_wrap {α : Type} {m : Sem α} {K : α → Sem PySem.Fin} {H : Value → Sem PySem.Fin} {gd : Bool → Bool} {lv : List Value → List Value}
    (h : wpAny M (A.over c fs) m (fun a s' => Sg M A Φ c (K a) fs s') (fun x s' => Sg M A Φ c (H x) fs s') s) :
    Sg M A Φ c (m.wrap K H gd lv) fs s := by
  rintro Γ p rfl hΓ
  exact runs_wrap_of_wp K H gd lv m (h (Γ.over fs) p (hΓ.over fs)) (fun a p' s' h' => h' Γ p' rfl hΓ) (fun x p' s' h' => h' Γ p' rfl hΓ)
theorem sg_at {p' : Pos} {k : Unit → Sem PySem.Fin} (h : Sg M A Φ c (k ()) fs s) : Sg M A Φ c (.at p' k) fs s :=
  sg_wrap (m := standAt p') (K := k) (H := .raise) (gd := id) (lv := id) (wpAny_standAt h)
theorem sg_point {l : List Value} {k : Unit → Sem PySem.Fin} (h : Sg M A Φ c (k ()) fs s) : Sg M A Φ c (.point l k) fs s :=
  sg_wrap (m := point) (K := k) (H := .raise) (gd := id) (lv := fun _ => l) (wpAny_point h)
theorem sg_call {c' : Code} {h : Option Value} {g : Bool} {l : List Value} {k : Result → Sem PySem.Fin} (hc : ∀ p, Sg M A Φ c' (M.den c') (.ret k h g l c p [] :: fs) s) :
    Sg M A Φ c (.call c' h g l k) fs s := by
  rintro Γ p rfl hΓ
  obtain ⟨e, s', hr, he⟩ := hc p (Γ.goto c') p rfl (hΓ.goto c')
  exact ⟨e, s', runs_call_seg hr, he⟩
theorem sg_leaf {k h g l c₁ p₁ kp} (r : Result) (hk : Sg M A Φ c₁ (k r) fs s) : Sg M A Φ c (leafOf r) (.ret k h g l c₁ p₁ kp :: fs) s := by
  rintro Γ p rfl hΓ
  obtain ⟨e, s', hr, he⟩ := hk (Γ.goto c₁) p₁ rfl (hΓ.goto c₁)
  exact ⟨e, s', Runs.pop r hr, he⟩
theorem sg_again {c' : Code} (hq : c'.quiet = true) (hc : Sg M A Φ c' (M.den c') fs s) : Sg M A Φ c (.pure (.again c')) fs s := by
  rintro Γ p rfl hΓ
  obtain ⟨e, s', hr, he⟩ := hc (Γ.goto c') p rfl (hΓ.goto c')
  exact ⟨e, s', Runs.head (c₁ := c') (fun _ _ x => .again hq x) hr, he⟩
theorem sg_end (r : Result) (h : Φ (.ret r) s) : Sg M A Φ c (leafOf r) [] s := by
  rintro Γ p rfl _
  exact ⟨.ret r, s, Runs.leaf r, h⟩
theorem sg_yield {v : Value} {l : List Value} {k : Resume → Sem PySem.Fin} (hfs : splitAtGen fs = none) (h : ∀ p, Φ (.susp v false l k c p fs) s) : Sg M A Φ c (.yield v false l k) fs s := by
  rintro Γ p rfl _
  exact ⟨_, s, Runs.yield' fs hfs, h p⟩
theorem sg_execs_one {env : Env} {st : Stmt} {K : Flow → Sem PySem.Fin} {H : Value → Sem PySem.Fin} {gd : Bool → Bool} {lv : List Value → List Value} (h : Sg M A Φ c ((exec st env).wrap K H gd lv) fs s) : Sg M A Φ c ((execs [st] env).wrap K H gd lv) fs s := by
  rw [execs_cons_wrap, Sem.wrap_congr _ gd lv (K' := K) (H' := H) (fun f => by cases f <;> rfl) (fun _ => rfl)]
  exact h
end

/-! ### the state of a generator that walks nested tuples -/
/-- since it was woken: the state then, its own things then -/
structure Ph where
  s : Shared
  own : List Addr
structure Mv (ph : Ph) (s : Shared) : Prop where
  os : s.os = ph.s.os
  gens : s.gens = ph.s.gens
  keep : ∀ b o, ph.s.heap.get? b = some o → b ∉ ph.own → s.heap.get? b = some o
  sz : ph.s.heap.objs.size ≤ s.heap.objs.size
/-- the base's heap, the tuple -/
structure Gb where
  bh : Heap
  t : Addr
  its : Array Value
structure GSt (G : Gb) (L : Addr) (ph : Ph) (m : Str → Option Value) (il : List (Addr × Nat)) (s : Shared) : Prop where
  mv : Mv ph s
  bs : ∀ b o, G.bh.get? b = some o → s.heap.get? b = some o
  ns : s.heap.Ns L m
  it : ∀ p ∈ il, s.heap.IsTupleIter p.1 G.t p.2
  own : ∀ b ∈ L :: il.map (·.1), (b ∈ ph.own ∨ ph.s.heap.objs.size ≤ b) ∧ G.bh.get? b = none
  nd : (L :: il.map (·.1)).Nodup
section
variable {G : Gb} {L : Addr} {ph : Ph} {m : Str → Option Value} {il : List (Addr × Nat)} {s : Shared}
theorem GSt.lt (x : GSt G L ph m il s) {b : Addr} (hb : b ∈ L :: il.map (·.1)) : b < s.heap.objs.size := by
  rcases List.mem_cons.mp hb with e | e
  · rw [e]; exact x.ns.lt
  · obtain ⟨p, hp, rfl⟩ := List.mem_map.mp e
    obtain ⟨o, e, _⟩ := x.it p hp
    exact Heap.lt_size e
/-- nothing changed but tokens and new things -/
theorem GSt.kept (x : GSt G L ph m il s) {h' : Heap} {tk : Nat} (k : ∀ b o, s.heap.get? b = some o → h'.get? b = some o) (z : s.heap.objs.size ≤ h'.objs.size) : GSt G L ph m il { s with heap := h', toks := tk } where
  mv := ⟨x.mv.os, x.mv.gens, fun b o e n => k b o (x.mv.keep b o e n), Nat.le_trans x.mv.sz z⟩
  bs := fun b o e => k b o (x.bs b o e)
  ns := x.ns.keeps k
  it := fun p hp => (x.it p hp).at fun o e => k _ o e
  own := x.own
  nd := x.nd
/-- the names' dict changes -/
theorem GSt.store (x : GSt G L ph m il s) {h' : Heap} {m' : Str → Option Value} {tk : Nat} (n : h'.Ns L m') (k : Heap.ExtBut L s.heap h') (z : s.heap.objs.size ≤ h'.objs.size) : GSt G L ph m' il { s with heap := h', toks := tk } := by
  have hL := x.own L List.mem_cons_self
  have ne : ∀ p ∈ il, p.1 ≠ L := fun p hp e => (List.nodup_cons.mp x.nd).1 (List.mem_map.mpr ⟨p, hp, e⟩)
  refine ⟨⟨x.mv.os, x.mv.gens, fun b o e n2 => k b o ?_ (x.mv.keep b o e n2), Nat.le_trans x.mv.sz z⟩, fun b o e => k b o (fun z => by rw [z, hL.2] at e; cases e) (x.bs b o e), n, fun p hp => (x.it p hp).at fun o e => k _ o (ne p hp) e, x.own, x.nd⟩
  rintro rfl
  rcases hL.1 with z | z
  · exact n2 z
  · exact absurd (Nat.lt_of_lt_of_le (Heap.lt_size e) z) (Nat.lt_irrefl _)
/-- an iterator turns -/
theorem GSt.turn {a : Addr} {i j : Nat} (x : GSt G L ph m ((a, i) :: il) s) {h' : Heap} {tk : Nat} (n : h'.IsTupleIter a G.t j) (k : Heap.ExtBut a s.heap h') (z : s.heap.objs.size ≤ h'.objs.size) : GSt G L ph m ((a, j) :: il) { s with heap := h', toks := tk } := by
  have ha := x.own a (List.mem_cons_of_mem _ List.mem_cons_self)
  have nd := x.nd
  simp only [List.map_cons, List.nodup_cons, List.mem_cons, not_or] at nd
  refine ⟨⟨x.mv.os, x.mv.gens, fun b o e n2 => k b o ?_ (x.mv.keep b o e n2), Nat.le_trans x.mv.sz z⟩, fun b o e => k b o (fun z => by rw [z, ha.2] at e; cases e) (x.bs b o e), x.ns.extBut k nd.1.1, fun p hp => ?_, x.own, x.nd⟩
  · rintro rfl
    rcases ha.1 with z | z
    · exact n2 z
    · exact absurd (Nat.lt_of_lt_of_le (Heap.lt_size e) z) (Nat.lt_irrefl _)
  · rcases List.mem_cons.mp hp with e | e
    · subst e; exact n
    · refine (x.it p (List.mem_cons_of_mem _ e)).at fun o e2 => k _ o (fun z => nd.2.1 (List.mem_map.mpr ⟨p, e, z⟩)) e2
/-- an iterator is through -/
theorem GSt.drop {a : Addr} {i : Nat} (x : GSt G L ph m ((a, i) :: il) s) {h' : Heap} {tk : Nat} (k : Heap.ExtBut a s.heap h') (z : s.heap.objs.size ≤ h'.objs.size) : GSt G L ph m il { s with heap := h', toks := tk } := by
  have ha := x.own a (List.mem_cons_of_mem _ List.mem_cons_self)
  have nd := x.nd
  simp only [List.map_cons, List.nodup_cons, List.mem_cons, not_or] at nd
  refine ⟨⟨x.mv.os, x.mv.gens, fun b o e n2 => k b o ?_ (x.mv.keep b o e n2), Nat.le_trans x.mv.sz z⟩, fun b o e => k b o (fun z => by rw [z, ha.2] at e; cases e) (x.bs b o e), x.ns.extBut k nd.1.1, fun p hp => ?_, fun b hb => x.own b ?_, ?_⟩
  · rintro rfl
    rcases ha.1 with z | z
    · exact n2 z
    · exact absurd (Nat.lt_of_lt_of_le (Heap.lt_size e) z) (Nat.lt_irrefl _)
  · refine (x.it p (List.mem_cons_of_mem _ hp)).at fun o e2 => k _ o (fun z => nd.2.1 (List.mem_map.mpr ⟨p, hp, z⟩)) e2
  · rcases List.mem_cons.mp hb with e | e
    · rw [e]; exact List.mem_cons_self
    · exact List.mem_cons_of_mem _ (List.mem_cons_of_mem _ e)
  · exact List.nodup_cons.mpr ⟨nd.1.2, nd.2.2⟩
/-- a new iterator -/
theorem GSt.made (x : GSt G L ph m il s) : GSt G L ph m ((s.heap.objs.size, 0) :: il) { s with heap := s.heap.push { cls := .type "tuple_iterator", data := .fields #[.ref G.t, .int 0 0] } } := by
  have y := x.kept (h' := s.heap.push { cls := .type "tuple_iterator", data := .fields #[.ref G.t, .int 0 0] }) (tk := s.toks) (fun b o e => Heap.get?_push_of_some _ e) (by rw [Heap.size_push]; omega)
  have hb : ∀ b o, G.bh.get? b = some o → b < s.heap.objs.size := fun b o e => Heap.lt_size (x.bs b o e)
  have fresh : ∀ {h : Heap}, (∀ b o, h.get? b = some o → b < s.heap.objs.size) → h.get? s.heap.objs.size = none := fun {h} k => by
    cases e : h.get? s.heap.objs.size with
    | none => rfl
    | some o => exact absurd (k _ o e) (Nat.lt_irrefl _)
  refine ⟨y.mv, y.bs, y.ns, fun p h => ?_, fun b h => ?_, ?_⟩
  · rcases List.mem_cons.mp h with e | e
    · subst e; exact ⟨_, Heap.get?_push_size _ rfl, rfl, rfl⟩
    · exact y.it p e
  · rcases List.mem_cons.mp h with e | e
    · rw [e]; exact x.own L List.mem_cons_self
    · rcases List.mem_cons.mp e with e | e
      · rw [e]; exact ⟨.inr x.mv.sz, fresh hb⟩
      · exact x.own b (List.mem_cons_of_mem _ e)
  · have n := x.nd
    rw [List.nodup_cons] at n ⊢
    refine ⟨fun h => ?_, List.nodup_cons.mpr ⟨fun h => ?_, n.2⟩⟩
    · rcases List.mem_cons.mp h with e | e
      · exact absurd x.ns.lt (by rw [e]; exact Nat.lt_irrefl _)
      · exact n.1 e
    · exact absurd (x.lt (List.mem_cons_of_mem _ h)) (Nat.lt_irrefl _)
end
/-! ### for over a tuple, in a generator -/
section
variable {M : Model} {A : Around} {Φ : End → Shared → Prop} {c : Code} {fs : List Frame} {s : Shared} {env : Env}
theorem sg_bind_wrap {α β : Type} {m : Sem α} {K : α → Sem β} {K' : β → Sem PySem.Fin} {H' : Value → Sem PySem.Fin} {gd : Bool → Bool} {lv : List Value → List Value}
    (h : wpAny M (A.over c fs) m (fun a s' => Sg M A Φ c ((K a).wrap K' H' gd lv) fs s') (fun x s' => Sg M A Φ c (H' x) fs s') s) : Sg M A Φ c ((m >>= K).wrap K' H' gd lv) fs s := by
  rw [Sem.bind_eq_wrap', Sem.wrap_wrap]; exact sg_wrap h
/-- what a loop's call does with an exception that comes back -/
def retK (env : Env) (K : Flow → Sem PySem.Fin) (H : Value → Sem PySem.Fin) (gd : Bool → Bool) (lv : List Value → List Value) : Result → Sem PySem.Fin := fun r => ((match r with | .ok f => (.pure f : Sem Flow) | .error e => .raise e).onRaise fun (x : Value) => do
        if (← field x 1) == Value.none then unsupported "frame.own-activation:exception-without-traceback"
        setFlight x env.frame).wrap K H gd lv
theorem sg_For {tgt iter : Expr} {body : List Stmt} {pos : Pos} {K : Flow → Sem PySem.Fin} {H : Value → Sem PySem.Fin} {gd : Bool → Bool} {lv : List Value → List Value}
    (h : wpAny M (A.over c fs) (eval iter env) (fun x s1 => wpAny M (A.over c fs) (pyIter x) (fun it s2 => ∀ p, Sg M A Φ (.forLoop tgt it body [] env) (M.den (.forLoop tgt it body [] env)) (.ret (retK env K H gd lv) none (gd false) (lv []) c p [] :: fs) s2) (fun _ _ => False) s1) (fun _ _ => False) s)
    (hs : ∀ x, foldedSetIterable iter env x = pure x := by intro _; rfl) : Sg M A Φ c ((exec (.For tgt iter body [] pos) env).wrap K H gd lv) fs s := by
  rw [exec_For]
  refine sg_bind_wrap (wpAny_standAt ?_)
  refine sg_bind_wrap (wpAny_mono h (fun x s1 h1 => ?_) fun _ _ z => z.elim)
  refine sg_bind_wrap (wpAny_of_eq (hs x) ?_)
  refine sg_bind_wrap (wpAny_standAt ?_)
  refine sg_bind_wrap (wpAny_holding (wpAny_mono h1 (fun it s2 h2 => ?_) fun _ _ z => z.elim))
  exact sg_call h2
end
section
variable {prog : Program} {w : World} {A : Around} {Φ : End → Shared → Prop} {fs : List Frame} {s : Shared} {env : Env}
/-- what a turn's body leaves -/
def turnK (c : Code) : Flow → Sem PySem.Fin := fun f => match f with
  | .next | .cont => .pure (.again c)
  | .brk => .pure (.done .next)
  | .ret v => .pure (.done (.ret v))
def turnH (env : Env) : Value → Sem PySem.Fin := fun e => (do noteFrame e env; theTreesLotGoes e : Sem Unit).wrap (fun _ => .raise e) .raise id id
theorem sg_forLoop {x : Str} {px : Pos} {it : Value} {body : List Stmt}
    (h : wpAny (model prog w) (A.over (.forLoop (.Name x px) it body [] env) fs) (pyNext it) (fun r s1 => match r with
      | none => Sg (model prog w) A Φ (.block [] env) (.pure (.done .next)) fs s1
      | some v => wpAny (model prog w) (A.over (.forLoop (.Name x px) it body [] env) fs) (storeName env x v) (fun _ s2 =>
          Sg (model prog w) A Φ (.forLoop (.Name x px) it body [] env) ((execs body env).wrap (turnK (.forLoop (.Name x px) it body [] env)) (turnH env) id id) fs s2) (fun _ _ => False) s1) (fun _ _ => False) s) :
    Sg (model prog w) A Φ (.forLoop (.Name x px) it body [] env) ((model prog w).den (.forLoop (.Name x px) it body [] env)) fs s := by
  show Sg _ A Φ _ ((forTurn (.Name x px) it body [] env).onRaise (fun x => do noteFrame x env; theTreesLotGoes x)) fs s
  unfold forTurn
  rw [Sem.onRaise_eq_wrap]
  refine sg_bind_wrap (wpAny_standAt ?_)
  refine sg_bind_wrap (wpAny_onRaise (wpAny_mono h (fun r s1 h1 => ?_) fun _ _ z => z.elim))
  cases r with
  | none => exact sg_again rfl h1
  | some v =>
    refine sg_bind_wrap (wpAny_pure ?_)
    refine sg_bind_wrap (wpAny_assign_Name (wpAny_mono h1 (fun _ s2 h2 => ?_) fun _ _ z => z.elim))
    rw [Sem.bind_eq_wrap', Sem.wrap_wrap]
    rw [Sem.wrap_congr (execs body env) _ _ (K' := turnK (.forLoop (.Name x px) it body [] env)) (H' := turnH env) (fun f => by cases f <;> rfl)
      (fun e => by first | exact Sem.bind_eq_wrap _ _ | (show (do noteFrame e env; theTreesLotGoes e : Sem Unit).bind (fun _ => .raise e) = _; rw [Sem.bind_eq_wrap]; rfl))]
    exact h2
end
end GP
namespace GP
open PySem PySem.Spec PyProof.Rows GenW
open Sem (wp)

section
variable {M : Model} {A : Around} {Φ : End → Shared → Prop} {c : Code} {fs : List Frame} {s : Shared} {env : Env} {K : Flow → Sem PySem.Fin} {H : Value → Sem PySem.Fin} {gd : Bool → Bool} {lv : List Value → List Value}
theorem sg_Yield {e : Expr} {ypos pos : Pos} (hfs : splitAtGen fs = none) (hgd : gd false = false)
    (h : wpAny M (A.over c fs) (eval e env) (fun v s' => ∀ p l k, (∀ (Φ' : End → Shared → Prop) (s'' : Shared), Sg M A Φ' c (K .next) fs s'' → Sg M A Φ' c (k (.send .none)) fs s'') → Φ (.susp v false l k c p fs) s') (fun _ _ => False) s)
    (hco : env.scope.isCoroutine = false) (hi : interactive env = false) : Sg M A Φ c ((exec (.Expr (.Yield (some e) ypos) pos) env).wrap K H gd lv) fs s := by
  rw [exec_Expr env _ pos hi rfl]
  show Sg M A Φ c (.at pos fun _ => ((eval e env >>= fun v => (standAt ypos >>= fun _ => yieldOut env v)) >>= fun x =>
    dropValue (.Yield (some e) ypos) pos x).wrap K H gd lv) fs s
  have hy : ∀ v, yieldOut env v = yieldValue v := fun v => by simp only [yieldOut, hco, Bool.false_eq_true, if_false]
  simp only [hy]
  refine sg_at ?_
  rw [Sem.bind_eq_wrap', Sem.bind_eq_wrap', Sem.wrap_wrap, Sem.wrap_wrap]
  refine sg_wrap (wpAny_mono h (fun v s' h' => ?_) fun _ _ x => x.elim)
  refine sg_at ?_
  show Sg M A Φ c (.yield v (gd false) (lv _) _) fs s'
  rw [hgd]
  exact sg_yield hfs fun p => h' p _ _ fun Φ' s'' z => z
end

/-! ### all_rows -/
structure ArEnv (G : Gb) (env : Env) : Prop where
  kind : env.scope.kind = .function
  n1 : env.kindOf "first" = some .local
  n2 : env.kindOf "second" = some .local
  n3 : env.kindOf "third" = some .local
  nv : env.kindOf "VALUES" = some .globalImplicit
  glob : ∃ mg, G.bh.Ns env.globals mg ∧ mg "VALUES" = some (.ref G.t)
  tup : G.bh.IsTuple G.t G.its
  size : G.its.size = 4
  co : env.scope.isCoroutine = false
  ia : interactive env = false
/-- the row that is due when r are left -/
def Row (its : Array Value) (r : Nat) (h : Heap) (q : Addr) : Prop := ∃ i j k a b c, i < 4 ∧ j < 4 ∧ k < 4 ∧ r + 16 * i + 4 * j + k = 64 ∧ its[i]? = some a ∧ its[j]? = some b ∧ its[k]? = some c ∧ h.IsTuple q #[a, b, c]
def Phi (M : Model) (A : Around) (G : Gb) : Nat → Ph → End → Shared → Prop
  | 0, ph, e, s' => e = .ret (.ok (.ret .none)) ∧ Mv ph s'
  | r + 1, ph, e, s' => ∃ q l k c p fs, e = .susp (.ref q) false l k c p fs ∧ fs.any Frame.guarded = false ∧ Mv ph s' ∧ Row G.its (r + 1) s'.heap q ∧ ph.s.heap.objs.size ≤ q ∧
      ∃ pins : List (Addr × Obj), (∀ p ∈ pins, s'.heap.get? p.1 = some p.2 ∧ (p.1 ∈ ph.own ∨ ph.s.heap.objs.size ≤ p.1) ∧ (∀ v, p.2.data ≠ .cell v) ∧ p.1 ≠ q) ∧
        ∀ s'' : Shared, (∀ p ∈ pins, s''.heap.get? p.1 = some p.2) → (∀ b o, G.bh.get? b = some o → s''.heap.get? b = some o) → Sg M A (Phi M A G r ⟨s'', pins.map (·.1)⟩) c (k (.send .none)) fs s''
section
variable {prog : Program} {w : World} {A : Around} {G : Gb} {env : Env} {L : Addr}
/-- one loop over the tuple: J of the turn, of what is left and of the names -/
theorem sg_loop {x : Str} {px : Pos} {it : Addr} {body : List Stmt} {fs : List Frame} {il : List (Addr × Nat)} (hL : env.locals = L) (hk : env.scope.kind = .function) (hx : env.kindOf x = some .local) (ht : G.bh.IsTuple G.t G.its) (h4 : G.its.size = 4)
    (hh : (A.over (.forLoop (.Name x px) (.ref it) body [] env) fs).handled = none) (J : Nat → Nat → (Str → Option Value) → Prop)
    (step : ∀ i v r m ph s, i < 4 → G.its[i]? = some v → J i r m → GSt G L ph (fun y => if y = x then some v else m y) ((it, i + 1) :: il) s →
      (∀ r' m' ph' s', J (i + 1) r' m' → GSt G L ph' m' ((it, i + 1) :: il) s' → Sg (model prog w) A (Phi (model prog w) A G r' ph') (.forLoop (.Name x px) (.ref it) body [] env) (.pure (.again (.forLoop (.Name x px) (.ref it) body [] env))) fs s') →
      Sg (model prog w) A (Phi (model prog w) A G r ph) (.forLoop (.Name x px) (.ref it) body [] env) ((execs body env).wrap (turnK (.forLoop (.Name x px) (.ref it) body [] env)) (turnH env) id id) fs s)
    (done : ∀ r m ph s, J 4 r m → GSt G L ph m il s → Sg (model prog w) A (Phi (model prog w) A G r ph) (.block [] env) (.pure (.done .next)) fs s) :
    ∀ (q i r : Nat) (m : Str → Option Value) (ph : Ph) (s : Shared), i + q = 4 → J i r m → GSt G L ph m ((it, i) :: il) s →
      Sg (model prog w) A (Phi (model prog w) A G r ph) (.forLoop (.Name x px) (.ref it) body [] env) ((model prog w).den (.forLoop (.Name x px) (.ref it) body [] env)) fs s := by
  intro q
  induction q with
  | zero =>
    intro i r m ph s hi hJ hG
    have hi4 : i = 4 := by omega
    subst hi4
    have hit := hG.it _ List.mem_cons_self
    obtain ⟨o, ho, hoc⟩ := ht
    refine sg_forLoop (wpAny_hsz (wpAny_pyNext_tuple_end hh hit ⟨o, hG.bs _ _ ho, hoc⟩ (by rw [Array.getElem?_eq_none]; omega) fun h' hb => fun z => ?_))
    exact done r m ph _ hJ (hG.drop (tk := s.toks) hb z)
  | succ q ih =>
    intro i r m ph s hi hJ hG
    have hi4 : i < 4 := by omega
    have hit := hG.it _ List.mem_cons_self
    obtain ⟨o, ho, hoc⟩ := ht
    obtain ⟨v, hv⟩ : ∃ v, G.its[i]? = some v := ⟨G.its[i]'(by omega), Array.getElem?_eq_getElem _⟩
    refine sg_forLoop (wpAny_pyNext_tuple_item hit ⟨o, hG.bs _ _ ho, hoc⟩ hv fun h' hit' hb => ?_)
    have hG1 := hG.turn (tk := s.toks) hit' hb.extBut (Nat.le_of_eq hb.1.symm)
    refine wpAny_storeName_local hx (m := m) (by rw [hL]; exact hG1.ns) (fun h2 hn hb2 => ?_) (by rw [hk]; rfl)
    rw [hL] at hn hb2
    exact step i v r m ph _ hi4 hv hJ (hG1.store hn hb2.extBut (Nat.le_of_eq hb2.1.symm)) fun r' m' ph' s' hJ' hG' => sg_again rfl (ih (i + 1) r' m' ph' s' (by omega) hJ' hG')
theorem GSt.glob {ph : Ph} {m : Str → Option Value} {il : List (Addr × Nat)} {s : Shared} (x : GSt G L ph m il s) (E : ArEnv G env) {A : Around} {M : Model} {px : Pos} {Q : Value → Shared → Prop} {Ex : Value → Shared → Prop} (h : Q (.ref G.t) s) : wpAny M A (eval (.Name "VALUES" px) env) Q Ex s := by
  obtain ⟨mg, hg, hv⟩ := E.glob
  exact Calls.Name_function_global E.kind E.nv (Calls.loadGlobal_global (hg.keeps x.bs) hv h)
theorem GSt.local_ {ph : Ph} {m : Str → Option Value} {il : List (Addr × Nat)} {s : Shared} (x : GSt G L ph m il s) (E : ArEnv G env) (hL : env.locals = L) {A : Around} {M : Model} {y : Str} {v : Value} {px : Pos} {Q : Value → Shared → Prop} {Ex : Value → Shared → Prop} (hk : env.kindOf y = some .local) (hm : m y = some v) (h : Q v s) (hd : (y == ("__debug__" : Str)) = false := by decide) : wpAny M A (eval (.Name y px) env) Q Ex s :=
  wpAny_Name (wpAny_loadName_local E.kind hk (by rw [hL]; exact x.ns) hm h) hd
/-- a loop over VALUES is begun -/
theorem sg_begin {x : Str} {px pv pos : Pos} {body : List Stmt} {c : Code} {fs : List Frame} {K : Flow → Sem PySem.Fin} {H : Value → Sem PySem.Fin} {m : Str → Option Value} {il : List (Addr × Nat)} {s : Shared} {ph : Ph} {Φ : End → Shared → Prop} (E : ArEnv G env) (hG : GSt G L ph m il s)
    (h : ∀ it s', GSt G L ph m ((it, 0) :: il) s' → ∀ p, Sg (model prog w) A Φ (.forLoop (.Name x px) (.ref it) body [] env) ((model prog w).den (.forLoop (.Name x px) (.ref it) body [] env)) (.ret (retK env K H id id) none false [] c p [] :: fs) s') :
    Sg (model prog w) A Φ c ((execs [.For (.Name x px) (.Name "VALUES" pv) body [] pos] env).wrap K H id id) fs s := by
  refine sg_execs_one (sg_For (hG.glob E ?_))
  obtain ⟨o, ho, hoc⟩ := E.tup
  refine wpAny_pyIter_tuple ⟨o, hG.bs _ _ ho, hoc⟩ ?_
  exact h _ _ hG.made
theorem sg_row {c : Code} {fs : List Frame} {a1 a2 a3 py pe pt : Pos} {x1 : Nat} {K : Flow → Sem PySem.Fin} {H : Value → Sem PySem.Fin} {m : Str → Option Value} {il : List (Addr × Nat)} {s : Shared} {ph : Ph} (E : ArEnv G env) (hL : env.locals = L) (hG : GSt G L ph m il s) {i j k r : Nat} {u v z : Value}
    (hi : i < 4) (hj : j < 4) (hk : k < 4) (hr : r + 1 + 16 * i + 4 * j + k = 64) (e1 : G.its[i]? = some u) (e2 : G.its[j]? = some v) (e3 : G.its[k]? = some z) (m1 : m "first" = some u) (m2 : m "second" = some v) (m3 : m "third" = some z)
    (hsp : splitAtGen fs = none) (hgd : fs.any Frame.guarded = false)
    (h : ∀ ph' s', GSt G L ph' m il s' → Sg (model prog w) A (Phi (model prog w) A G r ph') c (K .next) fs s') :
    Sg (model prog w) A (Phi (model prog w) A G (r + 1) ph) c ((execs [.Expr (.Yield (some (.Tuple [.Name "first" a1, .Name "second" a2, .Name "third" a3] x1 pt)) py) pe] env).wrap K H id id) fs s := by
  refine sg_execs_one (sg_Yield hsp rfl (wpAny_Tuple_spliced ?_) E.co E.ia)
  refine Calls.spliced_cons (hG.local_ E hL E.n1 m1 ?_)
  refine Calls.spliced_cons (hG.local_ E hL E.n2 m2 ?_)
  refine Calls.spliced_cons (hG.local_ E hL E.n3 m3 ?_)
  refine Calls.spliced_nil ⟨(show 3 ≤ sizeLine by decide), fun p l kk hkk => ?_⟩
  have hG1 := hG.kept (h' := s.heap.push { cls := .type "tuple", data := .seq #[u, v, z] }) (tk := s.toks) (fun b o e => Heap.get?_push_of_some _ e) (by rw [Heap.size_push]; omega)
  refine ⟨s.heap.objs.size, l, kk, c, p, fs, rfl, hgd, hG1.mv, ⟨i, j, k, u, v, z, hi, hj, hk, hr, e1, e2, e3, ⟨_, Heap.get?_push_size _ rfl, rfl, _, rfl⟩⟩, hG.mv.sz, ?_⟩
  -- its own things, as they stand
  have objs : ∀ b ∈ L :: il.map (·.1), ∃ o, (s.heap.push { cls := .type "tuple", data := .seq #[u, v, z] }).get? b = some o ∧ ∀ v, o.data ≠ .cell v := fun b hb => by
    rcases List.mem_cons.mp hb with e | e
    · obtain ⟨o, es, ep, ho, hd, _⟩ := hG1.ns
      rw [e]; exact ⟨o, ho, fun v z => by rw [hd] at z; cases z⟩
    · obtain ⟨p, hp, rfl⟩ := List.mem_map.mp e
      obtain ⟨o, ho, _, hd⟩ := hG1.it p hp
      exact ⟨o, ho, fun v z => by rw [hd] at z; cases z⟩
  refine ⟨(L :: il.map (·.1)).filterMap fun b => ((s.heap.push { cls := .type "tuple", data := .seq #[u, v, z] }).get? b).map fun o => (b, o), fun p hp => ?_, fun s'' hpin hbase => ?_⟩
  · obtain ⟨b, hb, e⟩ := List.mem_filterMap.mp hp
    obtain ⟨o, ho, hd⟩ := objs b hb
    rw [ho] at e
    cases e
    exact ⟨ho, (hG1.own b hb).1, hd, Nat.ne_of_lt (hG.lt hb)⟩
  · have hown : ∀ b ∈ L :: il.map (·.1), b ∈ ((L :: il.map (·.1)).filterMap fun b => ((s.heap.push { cls := .type "tuple", data := .seq #[u, v, z] }).get? b).map fun o => (b, o)).map (·.1) := fun b hb => by
      obtain ⟨o, ho, _⟩ := objs b hb
      exact List.mem_map.mpr ⟨(b, o), List.mem_filterMap.mpr ⟨b, hb, by rw [ho]; rfl⟩, rfl⟩
    have hsame : ∀ b ∈ L :: il.map (·.1), ∀ o, (s.heap.push { cls := .type "tuple", data := .seq #[u, v, z] }).get? b = some o → s''.heap.get? b = some o := fun b hb o e => hpin (b, o) (List.mem_filterMap.mpr ⟨b, hb, by rw [e]; rfl⟩)
    refine hkk _ s'' (h _ s'' ⟨⟨rfl, rfl, fun _ _ e _ => e, Nat.le_refl _⟩, hbase, hG1.ns.at' fun o e => hsame L List.mem_cons_self o e, fun p hp => (hG1.it p hp).at fun o e => hsame p.1 (List.mem_cons_of_mem _ (List.mem_map.mpr ⟨p, hp, rfl⟩)) o e, fun b hb => ⟨.inl (hown b hb), (hG1.own b hb).2⟩, hG1.nd⟩)
/-- THE BODY -/
theorem ar_body {x1 : Nat} {p1 p2 p3 q1 q2 q3 o1 o2 o3 a1 a2 a3 py pe pt : Pos} (E : ArEnv G env) (hL : env.locals = L) (hh : A.handled = none) {m : Str → Option Value} {s : Shared} {ph : Ph} (hG : GSt G L ph m [] s) :
    Sg (model prog w) A (Phi (model prog w) A G 64 ph) (.func [.For (.Name "first" p1) (.Name "VALUES" q1) [.For (.Name "second" p2) (.Name "VALUES" q2) [.For (.Name "third" p3) (.Name "VALUES" q3)
      [.Expr (.Yield (some (.Tuple [.Name "first" a1, .Name "second" a2, .Name "third" a3] x1 pt)) py) pe] [] o3] [] o2] [] o1] env)
      ((model prog w).den (.func [.For (.Name "first" p1) (.Name "VALUES" q1) [.For (.Name "second" p2) (.Name "VALUES" q2) [.For (.Name "third" p3) (.Name "VALUES" q3)
      [.Expr (.Yield (some (.Tuple [.Name "first" a1, .Name "second" a2, .Name "third" a3] x1 pt)) py) pe] [] o3] [] o2] [] o1] env)) [] s := by
  show Sg _ A _ _ (.point [] fun _ => ((execs _ env).onRaise (leaving env)) >>= _) [] s
  refine sg_point ?_
  rw [Sem.onRaise_eq_wrap, Sem.bind_eq_wrap', Sem.wrap_wrap]
  rw [Sem.wrap_congr (execs _ env) _ _ (K' := fun f => .pure (.done (.ret (match f with | .ret v => v | _ => .none))))
    (H' := fun e => (leaving env e).wrap (fun _ => .raise e) .raise id id) (fun f => by cases f <;> rfl)
    (fun e => by rw [Sem.bind_eq_wrap, Sem.wrap_wrap]; rfl)]
  refine sg_begin E hG fun it1 s1 hG1 pp1 => ?_
  refine sg_loop (il := []) hL E.kind E.n1 E.tup E.size (by exact hh) (fun i r m => r + 16 * i = 64) (fun i v r m ph s hi hv hJ hG back => ?_) (fun r m ph s hJ hG => ?_) 4 0 64 m ph s1 rfl rfl hG1
  · refine sg_begin E hG fun it2 s2 hG2 pp2 => ?_
    refine sg_loop (il := [(it1, i + 1)]) hL E.kind E.n2 E.tup E.size (by exact hh) (fun j r m => r + 16 * i + 4 * j = 64 ∧ m "first" = some v) (fun j v2 r m ph s hj hv2 hJ hG back2 => ?_) (fun r m ph s hJ hG => ?_) 4 0 r _ ph s2 rfl ⟨hJ, by rw [if_pos rfl]⟩ hG2
    · obtain ⟨hJ, hm1⟩ := hJ
      refine sg_begin E hG fun it3 s3 hG3 pp3 => ?_
      refine sg_loop (il := [(it2, j + 1), (it1, i + 1)]) hL E.kind E.n3 E.tup E.size (by exact hh) (fun k r m => r + 16 * i + 4 * j + k = 64 ∧ m "first" = some v ∧ m "second" = some v2) (fun k v3 r m ph s hk hv3 hJ hG back3 => ?_) (fun r m ph s hJ hG => ?_) 4 0 r _ ph s3 rfl ⟨hJ, by rw [if_neg (by decide)]; exact hm1, by rw [if_pos rfl]⟩ hG3
      · obtain ⟨hJ, hm1, hm2⟩ := hJ
        obtain ⟨r, rfl⟩ : ∃ r', r = r' + 1 := ⟨r - 1, by omega⟩
        refine sg_row E hL hG hi hj hk hJ hv hv2 hv3 (by rw [if_neg (by decide)]; exact hm1) (by rw [if_neg (by decide)]; exact hm2) (by rw [if_pos rfl]) rfl rfl fun ph' s' hG' => ?_
        exact back3 r _ ph' s' ⟨by omega, by rw [if_neg (by decide)]; exact hm1, by rw [if_neg (by decide)]; exact hm2⟩ hG'
      · obtain ⟨hJ, hm1, _⟩ := hJ
        exact sg_leaf (.ok .next) (back2 r m ph s ⟨by omega, hm1⟩ hG)
    · obtain ⟨hJ, hm1⟩ := hJ
      exact sg_leaf (.ok .next) (back r m ph s (by omega) hG)
  · have hr : r = 0 := by omega
    subst hr
    exact sg_leaf (.ok .next) (sg_end (.ok (.ret .none)) ⟨rfl, hG.mv⟩)
end
end GP
namespace GP
open PySem PySem.Spec PyProof.Rows GenW
open Sem (wp)

/-- a generator that will hand out the last r rows; its own things -/
def Rdy (M : Model) (A : Around) (G : Gb) (r : Nat) (pins : List (Addr × Obj)) (gs : GenState) : Prop :=
  ∀ s'' : Shared, (∀ p ∈ pins, s''.heap.get? p.1 = some p.2) → (∀ b o, G.bh.get? b = some o → s''.heap.get? b = some o) → match gs with
    | .fresh c => Sg M A (Phi M A G r ⟨s'', pins.map (·.1)⟩) c (M.den c) [] s''
    | .suspended k _ c _ fs _ => Sg M A (Phi M A G r ⟨s'', pins.map (·.1)⟩) c (k (.send .none)) fs s''
    | _ => False
section
variable {M : Model} {G : Gb} {A : Around} {r : Nat} {pins : List (Addr × Obj)}
/-- how it is handed on -/
structure Yld (G : Gb) (M : Model) (A : Around) (r : Nat) (pins : List (Addr × Obj)) (s0 : Shared) (r' : Nat) (q : Addr) (s₁ : Shared) (gs' : GenState) (pins' : List (Addr × Obj)) : Prop where
  rr : r = r' + 1
  bare : gs'.bare = true
  susp : susp gs' = true
  rdy : Rdy M A G r' pins' gs'
  mv : Mv ⟨s0, pins.map (·.1)⟩ s₁
  row : Row G.its r s₁.heap q
  fresh : s0.heap.objs.size ≤ q
  pin : ∀ p ∈ pins', s₁.heap.get? p.1 = some p.2 ∧ (p.1 ∈ pins.map (·.1) ∨ s0.heap.objs.size ≤ p.1) ∧ (∀ v, p.2.data ≠ .cell v) ∧ p.1 ≠ q
theorem resume_ar {E : Value → Shared → Prop} {s : Shared} {g : Nat} {gs : GenState} {l : List Value} {α : Type} {k : GenResult → Sem α} {Q : α → Shared → Prop} (hg : s.gens[g]? = some gs)
    (hr : Rdy M A G r pins gs) (hp : ∀ p ∈ pins, s.heap.get? p.1 = some p.2) (hb : ∀ b o, G.bh.get? b = some o → s.heap.get? b = some o)
    (hY : ∀ r' q s₁ gs' pins', Yld G M A r pins (s.setGen g .running) r' q s₁ gs' pins' → wpAny M A (k (.yielded (.ref q))) Q E (s₁.setGen g gs'))
    (hD : r = 0 → ∀ s₁, Mv ⟨s.setGen g .running, pins.map (·.1)⟩ s₁ → wpAny M A (k (.returned .none)) Q E (s₁.setGen g .finished)) :
    wpAny M A (.resume g (.send .none) l k) Q E s := by
  intro Γ p hΓ
  rw [Sem.wp_resume]
  have hB : ∀ c, (Γ.wake c p).Woken A := fun c => hΓ.wake c p
  have go := hr (s.setGen g .running) hp hb
  have fin : ∀ e₁ s₁, Phi M A G r ⟨s.setGen g .running, pins.map (·.1)⟩ e₁ s₁ → e₁.quiet = true ∧ wp M Γ (k e₁.result) (fun a _ s' => Q a s') (fun e _ s' => E e s') p (s₁.setGen g e₁.genState) := by
    intro e₁ s₁ h
    cases r with
    | zero =>
      obtain ⟨rfl, hm⟩ := h
      exact ⟨rfl, hD rfl s₁ hm Γ p hΓ⟩
    | succ r' =>
      obtain ⟨q, l, k, c, p0, fs, rfl, hgd, hm, hrow, hf, pins', h1, h2⟩ := h
      have hq : (End.susp (Value.ref q) false l k c p0 fs).quiet = true := by
        show (!(false || fs.any Frame.guarded)) = true
        rw [hgd]; rfl
      refine ⟨hq, hY r' q s₁ _ pins' ⟨rfl, End.bare_of_quiet hq, rfl, h2, hm, hrow, hf, h1⟩ Γ p hΓ⟩
  cases gs with
  | fresh c =>
    obtain ⟨e₁, s₁, hr, he⟩ := go (Γ.wake c p) p rfl (hB c)
    exact ⟨_, _, by unfold Wakes; rw [hg]; exact ⟨e₁, s₁, hr, (fin e₁ s₁ he).1, rfl, rfl⟩, (fin e₁ s₁ he).2⟩
  | suspended k₀ l₀ c₀ p₀ fs₀ cl =>
    obtain ⟨e₁, s₁, hr, he⟩ := go (Γ.wake c₀ p) p₀ rfl (hB c₀)
    exact ⟨_, _, by unfold Wakes; rw [hg]; exact ⟨e₁, s₁, hr, (fin e₁ s₁ he).1, rfl, rfl⟩, (fin e₁ s₁ he).2⟩
  | running => exact go.elim
  | finished => exact go.elim
end
section
variable {prog : Program} {w : World} {G : Gb} {A : Around} {r : Nat} {pins : List (Addr × Obj)} {E : Value → Shared → Prop} {s : Shared}
theorem next_ar {a : Addr} {g : Nat} {gs : GenState} {Q : Option Value → Shared → Prop} (hh : A.handled = none) (hl : s.heap.NoLimit) (hroom : A.depth < recursionLimit) (hg : s.heap.IsGen a g) (hgs : s.gens[g]? = some gs)
    (hr : Rdy (model prog w) A.in1 G r pins gs) (hp : ∀ p ∈ pins, s.heap.get? p.1 = some p.2) (hb : ∀ b o, G.bh.get? b = some o → s.heap.get? b = some o)
    (hY : ∀ r' q s₁ gs' pins', Yld G (model prog w) A.in1 r pins (s.setGen g .running) r' q s₁ gs' pins' → Q (some (.ref q)) (s₁.setGen g gs'))
    (hD : r = 0 → ∀ s₁, Mv ⟨s.setGen g .running, pins.map (·.1)⟩ s₁ → ∀ h', (∀ b o, s₁.heap.get? b = some o → h'.get? b = some o) → Q none { s₁.setGen g .finished with heap := h' }) :
    wpAny (model prog w) A (pyNext (.ref a)) Q E s := by
  have ng := hr s hp hb
  apply wpAny_bind
  apply wpAny_attempt
  apply wpAny_callSpecial?_slot hg.typeIs slot_gen_next
  apply wpAny_call_entry slot_gen_next hg.typeIs entry_gen_next (ha := args_gen_next _)
  refine wpAny_bind (wpAny_of_eq (a := (.ref a, [])) rfl (wpAny_bind (wpAny_holding (wpAny_genNumber hg (wpAny_bind (wpAny_genState hgs ?_))))))
  cases gs with
  | running | finished => exact ng.elim
  | _ =>
    refine wpAny_bind (wpAny_roomToWake hl hroom (resume_ar hgs hr hp hb ?_ ?_))
    · exact fun r' q s₁ gs' pins' hy => wpAny_pure ⟨_, rfl, wpAny_pure (hY _ _ _ _ _ hy)⟩
    · refine fun h0 s₁ hm => StopW.stop_made fun h' x k ⟨_, _, e⟩ => ?_
      unfold raiseNew
      exact wpAny_bind (wpAny_bind (wpAny_handled_none hh (wpAny_throw (StopW.asker_none e rfl (hD h0 s₁ hm h' fun b o g => (k b o g).1)))))
end
end GP
namespace GP
open PySem PySem.Spec PyProof.Rows GenW L2

def arBody (x1 : Nat) (p1 p2 p3 q1 q2 q3 o1 o2 o3 a1 a2 a3 py pe pt : Pos) : List Stmt :=
  [.For (.Name "first" p1) (.Name "VALUES" q1) [.For (.Name "second" p2) (.Name "VALUES" q2) [.For (.Name "third" p3) (.Name "VALUES" q3)
      [.Expr (.Yield (some (.Tuple [.Name "first" a1, .Name "second" a2, .Name "third" a3] x1 pt)) py) pe] [] o3] [] o2] [] o1]
/-- the text's all_rows and VALUES -/
structure ArIs (K : PySem.W.Frag) (mg : Str → Option Value) (f tv : Addr) : Prop where
  F : ∃ (st : Stmt) (fd : FuncData) (qual : Str), Fun K "all_rows" qual st f fd ∧ Binds K fd [] [] ∧ (defScope st).kind = .function ∧ (defScope st).isCoroutine = false ∧ (defScope st).isGenerator = true ∧
    (defScope st).names = ([("first", .local), ("second", .local), ("third", .local), ("VALUES", .globalImplicit)] : List (Str × NameKind)) ∧ ∃ x1 p1 p2 p3 q1 q2 q3 o1 o2 o3 a1 a2 a3 py pe pt, defBody st = arBody x1 p1 p2 p3 q1 q2 q3 o1 o2 o3 a1 a2 a3 py pe pt
  g : mg "all_rows" = some (.ref f)
  gv : mg "VALUES" = some (.ref tv)
  t : ∃ (o : Obj) (its : Array Value) (n : Nat), K.lookup tv = some o ∧ o.cls = .type "tuple" ∧ o.data = .seq its n ∧ Vals [.non, .int 0, .int 1, .int 2] its.toList
/-- the values of a row, by its place -/
def vAt : Nat → V
  | 0 => .non
  | n + 1 => .int (n : Nat)
def rowV (i : Nat) : List V := [vAt (i / 16), vAt (i / 4 % 4), vAt (i % 4)]
/-- what the loop knows of its generator, i rows being out -/
structure ArT (X : Cx) (G : Gb) (pins : List (Addr × Obj)) (a g i : Nat) (H : Hp) (s : Shared) (ap : List (Addr × Obj)) (gs : GenState) : Prop where
  gen : s.heap.IsGen a g
  st : s.gens[g]? = some gs
  rdy : Rdy (model X.prog X.w) X.A.in1 G (64 - i) ap gs
  le : i ≤ 64
  awake : i = 0 ∨ susp gs = true
  ga : FpOk X pins H a
  pin : ∀ p ∈ ap, s.heap.get? p.1 = some p.2 ∧ FpOk X pins H p.1 ∧ (∀ v, p.2.data ≠ .cell v) ∧ p.1 ≠ a
def ArTurn (X : Cx) (G : Gb) (pins : List (Addr × Obj)) (a g i : Nat) (H : Hp) (s : Shared) : Prop := ∃ ap gs, ArT X G pins a g i H s ap gs
section
variable {X : Cx} {pins : List (Addr × Obj)} {σ : L2.St} {H : Hp} {s : Shared} {f tv : Addr}
def gbOf (X : Cx) (tv : Addr) (its : Array Value) : Gb := ⟨X.base, tv, its⟩
end
end GP
namespace GP
open PySem PySem.Spec PyProof.Rows GenW L2
section
variable {X : Cx} {pins : List (Addr × Obj)} {σ : L2.St} {H : Hp} {s : Shared} {tv : Addr} {its : Array Value} {a g i : Nat}
theorem val_at (hv : Vals [.non, .int 0, .int 1, .int 2] its.toList) {i : Nat} {u : Value} (h : its[i]? = some u) : RelV (vAt i) u := by
  have h' : its.toList[i]? = some u := by simpa using h
  have hl : i < 4 := by
    have := (List.getElem?_eq_some_iff.mp h').1
    have e := hv.length
    simp at e this
    omega
  have key : ∀ {x : V}, ([.non, .int 0, .int 1, .int 2] : List V)[i]? = some x → RelV x u := fun {x} e => by
    obtain ⟨u', e2, r⟩ := hv.get e
    rw [h'] at e2; cases e2; exact r
  match i, hl with
  | 0, _ => exact key rfl
  | 1, _ => exact key rfl
  | 2, _ => exact key rfl
  | 3, _ => exact key rfl
/-- what the generator's code did to us: its own things, new things, a new tuple -/
theorem Inv.moved {ap : List (Addr × Obj)} {s₁ : Shared} {gs' : GenState} {H' : Hp} (I : Inv X pins σ H s) (hap : ∀ p ∈ ap, FpOk X pins H p.1) (mv : Mv ⟨s.setGen g .running, ap.map (·.1)⟩ s₁) (hb : gs'.bare = true)
    (hn : ∀ b o, s.heap.get? b = some o → H b = none → H' b = none) (tups : ∀ b u, H b = some u → H' b = some u) (hok : HOk X.prog X.w H s₁.heap → HOk X.prog X.w H' s₁.heap) : Inv X pins σ H' (s₁.setGen g gs') := by
  have fp : ∀ b ∈ ap.map (·.1), FpOk X pins H b := fun b hb => by
    obtain ⟨p, hp, rfl⟩ := List.mem_map.mp hb
    exact hap p hp
  have kp : ∀ b o, b ∉ ap.map (·.1) → s.heap.get? b = some o → s₁.heap.get? b = some o := fun b o n e => mv.keep b o e n
  obtain ⟨h1, g1, d1, t1, o1⟩ := s₁
  have eo : o1 = s.os := mv.os
  subst eo
  have eg : g1 = (s.setGen g .running).gens := mv.gens
  have hg : AllBare (({ heap := h1, gens := g1, drawn := d1, toks := t1, os := s.os } : Shared).setGen g gs').gens :=
    allBare_setGen (s := { heap := h1, gens := g1, drawn := d1, toks := t1, os := s.os }) (by rw [eg]; exact allBare_setGen I.bare rfl) hb
  refine L2.Inv.step (s := s) (H := H) (H' := H') (g' := (({ heap := h1, gens := g1, drawn := d1, toks := t1, os := s.os } : Shared).setGen g gs').gens) (t' := t1) (d' := d1) (h' := h1) (ch := ap.map (·.1)) I (fun b hb => ?_) (fun b o _ _ hc e _ => kp b o hc e) (fun b o _ _ hc e _ => ⟨o.slots, kp b o hc e⟩) (fun b o _ e n => hn b o e n) (fun b o hc e => ⟨o, kp b o hc e⟩)
    (fun b xs e => tups b _ e) (fun b o u e => tups b _ e) (fun b ps e => ⟨#[], by rw [tups b _ e]; simp⟩) (fun m hm => ?_) (hok fun b u q => ?_) hg
  · obtain ⟨_, f1, f2, f3, f4, f5⟩ := fp b hb
    exact ⟨f3, f1, f4, f5⟩
  · exact hm.at' fun o e => kp _ o (fun z => (fp _ z).2.1 rfl) e
  · refine (I.hok b u q).stay (fun c v hc y => kp c v (fun z => ?_) y) (fun _ y => y) fun _ _ y => y
    have hz := (fp c z).1
    rcases hc with y | y
    · rw [y, q] at hz; cases hz
    · rw [y] at hz; cases hz
theorem turn_item {E : Value → Shared → Prop} (hi : ∃ (o : Obj) (n : Nat), X.K.lookup tv = some o ∧ o.cls = .type "tuple" ∧ o.data = .seq its n ∧ Vals [.non, .int 0, .int 1, .int 2] its.toList) (hc : X.calm = true) (hd : X.A.depth < recursionLimit)
    (I : Inv X pins σ H s) (T : ArTurn X (gbOf X tv its) pins a g i H s) (h64 : i < 64) :
    wpAny (model X.prog X.w) X.A (pyNext (.ref a)) (fun r s1 => ∃ q, r = some (.ref q) ∧ H q = none ∧ Inv X pins σ (upd H q (.tup (rowV i))) s1 ∧ ArTurn X (gbOf X tv its) pins a g (i + 1) (upd H q (.tup (rowV i))) s1) E s := by
  obtain ⟨ap, gs, T⟩ := T
  refine next_ar (I.ok.hd hc) I.nolimit hd T.gen T.st T.rdy (fun p hp => (T.pin p hp).1) I.bk (fun r' q s₁ gs' pins' Y => ?_) (fun h0 => by omega)
  have hsz : s.heap.objs.size ≤ q := Y.fresh
  have hq : H q = none := I.hok.fresh hsz
  obtain ⟨o, n, hl, hcl, hdt, hv⟩ := hi
  have nq : ∀ b o, s.heap.get? b = some o → b ≠ q := fun b o e => Nat.ne_of_lt (Nat.lt_of_lt_of_le (Heap.lt_size e) hsz)
  have hrow : ObjOk X.prog X.w (upd H q (.tup (rowV i))) s₁.heap q (.tup (rowV i)) := by
    obtain ⟨i1, j1, k1, u, v, z, h1, h2, h3, hr, e1, e2, e3, ht⟩ := Y.row
    have ei : i / 16 = i1 := by omega
    have ej : i / 4 % 4 = j1 := by omega
    have ek : i % 4 = k1 := by omega
    refine ⟨(show 3 ≤ sizeLine by decide), [u, v, z], ?_, ht⟩
    unfold rowV
    rw [ei, ej, ek]
    exact .cons (val_at hv e1) (.cons (val_at hv e2) (.cons (val_at hv e3) .nil))
  have up : ∀ b u, H b = some u → upd H q (.tup (rowV i)) b = some u := fun b u e => by rw [upd_ne (fun z => by rw [z, hq] at e; cases e)]; exact e
  have I1 := Inv.moved (gs' := gs') I (fun p hp => (T.pin p hp).2.1) Y.mv Y.bare (H' := upd H q (.tup (rowV i))) (fun b o e n => by rw [upd_ne (nq b o e)]; exact n) up (fun ok b u e => by
    by_cases hb : b = q
    · subst hb
      rw [upd_same] at e; cases e
      exact hrow
    · rw [upd_ne hb] at e
      exact (ok b u e).stay (fun _ _ _ y => y) (fun c y => up c _ y) fun c xs y => up c _ y)
  have ka : ∀ o, s.heap.get? a = some o → s₁.heap.get? a = some o := fun o e => Y.mv.keep a o e (fun z => by
    obtain ⟨p, hp, e⟩ := List.mem_map.mp z
    exact (T.pin p hp).2.2.2 e)
  obtain ⟨ga, nm, qn, hga, r1, r2, r3⟩ := T.gen
  have gsz : g < s₁.gens.size := by
    have := Y.mv.gens
    have e : s₁.gens.size = s.gens.size := by rw [this]; exact setGen_size _ _ _
    rw [e]
    exact (Array.getElem?_eq_some_iff.mp T.st).1
  have fpu : ∀ b, b ≠ q → FpOk X pins H b → FpOk X pins (upd H q (.tup (rowV i))) b := fun b n ⟨f0, f⟩ => ⟨by rw [upd_ne n]; exact f0, f⟩
  refine ⟨q, rfl, hq, I1, pins', gs', ⟨ga, nm, qn, ka _ hga, r1, r2, r3⟩, setGen_at gsz, ?_, by omega, .inr Y.susp, fpu a (nq a _ hga) T.ga, fun p hp => ?_⟩
  · have := Y.rr
    have e : 64 - (i + 1) = r' := by omega
    rw [e]; exact Y.rdy
  · obtain ⟨p1, p2, p3, p4⟩ := Y.pin p hp
    refine ⟨p1, ?_, p3, ?_⟩
    · rcases p2 with z | z
      · obtain ⟨p', hp', e⟩ := List.mem_map.mp z
        rw [← e]
        exact fpu _ (by rw [e]; exact p4) (T.pin p' hp').2.1
      · exact fpu _ p4 (I.fpOk z (I.hok.fresh z))
    · rcases p2 with z | z
      · obtain ⟨p', hp', e⟩ := List.mem_map.mp z
        rw [← e]
        exact (T.pin p' hp').2.2.2
      · exact Nat.ne_of_gt (Nat.lt_of_lt_of_le (Heap.lt_size hga) z)
theorem turn_done {E : Value → Shared → Prop} (hc : X.calm = true) (hd : X.A.depth < recursionLimit)
    (I : Inv X pins σ H s) (T : ArTurn X (gbOf X tv its) pins a g 64 H s) :
    wpAny (model X.prog X.w) X.A (pyNext (.ref a)) (fun r s1 => r = none ∧ Inv X pins σ H s1) E s := by
  obtain ⟨ap, gs, T⟩ := T
  refine next_ar (I.ok.hd hc) I.nolimit hd T.gen T.st T.rdy (fun p hp => (T.pin p hp).1) I.bk (fun r' q s₁ gs' pins' Y => absurd Y.rr (by omega)) (fun h0 s₁ mv h' hk => ⟨rfl, ?_⟩)
  have I1 := Inv.moved (gs' := .finished) I (fun p hp => (T.pin p hp).2.1) mv rfl (H' := H) (fun b o e n => n) (fun b u e => e) fun ok => ok
  exact I1.kept (t' := (s₁.setGen g .finished).toks) hk
end
end GP
namespace GP
open PySem PySem.Spec PyProof.Rows GenW L2
section
variable {X : Cx} {pins : List (Addr × Obj)} {σ : L2.St} {H : Hp} {s : Shared} {tv : Addr} {its : Array Value} {a g i : Nat} {G : Gb}
/-- the loop's own things, pinned -/
def arPins (a : Addr) (go : Obj) (ap : List (Addr × Obj)) : List (Addr × Obj) := (a, go) :: ap
theorem ArT.pinned {ap : List (Addr × Obj)} {gs : GenState} {go : Obj} (I : Inv X pins σ H s) (T : ArT X G pins a g i H s ap gs) (h : s.heap.get? a = some go) : Inv X (pins ++ arPins a go ap) σ H s :=
  I.pins_of fun p hp => (List.mem_append.mp hp).elim (fun z => I.pin p (List.mem_append_right _ z)) fun z => by
    rcases List.mem_cons.mp z with e | e
    · subst e
      obtain ⟨o, nm, qn, ho, _, hd, _⟩ := T.gen
      rw [h] at ho; cases ho
      obtain ⟨f0, f1, f2, _⟩ := T.ga
      exact ⟨h, f0, f1, f2, fun v z => by rw [hd] at z; cases z⟩
    · obtain ⟨h1, ⟨f0, f1, f2, _⟩, h3, _⟩ := T.pin p e
      exact ⟨h1, f0, f1, f2, h3⟩
theorem ArT.after {ap : List (Addr × Obj)} {gs : GenState} {go : Obj} {σ' : L2.St} {H' : Hp} {s' : Shared} (T : ArT X G pins a g i H s ap gs) (h : s.heap.get? a = some go) (I : Inv X (pins ++ arPins a go ap) σ' H' s') (z : Sleeps s.gens s'.gens) (hs : susp gs = true) : ArTurn X G pins a g i H' s' := by
  have pin : ∀ p ∈ arPins a go ap, s'.heap.get? p.1 = some p.2 ∧ H' p.1 = none := fun p hp =>
    let q := I.pin p (List.mem_append_right _ (List.mem_append_right _ hp))
    ⟨q.1, q.2.1⟩
  have fp : ∀ b, H' b = none → FpOk X pins H b → FpOk X pins H' b := fun b n ⟨_, f⟩ => ⟨n, f⟩
  obtain ⟨o, nm, qn, ho, r1, r2, r3⟩ := T.gen
  rw [h] at ho; cases ho
  refine ⟨ap, gs, ⟨go, nm, qn, (pin (a, go) List.mem_cons_self).1, r1, r2, r3⟩, z g gs T.st hs, T.rdy, T.le, .inr hs, fp a (pin (a, go) List.mem_cons_self).2 T.ga, fun p hp => ?_⟩
  obtain ⟨h1, h2, h3, h4⟩ := T.pin p hp
  obtain ⟨p1, p2⟩ := pin p (List.mem_cons_of_mem _ hp)
  exact ⟨p1, fp _ p2 h2, h3, h4⟩
end
section
variable {X : Cx} {f tv : Addr}
end
end GP
namespace GP
open PySem PySem.Spec PyProof.Rows GenW L2
section
variable {X : Cx} {f tv : Addr}
theorem ArTurn.fp {pins : List (Addr × Obj)} {G : Gb} {a g i : Nat} {H : Hp} {s : Shared} {ap : List (Addr × Obj)} {gs : GenState} (T : ArT X G pins a g i H s ap gs) : ∀ b ∈ a :: ap.map (·.1), FpOk X pins H b ∧ b < s.heap.objs.size := fun b hb => by
  rcases List.mem_cons.mp hb with e | e
  · rw [e]
    obtain ⟨o, _, _, ho, _⟩ := T.gen
    exact ⟨T.ga, Heap.lt_size ho⟩
  · obtain ⟨p, hp, e⟩ := List.mem_map.mp e
    rw [← e]
    exact ⟨(T.pin p hp).2.1, Heap.lt_size (T.pin p hp).1⟩
end
end GP
namespace T2
open PySem L2

/-! ### the rows that all_rows hands out -/
def valD : Nat → D
  | 0 => .non
  | n + 1 => .int (n : Nat)
def rowD (i : Nat) : D := .tup [valD (i / 16), valD (i / 4 % 4), valD (i % 4)]
def rowsD : List D := (List.range 64).map rowD
section
variable {X : Cx} {g : Wd} {W : WY} {pos pf pc : Pos} {m : EM} {sts : List Stmt} {s1 : SM} {f tv : Addr}
theorem rep_val {F : List Addr} {H : Hp} : ∀ n : Nat, Rep g F H (valD n) (GP.vAt n)
  | 0 => .non
  | _ + 1 => .int _
theorem rowsD_len : rowsD.length = 64 := by unfold rowsD; simp
theorem rowsD_get {i : Nat} (h : i < 64) : rowsD[i]? = some (rowD i) := by unfold rowsD; simp [h]
variable {elt tgE : Expr} {ifs : List Expr} {scope : Scope} {own : List (Str × Nat)} {tt : BM}
end
end T2
namespace T2
open PySem L2

/-! ### values, rows, truth values, conditions, as plain Lean -/
inductive C3 where
  | z | o | t
deriving DecidableEq, Repr
def C3.i : C3 → Int
  | .z => 0
  | .o => 1
  | .t => 2
abbrev Vl := Option C3
def Vl.d : Vl → D
  | none => .non
  | some c => .int c.i
structure Rw where
  x : Vl
  y : Vl
  z : Vl
deriving DecidableEq, Repr
def Rw.d (r : Rw) : D := .tup [Vl.d r.x, Vl.d r.y, Vl.d r.z]
def Rw.at (r : Rw) : C3 → Vl
  | .z => r.x
  | .o => r.y
  | .t => r.z
inductive T4 where
  | f | u | t | e
deriving DecidableEq, Repr
def T4.i : T4 → Int
  | .f => 0
  | .u => 1
  | .t => 2
  | .e => 3
inductive Cnd where
  | alw
  | unk (c : C3)
  | eql (c v : C3)
  | blw (c v : C3)
  | quo (c d v : C3)
  | no (x : Cnd)
  | an (x y : Cnd)
  | orr (x y : Cnd)
deriving DecidableEq
def Cnd.d : Cnd → D
  | .alw => .tup [.str "always"]
  | .unk c => .tup [.str "unknown", .int c.i]
  | .eql c v => .tup [.str "equal", .int c.i, .int v.i]
  | .blw c v => .tup [.str "below", .int c.i, .int v.i]
  | .quo c d v => .tup [.str "quotient", .int c.i, .int d.i, .int v.i]
  | .no x => .tup [.str "not", x.d]
  | .an x y => .tup [.str "and", x.d, y.d]
  | .orr x y => .tup [.str "or", x.d, y.d]
/-- levels -/
def Cnd.lv : Cnd → Nat
  | .no x => x.lv + 1
  | .an x y => max x.lv y.lv + 1
  | .orr x y => max x.lv y.lv + 1
  | _ => 1
/-- has a quotient -/
def Cnd.hq : Cnd → Bool
  | .quo .. => true
  | .no x => x.hq
  | .an x y => x.hq || y.hq
  | .orr x y => x.hq || y.hq
  | _ => false
def T4.no : T4 → T4
  | .f => .t
  | .u => .u
  | .t => .f
  | .e => .e
def T4.an : T4 → T4 → T4
  | .f, _ => .f
  | .e, _ => .e
  | _, .e => .e
  | _, .f => .f
  | .t, .t => .t
  | _, _ => .u
def T4.or : T4 → T4 → T4
  | .t, _ => .t
  | .e, _ => .e
  | _, .e => .e
  | _, .t => .t
  | .f, .f => .f
  | _, _ => .u
def T4.ob (b : Bool) : T4 := if b then .t else .f
/-- what a condition is for a row -/
def Cnd.ev (r : Rw) : Cnd → T4
  | .alw => .t
  | .unk c => .ob (r.at c).isNone
  | .eql c v => match r.at c with
    | none => .u
    | some a => .ob (a.i == v.i)
  | .blw c v => match r.at c with
    | none => .u
    | some a => .ob (decide (a.i < v.i))
  | .quo c d v => match r.at d with
    | some .z => .e
    | none => .u
    | some b => match r.at c with
      | none => .u
      | some a => .ob (a.i / b.i == v.i)
  | .no x => (x.ev r).no
  | .an x y => (x.ev r).an (y.ev r)
  | .orr x y => (x.ev r).or (y.ev r)
def vls : List Vl := [none, some .z, some .o, some .t]
def rowsR : List Rw := vls.flatMap fun x => vls.flatMap fun y => vls.map fun z => ⟨x, y, z⟩
theorem rowsR_len : rowsR.length = 64 := by decide
theorem rowsD_R : rowsD = rowsR.map Rw.d := by kernel_rfl
end T2
namespace T2
open PySem L2
def rankN : List Str := ["rank"]
/-! ### words -/
theorem ixT {l : List D} {i : Nat} {d : D} {M : MH} (h : l[i]? = some d) : dIxA (.tup l) (.int i) M = .ok d M := by
  have hl : i < l.length := (List.getElem?_eq_some_iff.mp h).1
  have ha : atI l (i : Int) = some d := by
    unfold atI ixN
    rw [if_pos (by omega), if_pos (by omega)]
    exact h
  unfold dIxA dIx items
  dsimp only
  rw [ha]
theorem ixT0 {a : D} {l : List D} {M : MH} : dIxA (.tup (a :: l)) (.int 0) M = .ok a M := ixT (i := 0) rfl
theorem ixT1 {a b : D} {l : List D} {M : MH} : dIxA (.tup (a :: b :: l)) (.int 1) M = .ok b M := ixT (i := 1) rfl
theorem ixT2 {a b c : D} {l : List D} {M : MH} : dIxA (.tup (a :: b :: c :: l)) (.int 2) M = .ok c M := ixT (i := 2) rfl
/-! ### the program's truth -/
def tv (cT : Nat) (r : Int) : D := .ins cT rankN [.int r]
section
variable {cT cZ : Nat} {isi : Tg → Tg → Option Bool} {r : Rw} {k : Nat} {M : MH}
end
/-! ### the laws' truth -/
section
variable {r : Rw} {k : Nat} {M : MH}
end
/-! ### a condition is drawn -/
theorem c3_of {c : Int} (h0 : 0 ≤ c) (h1 : c < 3) : ∃ x : C3, c = x.i := by
  obtain rfl | rfl | rfl : c = 0 ∨ c = 1 ∨ c = 2 := by omega
  · exact ⟨.z, rfl⟩
  · exact ⟨.o, rfl⟩
  · exact ⟨.t, rfl⟩
theorem drawE {s : Bx} {R : MH} {n : Int} (hs : BxOk s) (h1 : 0 < n) (h2 : n < 1073741824) : ∃ r s', drawM [.ref 0, .int n] (s.obj :: R) = .ok (.int r) (s'.obj :: R) ∧ 0 ≤ r ∧ r < n ∧ BxOk s' :=
  draw_spec (M := s.obj :: R) (b := 0) ⟨rfl, hs⟩ h1 h2
end T2
namespace T2
open PySem L2

/-! ### a def that changes nothing: what it hands back is frozen, what it has made beside is forgotten -/
open Classical in
noncomputable def frzP (f : List D → MH → Res D) : List D → MH → Res D := fun ds M => match f ds M with
  | .ok d M' => if M'.take M.length = M then (match fzA (rfz M' M.length 4) d with
    | some d' => .ok d' M
    | none => .bad) else .bad
  | .exc c ns xs M' => if M'.take M.length = M then (match fzAs (rfz M' M.length 4) xs with
    | some xs' => .exc c ns xs' M
    | none => .bad) else .bad
  | .bad => .bad
theorem frzP_ok {f : List D → MH → Res D} {ds : List D} {M G : MH} {d d' : D} (h : f ds M = .ok d (M ++ G)) (hd : fzA (rfz (M ++ G) M.length 4) d = some d') : frzP f ds M = .ok d' M := by
  unfold frzP
  rw [h]
  dsimp only
  rw [if_pos (by simp), hd]
theorem frzP_x {f : List D → MH → Res D} {ds : List D} {M G : MH} {c : Nat} {ns : List Str} {xs xs' : List D} (h : f ds M = .exc c ns xs (M ++ G)) (hd : fzAs (rfz (M ++ G) M.length 4) xs = some xs') : frzP f ds M = .exc c ns xs' M := by
  unfold frzP
  rw [h]
  dsimp only
  rw [if_pos (by simp), hd]
theorem frzP_pd {f : List D → MH → Res D} {ds : List D} {M G : MH} {d : D} {k : Nat} (h : f ds M = .ok d (M ++ G)) (hd : Pd k d) : frzP f ds M = .ok d M := frzP_ok h (fz_pd hd)
theorem frzP_xpd {f : List D → MH → Res D} {ds : List D} {M G : MH} {c : Nat} {ns : List Str} {xs : List D} {k : Nat} (h : f ds M = .exc c ns xs (M ++ G)) (hd : ∀ x ∈ xs, Pd k x) : frzP f ds M = .exc c ns xs M := frzP_x h (fzs_pd hd)
theorem frzP_fro {f : List D → MH → Res D} {ds : List D} {M G : MH} {k : Nat} {xs : List D} (h : f ds M = .ok (.fro xs) (M ++ G)) (hx : ∀ a ∈ xs, Pd k a) : frzP f ds M = .ok (.fro xs) M := frzP_ok h (by
  show (fzAs _ xs).map D.fro = _
  rw [fzs_pd hx]; rfl)
theorem fn_frzP {P : Program} {w : World} {K : PySem.W.Frag} {mg : Str → Option Value} {base : Heap} {CX : CXT} {g : Wd} {f : Addr} {fd : FuncData} {ps : List Str} {k n : Nat} {m : List D → MH → Res D} (F : FnOk P w K mg base CX k f fd ps (spD g n m)) : FnOk P w K mg base CX k f fd ps (spD g n (frzP m)) :=
  F.imp fun vs H Q E ⟨hl, F, M, ds, R, r, q⟩ => ⟨hl, F, M, ds, R, r, by
    unfold frzP at q
    cases hm : m ds M with
    | ok d M' =>
      rw [hm] at q
      dsimp only at q
      split at q
      · rename_i hc
        split at q
        · rename_i d' hd
          intro F1 H1 v g1 R1 rv
          have e : M' = M ++ M'.drop M.length := by
            conv => lhs; rw [← List.take_append_drop M.length M', hc]
          have R1' : RelM g F1 (M ++ M'.drop M.length) H1 := by rw [← e]; exact R1
          exact q _ H1 v (g1.cut (by rw [R.len]; exact Nat.le_refl _)) (R1'.cut R.low) (fzA_rep (rfz_rep R1 4) rv hd)
        · exact q.elim
      · exact q.elim
    | exc c ns xs M' =>
      rw [hm] at q
      dsimp only at q
      split at q
      · rename_i hc
        split at q
        · rename_i xs' hd
          intro F1 H1 v g1 R1 rx
          have e : M' = M ++ M'.drop M.length := by
            conv => lhs; rw [← List.take_append_drop M.length M', hc]
          have R1' : RelM g F1 (M ++ M'.drop M.length) H1 := by rw [← e]; exact R1
          refine q _ H1 v (g1.cut (by rw [R.len]; exact Nat.le_refl _)) (R1'.cut R.low) ?_
          cases rx with
          | no => cases hd; exact .no
          | so h hne hl r =>
            have r' := fzAs_rep (k := M.length) (rfz_rep R1 4) r hd
            exact .so h hne hl r'
        · exact q.elim
      · exact q.elim
    | bad => rw [hm] at q; exact q.elim⟩
/-! ### small things that laws want -/
theorem pd_vl {k : Nat} (a : Vl) : Pd (k + 1) (Vl.d a) := by
  cases a with
  | none => exact .inl rfl
  | some c => exact pd_int
theorem pd_row {k : Nat} (r : Rw) : Pd (k + 2) r.d := pd_3 (pd_vl _) (pd_vl _) (pd_vl _)
theorem Pd.mono {k m : Nat} {d : D} (h : Pd k d) (hm : k ≤ m) : Pd m d := by
  obtain ⟨j, rfl⟩ : ∃ j, m = k + j := ⟨m - k, by omega⟩
  clear hm
  induction j with
  | zero => exact h
  | succ j ih => exact ih.up
theorem rowsD_mem {x : D} (h : x ∈ rowsD) : ∃ r : Rw, x = r.d := by
  rw [rowsD_R] at h
  obtain ⟨r, _, rfl⟩ := List.mem_map.mp h
  exact ⟨r, rfl⟩
/-! ### all rows, as the laws write them -/
def everyL1 : SM :=
    sSet 0 (eBin (dCat mkF) (eVar 0) (eLc (iSeq (eFro (eCons (eC .non) (eCons (eC (.int 0)) (eCons (eC (.int 1)) (eCons (eC (.int 2)) (eNil))))))) (tgName 3) (bYes) (eTup (eCons (eVar 1) (eCons (eVar 2) (eCons (eVar 3) (eNil))))) [3]))
def everyL2 : SM :=
    sForI (iSeq (eFro (eCons (eC .non) (eCons (eC (.int 0)) (eCons (eC (.int 1)) (eCons (eC (.int 2)) (eNil))))))) (tgName 2) everyL1
def everyB : SM :=
    sSeq (sSet 0 (eFro (eNil)))
    (sSeq (sForI (iSeq (eFro (eCons (eC .non) (eCons (eC (.int 0)) (eCons (eC (.int 1)) (eCons (eC (.int 2)) (eNil))))))) (tgName 1) everyL2)
    (sRet (eVar 0)))
noncomputable def everyM : List D → MH → Res D := frzP (fnB 4 everyB)
def fours : List D := [.non, .int 0, .int 1, .int 2]
theorem four_run {e : Env2} {M : MH} : iSeq (eFro (eCons (eC .non) (eCons (eC (.int 0)) (eCons (eC (.int 1)) (eCons (eC (.int 2)) (eNil)))))) e M = .ok (.vals fours) M := by kernel_rfl
theorem every_in {a b : D} {xs : List D} {M : MH} {x3 : Option D} (h : xs.length ≤ 100) : everyL1 [some (.fro xs), some a, some b, x3] M = .nx [some (.fro (xs ++ fours.map fun z => .tup [a, b, z])), some a, some b, x3] (M ++ [.lst (fours.map fun z => .tup [a, b, z])]) := by
  have h1 : eLc (iSeq (eFro (eCons (eC .non) (eCons (eC (.int 0)) (eCons (eC (.int 1)) (eCons (eC (.int 2)) (eNil))))))) (tgName 3) bYes (eTup (eCons (eVar 1) (eCons (eVar 2) (eCons (eVar 3) eNil)))) [3] [some (.fro xs), some a, some b, x3] M = .ok (.ref M.length) (M ++ [.lst (((fours.filter fun _ => true)).map fun z => .tup [a, b, z])]) :=
    lc_if (p := fun _ => true) (g := fun z => .tup [a, b, z]) four_run (fun _ _ _ => rfl) (fun x _ _ acc => by
      show eTup _ [some (.fro xs), some a, some b, some x] _ = _
      simp only [z_tup, z_cons, z_var, List.getElem?_cons_zero, List.getElem?_cons_succ, z_var_ok, z_cons1, z_anil, z_cons2, z_args_ok, z_tup_ok, List.length_cons, List.length_nil, Nat.reduceAdd, Nat.reduceLeDiff]) (by decide)
  unfold everyL1
  rw [z_set, z_bin, z_var]
  simp only [List.getElem?_cons_zero, z_var_ok, z_bin_ok, h1, z_un_ok]
  have h2 : (fours.filter fun _ => true) = fours := rfl
  rw [h2, cat_F (xs := xs) (ys := fours.map fun z => .tup [a, b, z]) rfl (by unfold listItems; dsimp only; simp) (by simp [fours]; omega), z_set_ok]
  rfl
theorem every_mid {a : D} {xs : List D} {M : MH} {x2 x3 : Option D} (h : xs.length ≤ 60) : ∃ e G, everyL2 [some (.fro xs), some a, x2, x3] M = .nx e (M ++ G) ∧ e = [some (.fro (xs ++ fours.flatMap fun b => fours.map fun z => .tup [a, b, z])), some a, some (.int 2), x3] := by
  unfold everyL2
  rw [z_for, four_run, z_for_v]
  refine ⟨_, [.lst (fours.map fun z => .tup [a, .non, z]), .lst (fours.map fun z => .tup [a, .int 0, z]), .lst (fours.map fun z => .tup [a, .int 1, z]), .lst (fours.map fun z => .tup [a, .int 2, z])], ?_, rfl⟩
  have hl : ∀ b : D, (fours.map fun z => D.tup [a, b, z]).length = 4 := fun b => rfl
  unfold fours
  rw [z_fv, List.set_cons_succ, List.set_cons_succ, List.set_cons_zero, every_in (by omega), z_fv_nx]
  rw [z_fv, List.set_cons_succ, List.set_cons_succ, List.set_cons_zero, every_in (by simp [fours]; omega), z_fv_nx]
  rw [z_fv, List.set_cons_succ, List.set_cons_succ, List.set_cons_zero, every_in (by simp [fours]; omega), z_fv_nx]
  rw [z_fv, List.set_cons_succ, List.set_cons_succ, List.set_cons_zero, every_in (by simp [fours]; omega), z_fv_nx]
  rw [z_fv0]
  simp [fours]
theorem every_run {M : MH} : everyM [] M = .ok (.fro rowsD) M := by
  have key : ∃ G, fnB 4 everyB [] M = .ok (.fro rowsD) (M ++ G) := by
    rw [z_fn, everyB]
    have h0 : env0 4 [] = [none, none, none, none] := rfl
    rw [h0, z_seq, z_set, z_fro, z_anil, z_args_ok, z_fro_ok (by decide), z_set_ok, z_seq_nx, z_seq, z_for, four_run, z_for_v, List.set_cons_zero]
    have hl : ∀ a : D, (fours.flatMap fun b => fours.map fun z => D.tup [a, b, z]).length = 16 := fun a => rfl
    unfold fours
    obtain ⟨_, G1, h1, rfl⟩ := every_mid (a := .non) (xs := []) (M := M) (x2 := none) (x3 := none) (by decide)
    rw [z_fv, List.set_cons_succ, List.set_cons_zero, h1, z_fv_nx]
    obtain ⟨_, G2, h2, rfl⟩ := every_mid (a := .int 0) (xs := [] ++ fours.flatMap fun b => fours.map fun z => .tup [.non, b, z]) (M := M ++ G1) (x2 := some (.int 2)) (x3 := none) (by decide)
    rw [z_fv, List.set_cons_succ, List.set_cons_zero, h2, z_fv_nx]
    obtain ⟨_, G3, h3, rfl⟩ := every_mid (a := .int 1) (xs := ([] ++ fours.flatMap fun b => fours.map fun z => .tup [.non, b, z]) ++ fours.flatMap fun b => fours.map fun z => .tup [.int 0, b, z]) (M := M ++ G1 ++ G2) (x2 := some (.int 2)) (x3 := none) (by decide)
    rw [z_fv, List.set_cons_succ, List.set_cons_zero, h3, z_fv_nx]
    obtain ⟨_, G4, h4, rfl⟩ := every_mid (a := .int 2) (xs := (([] ++ fours.flatMap fun b => fours.map fun z => .tup [.non, b, z]) ++ fours.flatMap fun b => fours.map fun z => .tup [.int 0, b, z]) ++ fours.flatMap fun b => fours.map fun z => .tup [.int 1, b, z]) (M := M ++ G1 ++ G2 ++ G3) (x2 := some (.int 2)) (x3 := none) (by decide)
    rw [z_fv, List.set_cons_succ, List.set_cons_zero, h4, z_fv_nx, z_fv0, z_seq_nx, z_ret, z_var, List.getElem?_cons_zero, z_var_ok, z_ret_ok, z_toR_rt]
    refine ⟨G1 ++ (G2 ++ (G3 ++ G4)), ?_⟩
    simp only [List.append_assoc]
    congr 1
  obtain ⟨G, hG⟩ := key
  exact frzP_fro (k := 2) hG fun a ha => by obtain ⟨r, rfl⟩ := rowsD_mem ha; exact pd_row r
end T2
namespace T2
open PySem L2

/-! ### plain data without truth values: == is equality -/
def Nb : Nat → D → Prop
  | 0, _ => False
  | k + 1, x => x = .non ∨ (∃ i, x = .int i) ∨ (∃ s, x = .str s ∧ PyData.strOk s = true) ∨ (∃ xs, x = .tup xs ∧ ∀ a ∈ xs, Nb k a) ∨ ∃ xs, x = .fro xs ∧ ∀ a ∈ xs, Nb k a
theorem nb_non {k : Nat} : Nb (k + 1) .non := .inl rfl
theorem nb_int {k : Nat} {i : Int} : Nb (k + 1) (.int i) := .inr (.inl ⟨i, rfl⟩)
theorem nb_str {k : Nat} {s : Str} (h : PyData.strOk s = true) : Nb (k + 1) (.str s) := .inr (.inr (.inl ⟨s, rfl, h⟩))
theorem nb_tup {k : Nat} {xs : List D} (h : ∀ a ∈ xs, Nb k a) : Nb (k + 1) (.tup xs) := .inr (.inr (.inr (.inl ⟨xs, rfl, h⟩)))
theorem nb_fro {k : Nat} {xs : List D} (h : ∀ a ∈ xs, Nb k a) : Nb (k + 1) (.fro xs) := .inr (.inr (.inr (.inr ⟨xs, rfl, h⟩)))
theorem Nb.up : ∀ {k : Nat} {x : D}, Nb k x → Nb (k + 1) x
  | 0, _, h => h.elim
  | k + 1, x, h => by
    rcases h with rfl | ⟨i, rfl⟩ | ⟨s, rfl, ho⟩ | ⟨xs, rfl, ha⟩ | ⟨xs, rfl, ha⟩
    · exact nb_non
    · exact nb_int
    · exact nb_str ho
    · exact nb_tup fun a m => (ha a m).up
    · exact nb_fro fun a m => (ha a m).up
theorem Nb.mono {k m : Nat} {d : D} (h : Nb k d) (hm : k ≤ m) : Nb m d := by
  obtain ⟨j, rfl⟩ : ∃ j, m = k + j := ⟨m - k, by omega⟩
  clear hm
  induction j with
  | zero => exact h
  | succ j ih => exact ih.up
theorem nb_P : ∀ {k : Nat} {x : D}, Nb k x → ∃ p, (∀ rf, toPa rf x = some p) ∧ PyData.canLay0 p = true ∧ PyData.depth p ≤ k
  | 0, _, h => h.elim
  | k + 1, x, h => by
    have key : ∀ ys : List D, (∀ a ∈ ys, Nb k a) → ∃ ps, (∀ rf, toPas rf ys = some ps) ∧ PyData.canLayAll0 ps = true ∧ PyData.depthAll ps ≤ k := by
      intro ys
      induction ys with
      | nil => exact fun _ => ⟨[], fun _ => rfl, rfl, by simp [PyData.depthAll]⟩
      | cons y ys ih =>
        intro h
        obtain ⟨p, h1, h2, h3⟩ := nb_P (h y (by simp))
        obtain ⟨ps, g1, g2, g3⟩ := ih fun a m => h a (by simp [m])
        refine ⟨p :: ps, fun rf => by rw [toPas, h1, g1], by rw [PyData.canLayAll0, h2, g2]; rfl, ?_⟩
        rw [PyData.depthAll]; omega
    rcases h with rfl | ⟨i, rfl⟩ | ⟨s, rfl, ho⟩ | ⟨xs, rfl, ha⟩ | ⟨xs, rfl, ha⟩
    · exact ⟨.none, fun _ => rfl, rfl, by simp [PyData.depth]⟩
    · exact ⟨.int i, fun _ => rfl, rfl, by simp [PyData.depth]⟩
    · exact ⟨.str s, fun _ => rfl, ho, by simp [PyData.depth]⟩
    · obtain ⟨ps, g1, g2, g3⟩ := key xs ha
      refine ⟨.tuple ps, fun rf => by rw [toPa, g1]; rfl, by rw [PyData.canLay0]; exact g2, ?_⟩
      rw [PyData.depth]; omega
    · obtain ⟨ps, g1, g2, g3⟩ := key xs ha
      refine ⟨.list ps, fun rf => by rw [toPa, g1]; rfl, by rw [PyData.canLay0]; exact g2, ?_⟩
      rw [PyData.depth]; omega
theorem nb_eqv : ∀ {k : Nat} {x y : D} {rf : Nat → Option PyData} {p q : PyData}, Nb k x → Nb k y → toPa rf x = some p → toPa rf y = some q → (PyData.eqv p q = true ↔ x = y)
  | 0, _, _, _, _, _, h, _, _, _ => h.elim
  | k + 1, x, y, rf, p, q, hx, hy, e1, e2 => by
    have key : ∀ xs ys : List D, (∀ a ∈ xs, Nb k a) → (∀ a ∈ ys, Nb k a) → ∀ ps qs, toPas rf xs = some ps → toPas rf ys = some qs → (PyData.eqvAll ps qs = true ↔ xs = ys) := by
      intro xs
      induction xs with
      | nil =>
        intro ys _ _ ps qs h1 h2
        cases h1
        cases ys with
        | nil => cases h2; simp [PyData.eqvAll]
        | cons y ys =>
          rw [toPas] at h2
          split at h2
          · cases h2; simp [PyData.eqvAll]
          · cases h2
      | cons x xs ih =>
        intro ys ha hb ps qs h1 h2
        rw [toPas] at h1
        split at h1
        · rename_i p' ps' e3 e4
          cases h1
          cases ys with
          | nil => cases h2; simp [PyData.eqvAll]
          | cons y ys =>
            rw [toPas] at h2
            split at h2
            · rename_i q' qs' e5 e6
              cases h2
              rw [PyData.eqvAll, Bool.and_eq_true, nb_eqv (ha x (by simp)) (hb y (by simp)) e3 e5, ih ys (fun a m => ha a (by simp [m])) (fun a m => hb a (by simp [m])) ps' qs' e4 e6]
              simp
            · cases h2
        · cases h1
    rcases hx with rfl | ⟨i, rfl⟩ | ⟨s, rfl, ho⟩ | ⟨xs, rfl, ha⟩ | ⟨xs, rfl, ha⟩ <;> rcases hy with rfl | ⟨j, rfl⟩ | ⟨s', rfl, ho'⟩ | ⟨ys, rfl, hb⟩ | ⟨ys, rfl, hb⟩ <;>
      simp only [toPa, Option.some.injEq, Option.map_eq_some_iff] at e1 e2
    all_goals first
      | (obtain ⟨ps, g1, rfl⟩ := e1; obtain ⟨qs, g2, rfl⟩ := e2; simp only [PyData.eqv, key xs ys ha hb ps qs g1 g2, D.tup.injEq, D.fro.injEq]; done)
      | (obtain ⟨ps, g1, rfl⟩ := e1; obtain ⟨qs, g2, rfl⟩ := e2; simp [PyData.eqv]; done)
      | (obtain ⟨ps, g1, rfl⟩ := e1; subst e2; simp [PyData.eqv]; done)
      | (obtain ⟨qs, g2, rfl⟩ := e2; subst e1; simp [PyData.eqv]; done)
      | (subst e1; subst e2; simp [PyData.eqv]; done)
open Classical in
theorem eq_nb {k : Nat} {x y : D} (hk : k ≤ 64) (hx : Nb k x) (hy : Nb k y) {M : MH} : dEq x y M = .ok (.bl (decide (x = y))) M := by
  obtain ⟨p, h1, h2, h3⟩ := nb_P hx
  obtain ⟨q, g1, g2, g3⟩ := nb_P hy
  unfold dEq toP
  have e := nb_eqv hx hy (h1 (rfOf M 4)) (g1 (rfOf M 4))
  rw [h1, g1]
  dsimp only
  rw [if_pos]
  · congr 2
    rw [Bool.eq_iff_iff, e, decide_eq_true_iff]
  · unfold SeqAt.shaped
    rw [h2, g2]
    simp only [Bool.true_and, decide_eq_true_eq]
    exact ⟨by omega, by omega⟩
/-! ### rows by their places -/
end T2
namespace T2
open PySem L2 PyProof.Rows

/-! ### list * int -/
section
variable {X : Cx} {g : Wd} {W : WY} {a b : Expr} {pos : Pos} {m1 m2 : EM}
end

/-! ### def f(a, .., *v, k, ..): called with plain arguments and every keyword -/
def packRK (n : Nat) (ds zs : List D) : List D := ds.take n ++ zs ++ [.tup (ds.drop n)]
def FnRK (P : Program) (w : World) (K : PySem.W.Frag) (mg : Str → Option Value) (base : Heap) (CX : CXT) (k : Nat) (f : Addr) (ks : List Str) (sp : List V → List V → Hp → VK → XK → Prop) : Prop :=
  ∀ (A : Around) (outer : List Env) (s : Shared) (H : Hp) (us : List Value) (vs : List V) (ws : List Value) (zs : List V) (Q : VK) (E : XK), Room k A → Env0 P w K mg base A outer s H → Vals vs us → Vals zs ws → zs.length = ks.length → sp vs zs H Q E →
    codeAny (model P w) A (.call (.ref f) ⟨us, ks.zip ws⟩) (CR CX outer P w H s Q E) s
theorem FnRK.mono {P : Program} {w : World} {K : PySem.W.Frag} {mg : Str → Option Value} {base : Heap} {CX : CXT} {j k : Nat} {f : Addr} {ks : List Str} {sp : List V → List V → Hp → VK → XK → Prop} (F : FnRK P w K mg base CX j f ks sp) (h : j ≤ k) : FnRK P w K mg base CX k f ks sp :=
  fun A outer s H us vs ws zs Q E hr => F A outer s H us vs ws zs Q E (hr.mono h)
section
variable {CX : CXT} {P : Program} {w : World} {K : PySem.W.Frag} {mg : Str → Option Value} {base : Heap} {k : Nat} {f : Addr} {name qual : Str} {params : Arguments} {body : List Stmt} {scope : Scope} {dV kV doc pm cdv ct oc : Value} {an od : Option Addr}
  {osl : Array (Option Value)} {N ps ks : List Str}
end
def fCallRK (n : Nat) (f : List D → MH → Res D) (ds zs : List D) (M : MH) : Res D := if n ≤ ds.length ∧ ds.length ≤ 1000 then f (packRK n ds zs) M else .bad
def eCallRK (n k : Nat) (f : List D → MH → Res D) (ma mk : AM) : EM := fun e M => (ma e M).bind fun ds M1 => (mk e M1).bind fun zs M2 => if zs.length = k then fCallRK n f ds zs M2 else .bad
section
variable {X : Cx} {g : Wd} {W : WY} {e : Expr} {es : List Expr} {pos p : Pos} {ma mk : AM} {k n : Nat} {f : Addr} {m : List D → MH → Res D} {x : Str} {kws : List Keyword} {ks : List Str}
end
end T2
namespace T2
open PySem L2 PyProof.Rows

/-! ### continue; chained comparisons -/
section
variable {X : Cx} {g : Wd} {W : WY} {a b c o : Expr} {pos p apos : Pos} {m1 m2 m3 : EM} {ma : AM} {es : List Expr}
/-! ### xs.insert(i, y); xs.clear() -/
def insD (ds : List D) (i : Int) (y : D) : List D := ds.take i.toNat ++ [y] ++ ds.drop i.toNat
def eIns (mo mi my : EM) : EM := fun e M => (mo e M).bind fun x M1 => match x with
  | .ref n => match M1[n]? with
    | some (.lst _) => (eCons mi (eCons my eNil) e M1).bind fun ys M2 => match M2[n]?, ys with
      | some (.lst ds), [.int i, y] => if ds.length < big ∧ 0 ≤ i ∧ i < 2 ^ 63 then .ok .non (M2.set n (.lst (insD ds i y))) else .bad
      | _, _ => .bad
    | _ => .bad
  | _ => .bad
end
end T2
namespace T2
open PySem L2 PyProof.Rows
/-! ### x in o, by the own __contains__; len(o), by the own __len__ -/
section
variable {X : Cx} {CX : CXT} {k : Nat} {f C : Addr} {fd : FuncData} {ps : List Str} {sp : Sp} {E : L2.St → XK} {x m : Str} {p pos apos : Pos} {a b e o : Expr} {es : List Expr} {ta tb : TE} {t : TA}
end
def eOwnIn (neg : Bool) (c : Nat) (f : List D → MH → Res D) (a b : EM) : EM := fun e M => (a e M).bind fun x M1 => (b e M1).bind fun y M2 => match instOf M2 y with
  | some (c1, _, _) => if c1 = c then (blR (f [y, x] M2)).bind fun r M3 => match r with
    | .bl k => .ok (.bl (if neg then !k else k)) M3
    | _ => .bad else .bad
  | none => .bad
def inR (r : Res D) : Res D := match r with
  | .ok (.int n) M => if 0 ≤ n ∧ n < 2 ^ 63 then .ok (.int n) M else .bad
  | .ok _ _ => .bad
  | r => r
def eLenO (c : Nat) (f : List D → MH → Res D) (ma : AM) : EM := eArgs (fun ds M => match ds with
  | [x] => (match instOf M x with
    | some (c1, _, _) => if c1 = c then inR (f [x] M) else .bad
    | none => .bad)
  | _ => .bad) ma
section
variable {X : Cx} {g : Wd} {W : WY} {a b o : Expr} {pos p apos : Pos} {m1 m2 : EM} {ma : AM} {es : List Expr} {k n : Nat} {f C : Addr} {fd : FuncData} {ps : List Str} {m : List D → MH → Res D} {x mn : Str} {c : Nat} {neg : Bool}
end
end T2
namespace T2
open PySem L2
section
variable {X : Cx} {g : Wd} {W : WY} {a b c : Expr} {pos : Pos} {m1 m2 m3 : EM}
theorem dt_chain {op op' : CmpOp} {f f' : D → D → MH → Res D} {r r' : R2} (ho : OpR X (compareOp op) r) (ho' : OpR X (compareOp op') r') (hs : Sim2 g f r) (hs' : Sim2 g f' r') (ha : PE X a (tD g W m1)) (hb : PE X b (tD g W m2)) (hc : PE X c (tD g W m3))
    (hm : lastMarks [op, op'] [b, c] = false := by with_unfolding_all rfl) : PT X (.Compare a [op, op'] [b, c] pos) (tB2 g W (bVal (eChain f f' m1 m2 m3))) := pt_imp (pt_chain ho ho' ha hb hc hm) fun σ H Q q => chain_imp hs hs' (val_imp q)
theorem dt_lele (ha : PE X a (tD g W m1)) (hb : PE X b (tD g W m2)) (hc : PE X c (tD g W m3)) (hm : lastMarks [.LtE, .LtE] [b, c] = false := by with_unfolding_all rfl) : PT X (.Compare a [.LtE, .LtE] [b, c] pos) (tB2 g W (bVal (eChain dLe dLe m1 m2 m3))) := dt_chain op_le op_le sim_cmpI sim_cmpI ha hb hc hm
end
end T2
namespace T2
open PySem PySem.Spec L2 PyProof.Rows HotX

/-! ### a comprehension over a list while an exception is handled -/
section
variable {prog : Program} {w : World} {A : Around} {E : Value → Shared → Prop} {s : Shared}
end
end T2
namespace T2
open PySem PySem.Spec L2 PyProof.Rows HotX
section
variable {X : Cx}
end
end T2
namespace T2
open PySem L2
section
variable {X : Cx} {g : Wd} {W : WY} {m1 m : EM} {tt : BM} {elt tgE iter : Expr} {ifs : List Expr} {scope : Scope} {own : List (Str × Nat)} {pos : Pos}
end
end T2
namespace T2
open PySem L2
/-! ### a row is drawn -/
def rowL : SM :=
    sSet 1 (eBin dAdd (eVar 1) (eTup (eCons (eBin dIxA (eTup (eCons (eC .non) (eCons (eC (.int 0)) (eCons (eC (.int 1)) (eCons (eC (.int 2)) (eCons (eC (.int 0)) (eCons (eC (.int 1)) (eNil)))))))) (eCall 2 drawM (eCons (eVar 0) (eCons (eC (.int 6)) (eNil))))) (eNil))))
def rowB : SM :=
    sSeq (sSet 1 (eTup (eNil)))
    (sSeq (sForI (iRange1 (eC (.int 3))) (tgName 2) rowL)
    (sRet (eVar 1)))
def rowM : List D → MH → Res D := fnB 3 rowB
theorem rowL_run {s : Bx} {R : MH} {xs : List D} {a2 : Option D} (hs : BxOk s) (hl : xs.length ≤ 10) : ∃ (v : Vl) (s' : Bx), BxOk s' ∧ rowL [some (.ref 0), some (.tup xs), a2] (s.obj :: R) = .nx [some (.ref 0), some (.tup (xs ++ [Vl.d v])), a2] (s'.obj :: R) := by
  obtain ⟨r, s1, e1, r0, r1, h1⟩ := draw_at (R := R) (n := 6) hs (by decide) (by decide)
  obtain ⟨v, hv⟩ : ∃ v : Vl, ∀ M, dIxA (.tup [.non, .int 0, .int 1, .int 2, .int 0, .int 1]) (.int r) M = .ok (Vl.d v) M := by
    have : r = 0 ∨ r = 1 ∨ r = 2 ∨ r = 3 ∨ r = 4 ∨ r = 5 := by omega
    rcases this with rfl | rfl | rfl | rfl | rfl | rfl
    · exact ⟨none, fun _ => rfl⟩
    · exact ⟨some .z, fun _ => rfl⟩
    · exact ⟨some .o, fun _ => rfl⟩
    · exact ⟨some .t, fun _ => rfl⟩
    · exact ⟨some .z, fun _ => rfl⟩
    · exact ⟨some .o, fun _ => rfl⟩
  refine ⟨v, s1, h1, ?_⟩
  have ha : ∀ M, dAdd (.tup xs) (.tup [Vl.d v]) M = .ok (.tup (xs ++ [Vl.d v])) M := fun M => by
    unfold dAdd
    dsimp only
    rw [if_pos (by simp only [List.length_cons, List.length_nil]; have : (11 : Nat) ≤ big := by decide
                   omega)]
  unfold rowL
  simp only [z_seq, z_seq_nx, z_seq_rt, z_seq_ex, z_seq_bk, z_seq_ct, z_if, z_if_t, z_if_f, z_if_x, z_set, z_set_ok, z_set_x, z_ret, z_ret_ok, z_ret_x, z_retN, z_do, z_do_ok, z_do_x, z_nil, z_raise0, z_raise, z_raise_ok, z_toR_rt, z_toR_nx, z_toR_ex, z_c, z_var, z_var_ok, z_un, z_un_ok, z_un_x, z_bin, z_bin_ok, z_bin_x, z_anil, z_cons, z_cons1, z_cons1x, z_cons2, z_cons2x, z_args, z_args_ok, z_args_x, z_tup, z_tup_ok, z_fro, z_fro_ok, z_lst, z_lst_ok, z_call, z_stat, z_call_ok, z_callk, z_callk1, z_callk2, z_mkF, z_mkF_ok, z_own1, z_own1_ok, z_prop, z_own2, z_own2_ok, z_val, z_val_ok, z_val_x, z_and, z_and_t, z_and_f, z_or, z_or_t, z_or_f, z_not, z_not_ok, z_yes, z_eand, z_eand_t, z_eand_f, z_eor, z_eor_t, z_eor_f, z_enot, z_enot_ok, z_eif, z_eif_t, z_eif_f, z_for, z_for_v, z_iseq, z_iseq_t, z_iseq_f, z_iseq_r, z_rng, z_rng_ok, z_env0, z_try, z_try_nx, z_try_rt, z_try0, z_try0_nx, z_try0_rt, z_for_l, z_fv0, z_fv_nx, z_fv_ct, z_fv_rt, z_lc_v, z_step, z_step_ok, z_istr, z_istr_ok, z_env0, List.map_cons, List.map_nil, List.replicate, List.append_nil, Nat.reduceSub, List.cons_append, List.nil_append, List.length_cons, List.length_nil, Nat.reduceAdd, Nat.reduceLeDiff, List.getElem?_cons_zero, List.getElem?_cons_succ, List.set_cons_zero, List.set_cons_succ, Bool.not_true, Bool.not_false, e1, hv, ha]
theorem row_run {s : Bx} {R : MH} (hs : BxOk s) : ∃ (r : Rw) (s' : Bx), rowM [.ref 0] (s.obj :: R) = .ok r.d (s'.obj :: R) ∧ BxOk s' := by
  obtain ⟨x, s1, h1, e1⟩ := rowL_run (R := R) (xs := []) (a2 := some (.int 0)) hs (by decide)
  obtain ⟨y, s2, h2, e2⟩ := rowL_run (R := R) (xs := [Vl.d x]) (a2 := some (.int 1)) h1 (by simp)
  obtain ⟨z, s3, h3, e3⟩ := rowL_run (R := R) (xs := [Vl.d x, Vl.d y]) (a2 := some (.int 2)) h2 (by simp)
  refine ⟨⟨x, y, z⟩, s3, ?_, h3⟩
  have hi : iRange1 (eC (.int 3)) [some (.ref 0), some (.tup []), none] (s.obj :: R) = .ok (.vals [.int 0, .int 1, .int 2]) (s.obj :: R) := rfl
  have lp : forV (tgName 2) rowL [.int 0, .int 1, .int 2] [some (.ref 0), some (.tup []), none] (s.obj :: R) = .nx [some (.ref 0), some (.tup [Vl.d x, Vl.d y, Vl.d z]), some (.int 2)] (s3.obj :: R) := by
    rw [forV, show tgName 2 (.int 0) [some (.ref 0), some (.tup []), none] = some [some (.ref 0), some (.tup []), some (.int 0)] from rfl]
    dsimp only
    rw [e1]
    dsimp only
    rw [forV, show tgName 2 (.int 1) [some (.ref 0), some (.tup ([] ++ [Vl.d x])), some (.int 0)] = some [some (.ref 0), some (.tup [Vl.d x]), some (.int 1)] from rfl]
    dsimp only
    rw [e2]
    dsimp only
    rw [forV, show tgName 2 (.int 2) [some (.ref 0), some (.tup ([Vl.d x] ++ [Vl.d y])), some (.int 1)] = some [some (.ref 0), some (.tup [Vl.d x, Vl.d y]), some (.int 2)] from rfl]
    dsimp only
    rw [e3]
    rfl
  unfold rowM rowB
  rw [z_fn, show env0 3 [.ref 0] = [some (.ref 0), none, none] from rfl]
  have x1 : sSet 1 (eTup eNil) [some (.ref 0), none, none] (s.obj :: R) = .nx [some (.ref 0), some (.tup []), none] (s.obj :: R) := rfl
  rw [seq_run x1 (seq_run (for_nx hi lp) (ret_rt (var_ok rfl)))]
  rfl
end T2
namespace T2
open PySem L2
/-! ### values, columns, rows are checked -/
def valueB (isi : Tg → Tg → Option Bool) : SM :=
    sSeq (sIf (bVal (eBin dIs (eVar 0) (eC .non)))
    (sRet (eC (.bl true)))
    (sNil))
    (sRet (eAnd (eArgs (dIsi isi) (eCons (eVar 0) (eCons (eC (.ty "int")) (eNil)))) (eAnd (eNot (eArgs (dIsi isi) (eCons (eVar 0) (eCons (eC (.ty "bool")) (eNil))))) (eChain dLe dLe (eC (.int 0)) (eVar 0) (eC (.int 2))))))
def valueM (isi : Tg → Tg → Option Bool) : List D → MH → Res D := fnB 1 (valueB isi)
def checkRowL (isi : Tg → Tg → Option Bool) (k : Nat) : SM :=
    sIf (bNot (bVal (eCall 1 (valueM isi) (eCons (eVar 1) (eNil)))))
    (sRaise0 k)
    (sNil)
def checkRowB (isi : Tg → Tg → Option Bool) (k : Nat) : SM :=
    sSeq (sIf (bOr (bNot (bVal (eArgs (dIsi isi) (eCons (eVar 0) (eCons (eC (.ty "tuple")) (eNil)))))) (bVal (eBin dNe (eArgs dLen (eCons (eVar 0) (eNil))) (eC (.int 3)))))
    (sRaise0 k)
    (sNil))
    (sForI (iSeq (eVar 0)) (tgName 1) (checkRowL isi k))
def checkRowM (isi : Tg → Tg → Option Bool) (k : Nat) : List D → MH → Res D := fnB 2 (checkRowB isi k)
def valB : D → Bool
  | .non => true
  | .int i => decide (0 ≤ i) && decide (i ≤ 2)
  | _ => false
/-- what may be asked -/
def Vt (d : D) : Prop := d = .non ∨ (∃ i, d = .int i) ∨ ∃ s, d = .str s
section
variable {isi : Tg → Tg → Option Bool} {M : MH} {d : D} {k : Nat}
theorem value_run (B : IsiB isi) (h : Vt d) : valueM isi [d] M = .ok (.bl (valB d)) M := by
  rcases h with rfl | ⟨i, rfl⟩ | ⟨s, rfl⟩
  · rfl
  · have h1 : dIsi isi [.int i, .ty "int"] M = .ok (.bl true) M := isi_of rfl B.ii
    have h2 : dIsi isi [.int i, .ty "bool"] M = .ok (.bl false) M := isi_of rfl B.ib
    have h0 : dIs (.int i) .non M = .ok (.bl false) M := rfl
    have hc : eChain dLe dLe (eC (.int 0)) (eVar 0) (eC (.int 2)) [some (.int i)] M = .ok (.bl (decide (0 ≤ i) && decide (i ≤ 2))) M := by
      show (match D.bl (decide (0 ≤ i)) with
        | .bl true => Res.ok (D.bl (decide (i ≤ 2))) M
        | .bl false => .ok (.bl false) M
        | _ => .bad) = _
      cases decide (0 ≤ i) <;> rfl
    unfold valueM valueB
    rw [z_fn, show env0 1 [.int i] = [some (.int i)] from rfl]
    simp only [z_seq, z_seq_nx, z_seq_rt, z_seq_ex, z_seq_bk, z_seq_ct, z_if, z_if_t, z_if_f, z_if_x, z_set, z_set_ok, z_set_x, z_ret, z_ret_ok, z_ret_x, z_retN, z_do, z_do_ok, z_do_x, z_nil, z_raise0, z_raise, z_raise_ok, z_toR_rt, z_toR_nx, z_toR_ex, z_c, z_var, z_var_ok, z_un, z_un_ok, z_un_x, z_bin, z_bin_ok, z_bin_x, z_anil, z_cons, z_cons1, z_cons1x, z_cons2, z_cons2x, z_args, z_args_ok, z_args_x, z_tup, z_tup_ok, z_fro, z_fro_ok, z_lst, z_lst_ok, z_call, z_stat, z_call_ok, z_callk, z_callk1, z_callk2, z_mkF, z_mkF_ok, z_own1, z_own1_ok, z_prop, z_own2, z_own2_ok, z_val, z_val_ok, z_val_x, z_and, z_and_t, z_and_f, z_or, z_or_t, z_or_f, z_not, z_not_ok, z_yes, z_eand, z_eand_t, z_eand_f, z_eor, z_eor_t, z_eor_f, z_enot, z_enot_ok, z_eif, z_eif_t, z_eif_f, z_for, z_for_v, z_iseq, z_iseq_t, z_iseq_f, z_iseq_r, z_rng, z_rng_ok, z_env0, z_try, z_try_nx, z_try_rt, z_try0, z_try0_nx, z_try0_rt, z_for_l, z_fv0, z_fv_nx, z_fv_ct, z_fv_rt, z_lc_v, z_step, z_step_ok, z_istr, z_istr_ok, z_env0, List.map_cons, List.map_nil, List.replicate, List.append_nil, Nat.reduceSub, List.cons_append, List.nil_append, List.length_cons, List.length_nil, Nat.reduceAdd, Nat.reduceLeDiff, List.getElem?_cons_zero, List.getElem?_cons_succ, List.set_cons_zero, List.set_cons_succ, Bool.not_true, Bool.not_false, h0, h1, h2, hc, valB]
  · have h1 : dIsi isi [.str s, .ty "int"] M = .ok (.bl false) M := isi_of rfl B.si
    have h0 : dIs (.str s) .non M = .ok (.bl false) M := rfl
    unfold valueM valueB
    rw [z_fn, show env0 1 [.str s] = [some (.str s)] from rfl]
    simp only [z_seq, z_seq_nx, z_seq_rt, z_seq_ex, z_seq_bk, z_seq_ct, z_if, z_if_t, z_if_f, z_if_x, z_set, z_set_ok, z_set_x, z_ret, z_ret_ok, z_ret_x, z_retN, z_do, z_do_ok, z_do_x, z_nil, z_raise0, z_raise, z_raise_ok, z_toR_rt, z_toR_nx, z_toR_ex, z_c, z_var, z_var_ok, z_un, z_un_ok, z_un_x, z_bin, z_bin_ok, z_bin_x, z_anil, z_cons, z_cons1, z_cons1x, z_cons2, z_cons2x, z_args, z_args_ok, z_args_x, z_tup, z_tup_ok, z_fro, z_fro_ok, z_lst, z_lst_ok, z_call, z_stat, z_call_ok, z_callk, z_callk1, z_callk2, z_mkF, z_mkF_ok, z_own1, z_own1_ok, z_prop, z_own2, z_own2_ok, z_val, z_val_ok, z_val_x, z_and, z_and_t, z_and_f, z_or, z_or_t, z_or_f, z_not, z_not_ok, z_yes, z_eand, z_eand_t, z_eand_f, z_eor, z_eor_t, z_eor_f, z_enot, z_enot_ok, z_eif, z_eif_t, z_eif_f, z_for, z_for_v, z_iseq, z_iseq_t, z_iseq_f, z_iseq_r, z_rng, z_rng_ok, z_env0, z_try, z_try_nx, z_try_rt, z_try0, z_try0_nx, z_try0_rt, z_for_l, z_fv0, z_fv_nx, z_fv_ct, z_fv_rt, z_lc_v, z_step, z_step_ok, z_istr, z_istr_ok, z_env0, List.map_cons, List.map_nil, List.replicate, List.append_nil, Nat.reduceSub, List.cons_append, List.nil_append, List.length_cons, List.length_nil, Nat.reduceAdd, Nat.reduceLeDiff, List.getElem?_cons_zero, List.getElem?_cons_succ, List.set_cons_zero, List.set_cons_succ, Bool.not_true, Bool.not_false, h0, h1, valB]
theorem checkRow_loop (B : IsiB isi) {a0 : Option D} : ∀ (ds : List D) (a1 : Option D), (∀ d ∈ ds, Vt d) → (ds.all valB = true ∧ ∃ b1, forV (tgName 1) (checkRowL isi k) ds [a0, a1] M = .nx [a0, b1] M) ∨ (ds.all valB = false ∧ ∃ e, forV (tgName 1) (checkRowL isi k) ds [a0, a1] M = .ex k [] [] e M)
  | [], a1, _ => .inl ⟨rfl, a1, rfl⟩
  | d :: ds, a1, h => by
    have hv := value_run (M := M) B (h d (by simp))
    have tg : tgName 1 d [a0, a1] = some [a0, some d] := rfl
    cases hb : valB d
    · rw [hb] at hv
      have body : checkRowL isi k [a0, some d] M = .ex k [] [] [a0, some d] M := by
        unfold checkRowL
        simp only [z_seq, z_seq_nx, z_seq_rt, z_seq_ex, z_seq_bk, z_seq_ct, z_if, z_if_t, z_if_f, z_if_x, z_set, z_set_ok, z_set_x, z_ret, z_ret_ok, z_ret_x, z_retN, z_do, z_do_ok, z_do_x, z_nil, z_raise0, z_raise, z_raise_ok, z_toR_rt, z_toR_nx, z_toR_ex, z_c, z_var, z_var_ok, z_un, z_un_ok, z_un_x, z_bin, z_bin_ok, z_bin_x, z_anil, z_cons, z_cons1, z_cons1x, z_cons2, z_cons2x, z_args, z_args_ok, z_args_x, z_tup, z_tup_ok, z_fro, z_fro_ok, z_lst, z_lst_ok, z_call, z_stat, z_call_ok, z_callk, z_callk1, z_callk2, z_mkF, z_mkF_ok, z_own1, z_own1_ok, z_prop, z_own2, z_own2_ok, z_val, z_val_ok, z_val_x, z_and, z_and_t, z_and_f, z_or, z_or_t, z_or_f, z_not, z_not_ok, z_yes, z_eand, z_eand_t, z_eand_f, z_eor, z_eor_t, z_eor_f, z_enot, z_enot_ok, z_eif, z_eif_t, z_eif_f, z_for, z_for_v, z_iseq, z_iseq_t, z_iseq_f, z_iseq_r, z_rng, z_rng_ok, z_env0, z_try, z_try_nx, z_try_rt, z_try0, z_try0_nx, z_try0_rt, z_for_l, z_fv0, z_fv_nx, z_fv_ct, z_fv_rt, z_lc_v, z_step, z_step_ok, z_istr, z_istr_ok, z_env0, List.map_cons, List.map_nil, List.replicate, List.append_nil, Nat.reduceSub, List.cons_append, List.nil_append, List.length_cons, List.length_nil, Nat.reduceAdd, Nat.reduceLeDiff, List.getElem?_cons_zero, List.getElem?_cons_succ, List.set_cons_zero, List.set_cons_succ, Bool.not_true, Bool.not_false, hv]
      right
      refine ⟨by rw [List.all_cons, hb]; rfl, [a0, some d], ?_⟩
      rw [forV, tg]
      dsimp only
      rw [body]
    · rw [hb] at hv
      have body : checkRowL isi k [a0, some d] M = .nx [a0, some d] M := by
        unfold checkRowL
        simp only [z_seq, z_seq_nx, z_seq_rt, z_seq_ex, z_seq_bk, z_seq_ct, z_if, z_if_t, z_if_f, z_if_x, z_set, z_set_ok, z_set_x, z_ret, z_ret_ok, z_ret_x, z_retN, z_do, z_do_ok, z_do_x, z_nil, z_raise0, z_raise, z_raise_ok, z_toR_rt, z_toR_nx, z_toR_ex, z_c, z_var, z_var_ok, z_un, z_un_ok, z_un_x, z_bin, z_bin_ok, z_bin_x, z_anil, z_cons, z_cons1, z_cons1x, z_cons2, z_cons2x, z_args, z_args_ok, z_args_x, z_tup, z_tup_ok, z_fro, z_fro_ok, z_lst, z_lst_ok, z_call, z_stat, z_call_ok, z_callk, z_callk1, z_callk2, z_mkF, z_mkF_ok, z_own1, z_own1_ok, z_prop, z_own2, z_own2_ok, z_val, z_val_ok, z_val_x, z_and, z_and_t, z_and_f, z_or, z_or_t, z_or_f, z_not, z_not_ok, z_yes, z_eand, z_eand_t, z_eand_f, z_eor, z_eor_t, z_eor_f, z_enot, z_enot_ok, z_eif, z_eif_t, z_eif_f, z_for, z_for_v, z_iseq, z_iseq_t, z_iseq_f, z_iseq_r, z_rng, z_rng_ok, z_env0, z_try, z_try_nx, z_try_rt, z_try0, z_try0_nx, z_try0_rt, z_for_l, z_fv0, z_fv_nx, z_fv_ct, z_fv_rt, z_lc_v, z_step, z_step_ok, z_istr, z_istr_ok, z_env0, List.map_cons, List.map_nil, List.replicate, List.append_nil, Nat.reduceSub, List.cons_append, List.nil_append, List.length_cons, List.length_nil, Nat.reduceAdd, Nat.reduceLeDiff, List.getElem?_cons_zero, List.getElem?_cons_succ, List.set_cons_zero, List.set_cons_succ, Bool.not_true, Bool.not_false, hv]
      rw [List.all_cons, hb, Bool.true_and, forV, tg]
      dsimp only
      rw [body]
      exact checkRow_loop B ds (some d) fun x hx => h x (by simp [hx])
theorem checkRow_run (B : IsiB isi) {ds : List D} (h : ∀ d ∈ ds, Vt d) : checkRowM isi k [.tup ds] M = if (decide (ds.length = 3) && ds.all valB) = true then .ok .non M else .exc k [] [] M := by
  have h1 : dIsi isi [.tup ds, .ty "tuple"] M = .ok (.bl true) M := isi_of rfl B.tt
  have hl : dLen [.tup ds] M = .ok (.int (ds.length : Nat)) M := rfl
  unfold checkRowM checkRowB
  rw [z_fn, show env0 2 [.tup ds] = [some (.tup ds), none] from rfl]
  have e3 : (((ds.length : Nat) : Int) == 3) = decide (ds.length = 3) := by
    rw [Bool.eq_iff_iff]; simp only [beq_iff_eq, decide_eq_true_eq]; omega
  have hi : iSeq (eVar 0) [some (.tup ds), none] M = .ok (.vals ds) M := rfl
  cases hd : decide (ds.length = 3)
  · rw [Bool.false_and, if_neg (by simp)]
    rw [hd] at e3
    simp only [z_seq, z_seq_nx, z_seq_rt, z_seq_ex, z_seq_bk, z_seq_ct, z_if, z_if_t, z_if_f, z_if_x, z_set, z_set_ok, z_set_x, z_ret, z_ret_ok, z_ret_x, z_retN, z_do, z_do_ok, z_do_x, z_nil, z_raise0, z_raise, z_raise_ok, z_toR_rt, z_toR_nx, z_toR_ex, z_c, z_var, z_var_ok, z_un, z_un_ok, z_un_x, z_bin, z_bin_ok, z_bin_x, z_anil, z_cons, z_cons1, z_cons1x, z_cons2, z_cons2x, z_args, z_args_ok, z_args_x, z_tup, z_tup_ok, z_fro, z_fro_ok, z_lst, z_lst_ok, z_call, z_stat, z_call_ok, z_callk, z_callk1, z_callk2, z_mkF, z_mkF_ok, z_own1, z_own1_ok, z_prop, z_own2, z_own2_ok, z_val, z_val_ok, z_val_x, z_and, z_and_t, z_and_f, z_or, z_or_t, z_or_f, z_not, z_not_ok, z_yes, z_eand, z_eand_t, z_eand_f, z_eor, z_eor_t, z_eor_f, z_enot, z_enot_ok, z_eif, z_eif_t, z_eif_f, z_for, z_for_v, z_iseq, z_iseq_t, z_iseq_f, z_iseq_r, z_rng, z_rng_ok, z_env0, z_try, z_try_nx, z_try_rt, z_try0, z_try0_nx, z_try0_rt, z_for_l, z_fv0, z_fv_nx, z_fv_ct, z_fv_rt, z_lc_v, z_step, z_step_ok, z_istr, z_istr_ok, z_env0, List.map_cons, List.map_nil, List.replicate, List.append_nil, Nat.reduceSub, List.cons_append, List.nil_append, List.length_cons, List.length_nil, Nat.reduceAdd, Nat.reduceLeDiff, List.getElem?_cons_zero, List.getElem?_cons_succ, List.set_cons_zero, List.set_cons_succ, Bool.not_true, Bool.not_false, h1, hl, ne_int, e3]
  · rw [Bool.true_and]
    rw [hd] at e3
    have x1 : sIf (bOr (bNot (bVal (eArgs (dIsi isi) (eCons (eVar 0) (eCons (eC (.ty "tuple")) (eNil)))))) (bVal (eBin dNe (eArgs dLen (eCons (eVar 0) (eNil))) (eC (.int 3))))) (sRaise0 k) (sNil) [some (.tup ds), none] M = .nx [some (.tup ds), none] M := by
      simp only [z_seq, z_seq_nx, z_seq_rt, z_seq_ex, z_seq_bk, z_seq_ct, z_if, z_if_t, z_if_f, z_if_x, z_set, z_set_ok, z_set_x, z_ret, z_ret_ok, z_ret_x, z_retN, z_do, z_do_ok, z_do_x, z_nil, z_raise0, z_raise, z_raise_ok, z_toR_rt, z_toR_nx, z_toR_ex, z_c, z_var, z_var_ok, z_un, z_un_ok, z_un_x, z_bin, z_bin_ok, z_bin_x, z_anil, z_cons, z_cons1, z_cons1x, z_cons2, z_cons2x, z_args, z_args_ok, z_args_x, z_tup, z_tup_ok, z_fro, z_fro_ok, z_lst, z_lst_ok, z_call, z_stat, z_call_ok, z_callk, z_callk1, z_callk2, z_mkF, z_mkF_ok, z_own1, z_own1_ok, z_prop, z_own2, z_own2_ok, z_val, z_val_ok, z_val_x, z_and, z_and_t, z_and_f, z_or, z_or_t, z_or_f, z_not, z_not_ok, z_yes, z_eand, z_eand_t, z_eand_f, z_eor, z_eor_t, z_eor_f, z_enot, z_enot_ok, z_eif, z_eif_t, z_eif_f, z_for, z_for_v, z_iseq, z_iseq_t, z_iseq_f, z_iseq_r, z_rng, z_rng_ok, z_env0, z_try, z_try_nx, z_try_rt, z_try0, z_try0_nx, z_try0_rt, z_for_l, z_fv0, z_fv_nx, z_fv_ct, z_fv_rt, z_lc_v, z_step, z_step_ok, z_istr, z_istr_ok, z_env0, List.map_cons, List.map_nil, List.replicate, List.append_nil, Nat.reduceSub, List.cons_append, List.nil_append, List.length_cons, List.length_nil, Nat.reduceAdd, Nat.reduceLeDiff, List.getElem?_cons_zero, List.getElem?_cons_succ, List.set_cons_zero, List.set_cons_succ, Bool.not_true, Bool.not_false, h1, hl, ne_int, e3]
    rw [seq_run x1 rfl]
    rcases checkRow_loop (k := k) (M := M) (a0 := some (.tup ds)) B ds none h with ⟨ha, b1, e⟩ | ⟨ha, e', e⟩
    · rw [ha, if_pos rfl, z_for, hi, z_for_v, e]; rfl
    · rw [ha, if_neg (by simp), z_for, hi, z_for_v, e]; rfl
end
end T2
namespace T2
open PySem L2
/-! ### names are checked -/
def alpha : Str := "abcdefghijklmnopqrstuvwxyz"
def nameB (isi : Tg → Tg → Option Bool) : SM :=
    sSeq (sIf (bOr (bNot (bVal (eArgs (dIsi isi) (eCons (eVar 0) (eCons (eC (.ty "str")) (eNil)))))) (bOr (bNot (bVal (eChain dLe dLe (eC (.int 1)) (eArgs dLen (eCons (eVar 0) (eNil))) (eC (.int 8))))) (bVal (eBin dInA (eVar 0) (eC (.tup [(.str "on"), (.str "set"), (.str "new")]))))))
    (sRet (eC (.bl false)))
    (sNil))
    (sRet (eArgs (dAllB fun bs => bs.all id) (eCons (eLc (iStrD (eVar 0)) (tgName 1) (bYes) (eBin dInA (eVar 1) (eC (.str "abcdefghijklmnopqrstuvwxyz"))) [1]) (eNil))))
def nameM (isi : Tg → Tg → Option Bool) : List D → MH → Res D := fnB 2 (nameB isi)
def badWord (z : Str) : Bool := decide (z ∈ [("on" : Str), "set", "new"])
def lenOkB (z : Str) : Bool := decide ((1 : Int) ≤ z.length) && decide ((z.length : Int) ≤ 8)
def signsOkB (z : Str) : Bool := z.cps.toList.all fun c => decide (c ∈ alpha.cps.toList)
def nameOkB (z : Str) : Bool := lenOkB z && !badWord z && signsOkB z
theorem in_words {z : Str} {M : MH} : dInA (.str z) (.tup [.str "on", .str "set", .str "new"]) M = .ok (.bl (badWord z)) M := by
  rw [words3]
  unfold dInA inResA inRes items
  dsimp only
  rw [if_pos ⟨rfl, flat_strs _⟩, in_strs]
  rfl
theorem in_alpha {c : Nat} {M : MH} : dInA (.str ⟨#[c]⟩) (.str alpha) M = .ok (.bl (decide (c ∈ alpha.cps.toList))) M := rfl
theorem bls_map {α : Type} (f : α → Bool) : ∀ xs : List α, blsOf (xs.map fun x => D.bl (f x)) = some (xs.map f)
  | [] => rfl
  | x :: xs => by
    rw [List.map_cons, List.map_cons, blsOf, bls_map f xs]
    rfl
def signOf : D → D
  | .str w => .bl (match w.cps.toList with
    | [c] => decide (c ∈ alpha.cps.toList)
    | _ => false)
  | _ => .non
section
variable {isi : Tg → Tg → Option Bool} {M : MH}
theorem len_chain {z : Str} {o : Option D} (hz : z.length ≤ big) : eChain dLe dLe (eC (.int 1)) (eArgs dLen (eCons (eVar 0) (eNil))) (eC (.int 8)) [some (.str z), o] M = .ok (.bl (lenOkB z)) M := by
  have h1 : eArgs dLen (eCons (eVar 0) eNil) [some (.str z), o] M = .ok (.int z.length) M := by
    show (if z.length ≤ big then Res.ok (D.int z.length) M else .bad) = _
    rw [if_pos hz]
  have h2 : ∀ i j : Int, dLe (.int i) (.int j) M = .ok (.bl (decide (i ≤ j))) M := fun i j => rfl
  unfold eChain
  show Res.bind (eArgs dLen (eCons (eVar 0) eNil) [some (.str z), o] M) _ = _
  rw [h1, Res.bind_ok, h2, Res.bind_ok]
  unfold lenOkB
  cases decide ((1 : Int) ≤ z.length)
  · rfl
  · show dLe (.int z.length) (.int 8) M = _
    rw [h2]
    rfl
theorem name_run (B : IsiB isi) {z : Str} (hz : z.length ≤ big) : ∃ x, nameM isi [.str z] M = .ok (.bl (nameOkB z)) (M ++ x) := by
  have h1 : dIsi isi [.str z, .ty "str"] M = .ok (.bl true) M := isi_of rfl B.ss
  have h2 := len_chain (M := M) (o := none) hz
  have h3 := in_words (z := z) (M := M)
  unfold nameM nameB nameOkB
  rw [z_fn, show env0 2 [.str z] = [some (.str z), none] from rfl]
  cases hl : lenOkB z
  · rw [hl] at h2
    refine ⟨[], ?_⟩
    rw [List.append_nil]
    simp only [z_seq, z_seq_nx, z_seq_rt, z_seq_ex, z_seq_bk, z_seq_ct, z_if, z_if_t, z_if_f, z_if_x, z_set, z_set_ok, z_set_x, z_ret, z_ret_ok, z_ret_x, z_retN, z_do, z_do_ok, z_do_x, z_nil, z_raise0, z_raise, z_raise_ok, z_toR_rt, z_toR_nx, z_toR_ex, z_c, z_var, z_var_ok, z_un, z_un_ok, z_un_x, z_bin, z_bin_ok, z_bin_x, z_anil, z_cons, z_cons1, z_cons1x, z_cons2, z_cons2x, z_args, z_args_ok, z_args_x, z_tup, z_tup_ok, z_fro, z_fro_ok, z_lst, z_lst_ok, z_call, z_stat, z_call_ok, z_callk, z_callk1, z_callk2, z_mkF, z_mkF_ok, z_own1, z_own1_ok, z_prop, z_own2, z_own2_ok, z_val, z_val_ok, z_val_x, z_and, z_and_t, z_and_f, z_or, z_or_t, z_or_f, z_not, z_not_ok, z_yes, z_eand, z_eand_t, z_eand_f, z_eor, z_eor_t, z_eor_f, z_enot, z_enot_ok, z_eif, z_eif_t, z_eif_f, z_for, z_for_v, z_iseq, z_iseq_t, z_iseq_f, z_iseq_r, z_rng, z_rng_ok, z_env0, z_try, z_try_nx, z_try_rt, z_try0, z_try0_nx, z_try0_rt, z_for_l, z_fv0, z_fv_nx, z_fv_ct, z_fv_rt, z_lc_v, z_step, z_step_ok, z_istr, z_istr_ok, z_env0, List.map_cons, List.map_nil, List.replicate, List.append_nil, Nat.reduceSub, List.cons_append, List.nil_append, List.length_cons, List.length_nil, Nat.reduceAdd, Nat.reduceLeDiff, List.getElem?_cons_zero, List.getElem?_cons_succ, List.set_cons_zero, List.set_cons_succ, Bool.not_true, Bool.not_false, h1, h2, Bool.false_and]
  · rw [hl] at h2
    cases hw : badWord z
    · rw [hw] at h3
      have hlen : z.cps.toList.length ≤ 1000 := by
        unfold lenOkB at hl
        rw [Bool.and_eq_true, decide_eq_true_eq, decide_eq_true_eq] at hl
        have : z.cps.toList.length = z.length := by simp [Str.length]
        omega
      have hlc : eLc (iStrD (eVar 0)) (tgName 1) (bYes) (eBin dInA (eVar 1) (eC (.str "abcdefghijklmnopqrstuvwxyz"))) [1] [some (.str z), none] M = .ok (.ref M.length) (M ++ [.lst (z.cps.toList.map fun c => D.bl (decide (c ∈ alpha.cps.toList)))]) := by
        have hi : iStrD (eVar 0) [some (.str z), none] M = .ok (.vals (signsOf z)) M := rfl
        have hn : (M ++ [MO.lst []])[M.length]? = some (.lst []) := by simp
        rw [z_lc, hi, z_lc_v, lc_map (f := signOf) (signsOf z) [] _ hn (fun x hx acc => by
          obtain ⟨c, _, rfl⟩ := List.mem_map.mp hx
          rw [z_step]
          show qStep (dInA (.str ⟨#[c]⟩) (.str alpha) _) = _
          rw [in_alpha, z_step_ok]
          rfl) (by rw [signs_len]; simpa using hlen)]
        have he : (signsOf z).map signOf = z.cps.toList.map fun c => D.bl (decide (c ∈ alpha.cps.toList)) := by
          unfold signsOf
          rw [List.map_map]
          rfl
        rw [he]
        simp
      have hal : dAllB (fun bs => bs.all id) [.ref M.length] (M ++ [.lst (z.cps.toList.map fun c => D.bl (decide (c ∈ alpha.cps.toList)))]) = .ok (.bl (signsOkB z)) (M ++ [.lst (z.cps.toList.map fun c => D.bl (decide (c ∈ alpha.cps.toList)))]) := by
        have hit : listItems (M ++ [.lst (z.cps.toList.map fun c => D.bl (decide (c ∈ alpha.cps.toList)))]) (.ref M.length) = some (z.cps.toList.map fun c => D.bl (decide (c ∈ alpha.cps.toList))) := by
          unfold listItems
          simp
        unfold dAllB
        dsimp only
        rw [hit]
        dsimp only
        rw [bls_map]
        dsimp only
        unfold signsOkB
        rw [List.all_map]
        rfl
      refine ⟨[.lst (z.cps.toList.map fun c => D.bl (decide (c ∈ alpha.cps.toList)))], ?_⟩
      simp only [z_seq, z_seq_nx, z_seq_rt, z_seq_ex, z_seq_bk, z_seq_ct, z_if, z_if_t, z_if_f, z_if_x, z_set, z_set_ok, z_set_x, z_ret, z_ret_ok, z_ret_x, z_retN, z_do, z_do_ok, z_do_x, z_nil, z_raise0, z_raise, z_raise_ok, z_toR_rt, z_toR_nx, z_toR_ex, z_c, z_var, z_var_ok, z_un, z_un_ok, z_un_x, z_bin, z_bin_ok, z_bin_x, z_anil, z_cons, z_cons1, z_cons1x, z_cons2, z_cons2x, z_args, z_args_ok, z_args_x, z_tup, z_tup_ok, z_fro, z_fro_ok, z_lst, z_lst_ok, z_call, z_stat, z_call_ok, z_callk, z_callk1, z_callk2, z_mkF, z_mkF_ok, z_own1, z_own1_ok, z_prop, z_own2, z_own2_ok, z_val, z_val_ok, z_val_x, z_and, z_and_t, z_and_f, z_or, z_or_t, z_or_f, z_not, z_not_ok, z_yes, z_eand, z_eand_t, z_eand_f, z_eor, z_eor_t, z_eor_f, z_enot, z_enot_ok, z_eif, z_eif_t, z_eif_f, z_for, z_for_v, z_iseq, z_iseq_t, z_iseq_f, z_iseq_r, z_rng, z_rng_ok, z_env0, z_try, z_try_nx, z_try_rt, z_try0, z_try0_nx, z_try0_rt, z_for_l, z_fv0, z_fv_nx, z_fv_ct, z_fv_rt, z_lc_v, z_step, z_step_ok, z_istr, z_istr_ok, z_env0, List.map_cons, List.map_nil, List.replicate, List.append_nil, Nat.reduceSub, List.cons_append, List.nil_append, List.length_cons, List.length_nil, Nat.reduceAdd, Nat.reduceLeDiff, List.getElem?_cons_zero, List.getElem?_cons_succ, List.set_cons_zero, List.set_cons_succ, Bool.not_true, Bool.not_false, h1, h2, h3, hlc, hal, Bool.true_and, Bool.not_false]
    · rw [hw] at h3
      refine ⟨[], ?_⟩
      rw [List.append_nil]
      simp only [z_seq, z_seq_nx, z_seq_rt, z_seq_ex, z_seq_bk, z_seq_ct, z_if, z_if_t, z_if_f, z_if_x, z_set, z_set_ok, z_set_x, z_ret, z_ret_ok, z_ret_x, z_retN, z_do, z_do_ok, z_do_x, z_nil, z_raise0, z_raise, z_raise_ok, z_toR_rt, z_toR_nx, z_toR_ex, z_c, z_var, z_var_ok, z_un, z_un_ok, z_un_x, z_bin, z_bin_ok, z_bin_x, z_anil, z_cons, z_cons1, z_cons1x, z_cons2, z_cons2x, z_args, z_args_ok, z_args_x, z_tup, z_tup_ok, z_fro, z_fro_ok, z_lst, z_lst_ok, z_call, z_stat, z_call_ok, z_callk, z_callk1, z_callk2, z_mkF, z_mkF_ok, z_own1, z_own1_ok, z_prop, z_own2, z_own2_ok, z_val, z_val_ok, z_val_x, z_and, z_and_t, z_and_f, z_or, z_or_t, z_or_f, z_not, z_not_ok, z_yes, z_eand, z_eand_t, z_eand_f, z_eor, z_eor_t, z_eor_f, z_enot, z_enot_ok, z_eif, z_eif_t, z_eif_f, z_for, z_for_v, z_iseq, z_iseq_t, z_iseq_f, z_iseq_r, z_rng, z_rng_ok, z_env0, z_try, z_try_nx, z_try_rt, z_try0, z_try0_nx, z_try0_rt, z_for_l, z_fv0, z_fv_nx, z_fv_ct, z_fv_rt, z_lc_v, z_step, z_step_ok, z_istr, z_istr_ok, z_env0, List.map_cons, List.map_nil, List.replicate, List.append_nil, Nat.reduceSub, List.cons_append, List.nil_append, List.length_cons, List.length_nil, Nat.reduceAdd, Nat.reduceLeDiff, List.getElem?_cons_zero, List.getElem?_cons_succ, List.set_cons_zero, List.set_cons_succ, Bool.not_true, Bool.not_false, h1, h2, h3, Bool.true_and, Bool.not_true, Bool.false_and]
end
end T2
namespace T2
open PySem L2
/-! ### the laws' own check of a name -/
def lawNameB : SM :=
    sSeq (sIf (bOr (bVal (eBin dLt (eArgs dLen (eCons (eVar 0) (eNil))) (eC (.int 1)))) (bOr (bVal (eBin dGt (eArgs dLen (eCons (eVar 0) (eNil))) (eC (.int 8)))) (bVal (eBin dInA (eVar 0) (eFro (eCons (eC (.str "on")) (eCons (eC (.str "set")) (eCons (eC (.str "new")) (eNil)))))))))
    (sRet (eC (.bl false)))
    (sNil))
    (sRet (eBin dEq (eLc (iStrD (eVar 0)) (tgName 1) (bVal (eBin dNotInA (eVar 1) (eC (.str "abcdefghijklmnopqrstuvwxyz")))) (eVar 1) [1]) (eFro (eNil))))
def lawNameM : List D → MH → Res D := fnB 2 lawNameB
def notSign : D → Bool
  | .str w => !(match w.cps.toList with
    | [c] => decide (c ∈ alpha.cps.toList)
    | _ => false)
  | _ => false
section
variable {M : MH}
theorem in_wordsF {z : Str} : dInA (.str z) (.fro [.str "on", .str "set", .str "new"]) M = .ok (.bl (badWord z)) M := by
  rw [words3]
  unfold dInA inResA inRes items
  dsimp only
  rw [if_pos ⟨rfl, flat_strs _⟩, in_strs]
  rfl
/-- a list of plain data is compared as the data -/
theorem eq_lst {n : Nat} {ds : List D} {y : D} (h : M[n]? = some (.lst ds)) (hn : ∀ a ∈ ds, Nb 3 a) : dEq (.ref n) y M = dEq (.fro ds) y M := by
  obtain ⟨p, h1, -, -⟩ := nb_P (nb_fro hn)
  have e : toP M 4 (.ref n) = toP M 4 (.fro ds) := by
    have a1 := h1 (rfOf M 3)
    have a2 := h1 (rfOf M 4)
    rw [toP_ref, h]
    dsimp only
    rw [← toP_fro]
    unfold toP
    rw [a1, a2]
  unfold dEq
  rw [e]
theorem lawName_run {z : Str} (hz : z.length ≤ big) (hs : PyData.strOk z = true) : ∃ x, lawNameM [.str z] M = .ok (.bl (nameOkB z)) (M ++ x) := by
  have hL : dLen [.str z] M = .ok (.int z.length) M := by
    show (if z.length ≤ big then Res.ok (D.int z.length) M else .bad) = _
    rw [if_pos hz]
  have h3 := in_wordsF (z := z) (M := M)
  have hF : eFro (eCons (eC (.str "on")) (eCons (eC (.str "set")) (eCons (eC (.str "new")) (eNil)))) [some (.str z), none] M = .ok (.fro [.str "on", .str "set", .str "new"]) M := rfl
  have hb : badWord z = badWord z := rfl
  have c1 : dLt (.int z.length) (.int 1) M = .ok (.bl (decide ((z.length : Int) < 1))) M := rfl
  have c2 : dGt (.int z.length) (.int 8) M = .ok (.bl (decide ((8 : Int) < z.length))) M := rfl
  unfold lawNameM lawNameB nameOkB
  rw [z_fn, show env0 2 [.str z] = [some (.str z), none] from rfl]
  have hlb : lenOkB z = (!decide ((z.length : Int) < 1) && !decide ((8 : Int) < z.length)) := by
    unfold lenOkB
    rw [Bool.eq_iff_iff]
    simp only [Bool.and_eq_true, decide_eq_true_eq, Bool.not_eq_true', decide_eq_false_iff_not]
    omega
  rw [hlb]
  cases k1 : decide ((z.length : Int) < 1)
  · cases k2 : decide ((8 : Int) < z.length)
    · rw [k1] at c1
      rw [k2] at c2
      cases hw : badWord z
      · rw [hw] at h3
        have hlen : z.cps.toList.length ≤ 1000 := by
          rw [decide_eq_false_iff_not] at k2
          have : z.cps.toList.length = z.length := by simp [Str.length]
          omega
        have hi : iStrD (eVar 0) [some (.str z), none] M = .ok (.vals (signsOf z)) M := rfl
        have hlc : eLc (iStrD (eVar 0)) (tgName 1) (bVal (eBin dNotInA (eVar 1) (eC (.str "abcdefghijklmnopqrstuvwxyz")))) (eVar 1) [1] [some (.str z), none] M = .ok (.ref M.length) (M ++ [.lst ((signsOf z).filter notSign)]) := by
          rw [z_lc, hi, z_lc_v, lc_filter (signsOf z) (p := notSign) (g := id) (fun x hx acc => by
            obtain ⟨c, _, rfl⟩ := List.mem_map.mp hx
            exact step_if rfl fun _ => rfl) [] (by rw [signs_len]; simpa using hlen)]
          simp
        have hnb : ∀ a ∈ (signsOf z).filter notSign, Nb 3 a := fun a ha => by
          obtain ⟨c, hc, rfl⟩ := List.mem_map.mp (List.mem_filter.mp ha).1
          refine nb_str ?_
          unfold PyData.strOk at hs ⊢
          rw [Array.all_eq_true_iff_forall_mem] at hs ⊢
          intro x hx
          have : x = c := by simpa using hx
          rw [this]
          exact hs c (by simpa using hc)
        have heq : dEq (.ref M.length) (.fro []) (M ++ [.lst ((signsOf z).filter notSign)]) = .ok (.bl (signsOkB z)) (M ++ [.lst ((signsOf z).filter notSign)]) := by
          rw [eq_lst (ds := (signsOf z).filter notSign) (by simp) hnb, eq_nb (k := 4) (by decide) (nb_fro hnb) (nb_fro fun a h => absurd h (by simp))]
          congr 2
          unfold signsOkB
          rw [Bool.eq_iff_iff, List.all_eq_true]
          constructor
          · intro h0 c hc
            have h := @of_decide_eq_true _ (_) h0
            have h' : (signsOf z).filter notSign = [] := by injection h
            rw [List.filter_eq_nil_iff] at h'
            have := h' (.str ⟨#[c]⟩) (List.mem_map.mpr ⟨c, hc, rfl⟩)
            simpa [notSign] using this
          · intro h
            refine @decide_eq_true _ (_) ?_
            have h' : (signsOf z).filter notSign = [] := by
              rw [List.filter_eq_nil_iff]
              intro a ha
              obtain ⟨c, hc, rfl⟩ := List.mem_map.mp ha
              have := h c hc
              simpa [notSign] using this
            rw [h']
        have hF0 : ∀ M', eFro eNil [some (.str z), none] M' = .ok (.fro []) M' := fun _ => rfl
        refine ⟨[.lst ((signsOf z).filter notSign)], ?_⟩
        simp only [z_seq, z_seq_nx, z_seq_rt, z_seq_ex, z_seq_bk, z_seq_ct, z_if, z_if_t, z_if_f, z_if_x, z_set, z_set_ok, z_set_x, z_ret, z_ret_ok, z_ret_x, z_retN, z_do, z_do_ok, z_do_x, z_nil, z_raise0, z_raise, z_raise_ok, z_toR_rt, z_toR_nx, z_toR_ex, z_c, z_var, z_var_ok, z_un, z_un_ok, z_un_x, z_bin, z_bin_ok, z_bin_x, z_anil, z_cons, z_cons1, z_cons1x, z_cons2, z_cons2x, z_args, z_args_ok, z_args_x, z_tup, z_tup_ok, z_fro, z_fro_ok, z_lst, z_lst_ok, z_call, z_stat, z_call_ok, z_callk, z_callk1, z_callk2, z_mkF, z_mkF_ok, z_own1, z_own1_ok, z_prop, z_own2, z_own2_ok, z_val, z_val_ok, z_val_x, z_and, z_and_t, z_and_f, z_or, z_or_t, z_or_f, z_not, z_not_ok, z_yes, z_eand, z_eand_t, z_eand_f, z_eor, z_eor_t, z_eor_f, z_enot, z_enot_ok, z_eif, z_eif_t, z_eif_f, z_for, z_for_v, z_iseq, z_iseq_t, z_iseq_f, z_iseq_r, z_rng, z_rng_ok, z_env0, z_try, z_try_nx, z_try_rt, z_try0, z_try0_nx, z_try0_rt, z_for_l, z_fv0, z_fv_nx, z_fv_ct, z_fv_rt, z_lc_v, z_step, z_step_ok, z_istr, z_istr_ok, z_env0, List.map_cons, List.map_nil, List.replicate, List.append_nil, Nat.reduceSub, List.cons_append, List.nil_append, List.length_cons, List.length_nil, Nat.reduceAdd, Nat.reduceLeDiff, List.getElem?_cons_zero, List.getElem?_cons_succ, List.set_cons_zero, List.set_cons_succ, Bool.not_true, Bool.not_false, hL, hF, hF0, c1, c2, h3, hlc, heq, Bool.true_and, Bool.not_false]
      · rw [hw] at h3
        refine ⟨[], ?_⟩
        rw [List.append_nil]
        simp only [z_seq, z_seq_nx, z_seq_rt, z_seq_ex, z_seq_bk, z_seq_ct, z_if, z_if_t, z_if_f, z_if_x, z_set, z_set_ok, z_set_x, z_ret, z_ret_ok, z_ret_x, z_retN, z_do, z_do_ok, z_do_x, z_nil, z_raise0, z_raise, z_raise_ok, z_toR_rt, z_toR_nx, z_toR_ex, z_c, z_var, z_var_ok, z_un, z_un_ok, z_un_x, z_bin, z_bin_ok, z_bin_x, z_anil, z_cons, z_cons1, z_cons1x, z_cons2, z_cons2x, z_args, z_args_ok, z_args_x, z_tup, z_tup_ok, z_fro, z_fro_ok, z_lst, z_lst_ok, z_call, z_stat, z_call_ok, z_callk, z_callk1, z_callk2, z_mkF, z_mkF_ok, z_own1, z_own1_ok, z_prop, z_own2, z_own2_ok, z_val, z_val_ok, z_val_x, z_and, z_and_t, z_and_f, z_or, z_or_t, z_or_f, z_not, z_not_ok, z_yes, z_eand, z_eand_t, z_eand_f, z_eor, z_eor_t, z_eor_f, z_enot, z_enot_ok, z_eif, z_eif_t, z_eif_f, z_for, z_for_v, z_iseq, z_iseq_t, z_iseq_f, z_iseq_r, z_rng, z_rng_ok, z_env0, z_try, z_try_nx, z_try_rt, z_try0, z_try0_nx, z_try0_rt, z_for_l, z_fv0, z_fv_nx, z_fv_ct, z_fv_rt, z_lc_v, z_step, z_step_ok, z_istr, z_istr_ok, z_env0, List.map_cons, List.map_nil, List.replicate, List.append_nil, Nat.reduceSub, List.cons_append, List.nil_append, List.length_cons, List.length_nil, Nat.reduceAdd, Nat.reduceLeDiff, List.getElem?_cons_zero, List.getElem?_cons_succ, List.set_cons_zero, List.set_cons_succ, Bool.not_true, Bool.not_false, hL, hF, c1, c2, h3, Bool.true_and, Bool.not_false, Bool.not_true, Bool.false_and]
    · rw [k1] at c1
      rw [k2] at c2
      refine ⟨[], ?_⟩
      rw [List.append_nil]
      simp only [z_seq, z_seq_nx, z_seq_rt, z_seq_ex, z_seq_bk, z_seq_ct, z_if, z_if_t, z_if_f, z_if_x, z_set, z_set_ok, z_set_x, z_ret, z_ret_ok, z_ret_x, z_retN, z_do, z_do_ok, z_do_x, z_nil, z_raise0, z_raise, z_raise_ok, z_toR_rt, z_toR_nx, z_toR_ex, z_c, z_var, z_var_ok, z_un, z_un_ok, z_un_x, z_bin, z_bin_ok, z_bin_x, z_anil, z_cons, z_cons1, z_cons1x, z_cons2, z_cons2x, z_args, z_args_ok, z_args_x, z_tup, z_tup_ok, z_fro, z_fro_ok, z_lst, z_lst_ok, z_call, z_stat, z_call_ok, z_callk, z_callk1, z_callk2, z_mkF, z_mkF_ok, z_own1, z_own1_ok, z_prop, z_own2, z_own2_ok, z_val, z_val_ok, z_val_x, z_and, z_and_t, z_and_f, z_or, z_or_t, z_or_f, z_not, z_not_ok, z_yes, z_eand, z_eand_t, z_eand_f, z_eor, z_eor_t, z_eor_f, z_enot, z_enot_ok, z_eif, z_eif_t, z_eif_f, z_for, z_for_v, z_iseq, z_iseq_t, z_iseq_f, z_iseq_r, z_rng, z_rng_ok, z_env0, z_try, z_try_nx, z_try_rt, z_try0, z_try0_nx, z_try0_rt, z_for_l, z_fv0, z_fv_nx, z_fv_ct, z_fv_rt, z_lc_v, z_step, z_step_ok, z_istr, z_istr_ok, z_env0, List.map_cons, List.map_nil, List.replicate, List.append_nil, Nat.reduceSub, List.cons_append, List.nil_append, List.length_cons, List.length_nil, Nat.reduceAdd, Nat.reduceLeDiff, List.getElem?_cons_zero, List.getElem?_cons_succ, List.set_cons_zero, List.set_cons_succ, Bool.not_true, Bool.not_false, hL, c1, c2, Bool.true_and, Bool.not_false, Bool.not_true, Bool.false_and]
  · rw [k1] at c1
    refine ⟨[], ?_⟩
    rw [List.append_nil]
    simp only [z_seq, z_seq_nx, z_seq_rt, z_seq_ex, z_seq_bk, z_seq_ct, z_if, z_if_t, z_if_f, z_if_x, z_set, z_set_ok, z_set_x, z_ret, z_ret_ok, z_ret_x, z_retN, z_do, z_do_ok, z_do_x, z_nil, z_raise0, z_raise, z_raise_ok, z_toR_rt, z_toR_nx, z_toR_ex, z_c, z_var, z_var_ok, z_un, z_un_ok, z_un_x, z_bin, z_bin_ok, z_bin_x, z_anil, z_cons, z_cons1, z_cons1x, z_cons2, z_cons2x, z_args, z_args_ok, z_args_x, z_tup, z_tup_ok, z_fro, z_fro_ok, z_lst, z_lst_ok, z_call, z_stat, z_call_ok, z_callk, z_callk1, z_callk2, z_mkF, z_mkF_ok, z_own1, z_own1_ok, z_prop, z_own2, z_own2_ok, z_val, z_val_ok, z_val_x, z_and, z_and_t, z_and_f, z_or, z_or_t, z_or_f, z_not, z_not_ok, z_yes, z_eand, z_eand_t, z_eand_f, z_eor, z_eor_t, z_eor_f, z_enot, z_enot_ok, z_eif, z_eif_t, z_eif_f, z_for, z_for_v, z_iseq, z_iseq_t, z_iseq_f, z_iseq_r, z_rng, z_rng_ok, z_env0, z_try, z_try_nx, z_try_rt, z_try0, z_try0_nx, z_try0_rt, z_for_l, z_fv0, z_fv_nx, z_fv_ct, z_fv_rt, z_lc_v, z_step, z_step_ok, z_istr, z_istr_ok, z_env0, List.map_cons, List.map_nil, List.replicate, List.append_nil, Nat.reduceSub, List.cons_append, List.nil_append, List.length_cons, List.length_nil, Nat.reduceAdd, Nat.reduceLeDiff, List.getElem?_cons_zero, List.getElem?_cons_succ, List.set_cons_zero, List.set_cons_succ, Bool.not_true, Bool.not_false, hL, c1, Bool.not_true, Bool.false_and]
end
end T2
namespace T2
open PySem L2
/-! ### the laws' own check of a row -/
/-- a part of a row as the laws make it -/
def Vi (d : D) : Prop := d = .non ∨ ∃ i, d = .int i
theorem Vi.nb {d : D} {k : Nat} (h : Vi d) : Nb (k + 1) d := by
  rcases h with rfl | ⟨i, rfl⟩
  · exact nb_non
  · exact nb_int
section
variable {M : MH}
end
end T2
namespace T2
open PySem L2
/-! ### a row that is no row -/
theorem Vi.of (v : Vl) : Vi (Vl.d v) := by
  cases v with
  | none => exact .inl rfl
  | some c => exact .inr ⟨_, rfl⟩
end T2
namespace T2
open PySem L2
/-! ### a name is checked (own exception), a bad name is made -/
end T2
namespace T2
open PySem L2
/-! ### sets that are no sets -/
end T2
namespace T2
open PySem L2
/-! ### conditions are checked -/
def words : List (Str × Nat) := [("always", 1), ("equal", 3), ("below", 3), ("unknown", 2), ("quotient", 4), ("not", 2), ("and", 3), ("or", 3)]
def isCol : D → Bool
  | .int i => decide (0 ≤ i) && decide (i ≤ 2)
  | _ => false
section
variable {isi : Tg → Tg → Option Bool} {k : Nat}
end
/-! ### the laws' own check of a condition -/
end T2
namespace T2
open PySem L2
/-! ### names that are names, each once -/
/-! ### another name -/
end T2
namespace T2
open PySem L2
/-! ### small things that worlds and statements want -/
theorem lc_filter_m {α : Type} {tg : TgM} {tt : BM} {m : EM} {e : Env2} {M0 : MH} {f : α → D} {p : α → Bool} {g : α → D} : ∀ (xs : List α) (step : ∀ x ∈ xs, ∀ acc, lcStep tg tt m e (f x) (M0 ++ [.lst acc]) = .ok (if p x = true then some (g x) else none) (M0 ++ [.lst acc])) (acc : List D), acc.length + xs.length ≤ 1000 →
    lcV tg tt m e M0.length (xs.map f) (M0 ++ [.lst acc]) = .ok (.ref M0.length) (M0 ++ [.lst (acc ++ (xs.filter p).map g)])
  | [], _, acc, _ => by simp [lcV]
  | x :: xs, step, acc, hz => by
    have h1 := step x (by simp) acc
    have hg : (M0 ++ [MO.lst acc])[M0.length]? = some (.lst acc) := by simp
    rw [List.map_cons]
    unfold lcV
    rw [h1, Res.bind_ok]
    by_cases hp : p x = true
    · rw [if_pos hp]
      have hpush : pushAt M0.length (some (g x)) (M0 ++ [.lst acc]) = some (M0 ++ [.lst (acc ++ [g x])]) := by
        unfold pushAt
        dsimp only
        rw [hg]
        dsimp only
        rw [if_pos (by simp at hz; unfold big; omega)]
        congr 1
        simp
      rw [hpush]
      dsimp only
      rw [lc_filter_m xs (fun y hy => step y (by simp [hy])) (acc ++ [g x]) (by simp at hz ⊢; omega), List.filter_cons, if_pos hp, List.map_cons, List.append_assoc]
      rfl
    · rw [if_neg hp]
      dsimp only [pushAt]
      rw [lc_filter_m xs (fun y hy => step y (by simp [hy])) acc (by simp at hz ⊢; omega), List.filter_cons, if_neg hp]
/-- a comprehension over things of a kind -/
theorem lc_ifm {α : Type} {it : Env2 → MH → Res IV} {i : Nat} {tt : BM} {m : EM} {vs : List Nat} {e : Env2} {M : MH} {f : α → D} {p : α → Bool} {g : α → D} {xs : List α} (hi : it e M = .ok (.vals (xs.map f)) M) (h1 : ∀ x ∈ xs, ∀ acc, tt ((wipe2 e vs).set i (some (f x))) (M ++ [.lst acc]) = .ok (p x) (M ++ [.lst acc])) (h2 : ∀ x ∈ xs, p x = true → ∀ acc, m ((wipe2 e vs).set i (some (f x))) (M ++ [.lst acc]) = .ok (g x) (M ++ [.lst acc])) (hz : xs.length ≤ 1000) :
    eLc it (tgName i) tt m vs e M = .ok (.ref M.length) (M ++ [.lst ((xs.filter p).map g)]) := by
  rw [z_lc, hi, z_lc_v, lc_filter_m xs (p := p) (g := g) (fun x hx acc => step_if (h1 x hx acc) fun hp => h2 x hx hp acc) [] (by simpa using hz)]
  simp
/-! ### conditions of the laws -/
theorem C3.col (c : C3) : isCol (.int c.i) = true := by cases c <;> rfl
/-! ### worlds -/
structure Rl where
  n : Str
  t : Str
  c : C3
  k : Cnd
def Rl.d (r : Rl) : D := .tup [.str r.n, .str r.t, .int r.c.i, r.k.d]
end T2
namespace T2
open PySem L2
/-! ### deep `in` for plain data -/
/-- where a set takes its value from -/
def SrcP (b : D) : Prop := b = .non ∨ (∃ j, b = .int j) ∨ ∃ z, b = .str z ∧ PyData.strOk z = true
theorem SrcP.nb {b : D} (h : SrcP b) : Nb 1 b := by
  rcases h with rfl | ⟨j, rfl⟩ | ⟨z, rfl, hz⟩
  · exact nb_non
  · exact nb_int
  · exact nb_str hz
/-! ### small things -/
/-! ### what is wrong with a statement -/
inductive Flt where
  | stm | tbl (z : Str) | rul (z : Str) | row | cnd | nam (z : Str)
def Flt.d : Flt → D
  | .stm => .tup [.str "statement", .str ""]
  | .tbl z => .tup [.str "table", .str z]
  | .rul z => .tup [.str "rule", .str z]
  | .row => .tup [.str "row", .str ""]
  | .cnd => .tup [.str "condition", .str ""]
  | .nam z => .tup [.str "name", .str z]
def Flt.nm : Flt → Str
  | .tbl z => z
  | .rul z => z
  | .nam z => z
  | _ => ""
def fd : Option Flt → D
  | none => .non
  | some f => f.d
end T2
namespace T2
open PySem L2
/-! ### len(set(x)) of at most one text -/
def eLenSet (m : EM) : EM := fun e M => (m e M).bind fun x M1 => match listItems M1 x with
  | some ds => (match strsOf ds with
    | some zs => if zs.length ≤ 1 then .ok (.int zs.length) M1 else .bad
    | none => .bad)
  | none => .bad
section
variable {X : Cx} {g : Wd} {W : WY} {sts : List Stmt} {s1 : SM} {pos p p2 q : Pos} {m1 : EM} {a : Expr}
end
/-! ### for k, v in d.items(): a dict of ints and texts, locked -/
def keyD : Key → D
  | .inl i => .int i
  | .inr s => .str s
def itemsD (ks : List Key) (ds : List D) : List D := List.zipWith (fun k d => .tup [keyD k, d]) ks ds
def unlkK (n : Nat) (r : SR) : SR := match r with
  | .nx e M => (match M[n]? with
    | some (.lk ks ds) => .nx e (M.set n (.dk ks ds))
    | _ => .bad)
  | .rt d M => (match M[n]? with
    | some (.lk ks ds) => .rt d (M.set n (.dk ks ds))
    | _ => .bad)
  | _ => .bad
def sForItems (i : Nat) (tg : TgM) (body : SM) : SM := fun e M => match e[i]? with
  | some (some (.ref n)) => (match M[n]? with
    | some (.dk ks ds) => unlkK n (forV tg body (itemsD ks ds) e (M.set n (.lk ks ds)))
    | _ => .bad)
  | _ => .bad
section
variable {X : Cx} {g : Wd} {W : WY} {sts : List Stmt} {s1 : SM} {pos p apos cpos tpos : Pos} {elts : List Expr} {kk : Nat}
end
end T2
namespace L2
open PySem PySem.Spec PyProof.Rows
/-! ### iter(t) of a tuple, and list(o) where o's own __iter__ hands such an iterator out -/
section
variable {prog : Program} {w : World} {A : Around} {E : Value → Shared → Prop} {s : Shared}
end
section
variable {P : Program} {w : World} {H : Hp} {h : Heap} {l it : Addr} {i : Nat}
end
section
variable {X : Cx} {pins : List (Addr × Obj)} {σ : St} {H : Hp} {s : Shared} {l it a q : Addr} {A1 : Around} {i : Nat}
end
end L2
namespace L2
open PySem PySem.Spec PyProof.Rows
section
variable {X : Cx} {pins : List (Addr × Obj)} {σ : St} {H : Hp} {s : Shared} {k : Nat} {f : Addr} {fd : FuncData} {ps : List Str} {sp : Sp} {A' A1 : Around} {C a q fi fl : Addr} {fdI fdL : FuncData} {psI psL : List Str} {spI spL : Sp} {n : Nat}
abbrev NoX : XK := fun _ _ _ => False
/-- a call that lets nothing out -/
theorem run_at0 {Ex : Value → Shared → Prop} {Q : VK} {us : List Value} {vs : List V} (F : FnOk X.prog X.w X.K X.mg X.base (L2N.CX X.prog X.w) k f fd ps sp) (hr : Room k A') (e0 : Env0 X.prog X.w X.K X.mg X.base A' X.stack s H) (hb : Binds X.K fd ps [])
    (I : Inv X pins σ H s) (r : Vals vs us) (h : sp vs H Q NoX) : wpAny (model X.prog X.w) A' (call (.ref f) us) (EP X pins σ Q) Ex s := by
  have args := hb s us I.kIn (by simpa using r.length.symm.trans (F.len _ _ _ _ h))
  refine wpAny_call (codeAny_mono (F.run A' X.stack s H ⟨us, []⟩ us vs Q NoX hr e0 (by simpa using args) r h) fun res s' q => ?_)
  match res, q with
  | .error e, ⟨_, _, _, _, _, _, _, _, _, _, _, _, q⟩ => exact q.elim
  | .ok (.ret u), q => exact I.after q
  | .ok .next, q | .ok .brk, q | .ok .cont, q => exact q.elim
end
end L2
namespace T2
open PySem L2
/-! ### list(o) of an own iterable whose __iter__ hands out iter(self.f), f a tuple -/
section
variable {X : Cx} {g : Wd} {W : WY} {a : Expr} {es : List Expr} {pos p : Pos} {ma : AM} {c n : Nat} {fi fl : Addr} {fdI fdL : FuncData} {psI psL : List Str} {fld : Str} {m : List D → MH → Res D}
end
end T2
namespace L2
open PySem PySem.Spec PyProof.Rows

section
variable {X : Cx} {pins : List (Addr × Obj)} {σ : St} {H : Hp} {s : Shared} {h' : Heap}
/-- records of ours have changed, one of them is tracked from now on -/
theorem Inv.turnedTrack {t' : Nat} {ch : List Addr} {T : Addr} {ob : HO} (I : Inv X pins σ H s) (k : ∀ b o, b ∉ ch → s.heap.get? b = some o → h'.get? b = some o) (hf : ∀ b ∈ ch, FpOk X pins H b) (hT : T ∈ ch)
    (new : ObjOk X.prog X.w (upd H T ob) h' T ob) : Inv X pins σ (upd H T ob) { s with heap := h', toks := t' } := by
  have hn : H T = none := (hf T hT).1
  have off : ∀ b u, H b = some u → b ∉ ch := fun b u e z => by
    have q := (hf b z).1
    rw [e] at q
    cases q
  have up : ∀ b u, H b = some u → upd H T ob b = some u := fun b u e => (upd_ne (ne_of_none e hn)).trans e
  refine I.step (g' := s.gens) (d' := s.drawn) (ch := ch) (fun b hb => ?_) (fun b o _ _ hc e _ => k b o hc e) (fun b o _ _ hc e _ => ⟨o.slots, k b o hc e⟩)
    (fun b o hc _ n => (upd_ne fun z => hc (by rw [z]; exact hT)).trans n) (fun b o hc e => ⟨o, k b o hc e⟩) (fun b xs e => up b _ e) (fun b o u e => up b _ e) (fun b ps e => ⟨#[], (up b _ e).trans (by simp)⟩) (fun m hm => ?_) (fun b u e => ?_) I.bare
  · obtain ⟨_, f1, _, f3, f4, f5⟩ := hf b hb
    exact ⟨f3, f1, f4, f5⟩
  · obtain ⟨o, es, ep, ho, r⟩ := hm
    exact ⟨o, es, ep, k _ o (fun z => (hf _ z).2.1 rfl) ho, r⟩
  · by_cases hb : b = T
    · rw [hb, upd_same] at e
      cases e
      rw [hb]
      exact new
    · rw [upd_ne hb] at e
      refine (I.hok b u e).stay (fun c v hc q => k c v ?_ q) (fun c q => up c _ q) fun c xs q => up c _ q
      rcases hc with z | z
      · rw [z]; exact off b u e
      · exact off c _ z
end

/-- what sorted with a key makes of the values, the keys told -/
def sortV {α : Type} (kz : List PyData) (xs : List α) : List α := ((kz.zip xs).mergeSort (PySem.W.dataLe false Prod.fst)).map Prod.snd

section
variable {X : Cx} {pins : List (Addr × Obj)} {σ : St} {H : Hp} {s : Shared}
theorem each_zip {xs : List V} : ∀ {vs : List Value} {kz : List PyData}, kz.length = xs.length → Vals xs vs → PySem.W.EachIs (fun v (b : PyData × V) => RelV b.2 v) vs (kz.zip xs) := by
  induction xs with
  | nil =>
    intro vs kz hl r
    cases r
    cases kz with
    | nil => exact .nil
    | cons _ _ => simp at hl
  | cons x xs ih =>
    intro vs kz hl r
    cases r with
    | cons r1 r2 =>
      cases kz with
      | nil => simp at hl
      | cons k kz => exact .cons r1 (ih (by simpa using hl) r2)
theorem vals_each : ∀ {vs : List Value} {bs : List (PyData × V)}, PySem.W.EachIs (fun v (b : PyData × V) => RelV b.2 v) vs bs → Vals (bs.map Prod.snd) vs
  | _, _, .nil => .nil
  | _, _, .cons h t => .cons h (vals_each t)
theorem each_snocV {kvs : List V} {k : V} {A : List Value} {u : Value} (h : Vals kvs A) (r : RelV k u) : Vals (kvs ++ [k]) (A ++ [u]) := h.append (.cons r .nil)

/-- sorted(xs, key=f): f's calls may change the heap's tracked things -/
theorem sorted_keyI {l : Addr} {f : Value} {kw : List (Str × Value)} {xs : List V} {vs : List Value} {kz : List PyData} {J : Nat → List V → Hp → Prop} {Q : Value → Shared → Prop} {E : Value → Shared → Prop} (I : Inv X pins σ H s)
    (hl : s.heap.IsList l vs.toArray) (rv : Vals xs vs) (hlen : kz.length = xs.length) (hZ : xs.length ≤ sizeLine) (hal : PySem.W.AllAlike kz) (hsk : PySem.W.Sortable kz) (hu : ∀ d, d ∈ kz → X.A.units + 2 + d.depth < cLine)
    (ha1 : argsOk "sorted" ⟨[.ref l], kw⟩) (ha2 : ∀ x, argsOk "list.sort" ⟨[.ref x], kw⟩) (ht : ∀ x, Builtin.«list.sort» ⟨[.ref x], kw⟩ = ksk_tree x f false)
    (J0 : J 0 [] H)
    (turn : ∀ (i : Nat) (v : Value) (pl : List (Addr × Obj)) (s' : Shared) (H' : Hp) (kvs : List V), vs[i]? = some v → Inv X pl σ H' s' → J i kvs H' →
      wpAny (model X.prog X.w) X.A.in1.in1 (call f [v]) (EP X pl σ fun k H'' => J (i + 1) (kvs ++ [k]) H'') (fun _ _ => False) s')
    (last : ∀ kvs H', J vs.length kvs H' → DpAll X.K H' kvs kz)
    (h : ∀ a H' s' kvs, J vs.length kvs H' → H' a = none → Inv X pins σ (upd H' a (.lst (sortV kz xs))) s' → Q (.ref a) s') :
    wpAny (model X.prog X.w) X.A (call (.builtin "sorted") [.ref l] kw) Q E s := by
  have hvl : vs.length = xs.length := rv.length.symm
  have hZ' : vs.length ≤ sizeLine := by rw [hvl]; exact hZ
  refine PySem.W.sorted_of_sort hl hZ' ha1 ha2 fun E' => ?_
  rw [ht]
  obtain ⟨a, ea⟩ : ∃ a, a = s.heap.objs.size + 1 := ⟨_, rfl⟩
  rw [← ea]
  have old : ∀ b o, s.heap.get? b = some o → (PySem.W.copyHeap s.heap vs).get? b = some o := fun b o e => PySem.W.copyHeap_old e
  have ho : (PySem.W.copyHeap s.heap vs).get? a = some (seqObj "list" vs.toArray 0) := by rw [ea]; exact PySem.W.copyHeap_at s.heap vs
  generalize PySem.W.copyHeap s.heap vs = g1 at ho old ⊢
  have fa : FpOk X pins H a := I.fpOk (by rw [ea]; exact Nat.le_succ _) (I.hok.fresh (by rw [ea]; exact Nat.le_succ _))
  have na : ∀ b o, s.heap.get? b = some o → b ≠ a := fun b o e => Nat.ne_of_lt (by rw [ea]; exact Nat.lt_succ_of_lt (Heap.lt_size e))
  unfold ksk_tree
  refine wpAny_bind (listItems_at ho rfl ?_)
  refine wpAny_bind (listUpdate_at ho rfl ?_ (by rw [List.size_toArray]; exact hZ') (Nat.zero_le _))
  obtain ⟨e1, ho1⟩ : ∃ e1, (g1.update a (Obj.mapSeq fun _ => (#[] : Array Value))).get? a = some (seqObj "list" #[] e1) := ⟨_, get?_update_seq ho fun _ => #[]⟩
  have old1 : ∀ b o, s.heap.get? b = some o → (g1.update a (Obj.mapSeq fun _ => (#[] : Array Value))).get? b = some o := fun b o e =>
    (Heap.get?_update_ne _ _ _ _ (na b o e)).trans (old b o e)
  generalize g1.update a (Obj.mapSeq fun _ => (#[] : Array Value)) = g2 at ho1 old1 ⊢
  refine wpAny_bind (seqEpoch_at ho1 rfl ?_)
  refine wpAny_bind (wpAny_newTuple ?_ (by show vs.length ≤ _; exact hZ'))
  refine wpAny_bind (wpAny_newList ?_ (Nat.zero_le _))
  refine wpAny_holding ?_
  show wpAny _ _ (ksk_rest a f false vs.toArray e1 (.ref (g2.push (seqObj "tuple" vs.toArray 0)).objs.size)) _ _ { s with heap := (g2.push (seqObj "tuple" vs.toArray 0)).push (seqObj "list" #[] 0) }
  have old3 : ∀ b o, g2.get? b = some o → (g2.push (seqObj "tuple" vs.toArray 0)).get? b = some o := fun b o e => Heap.get?_push_of_some _ e
  generalize g2.push (seqObj "tuple" vs.toArray 0) = g3 at old3 ⊢
  obtain ⟨kS, eS⟩ : ∃ kS, kS = g3.objs.size := ⟨_, rfl⟩
  rw [← eS]
  have new3 : (g3.push (seqObj "list" #[] 0)).get? kS = some (seqObj "list" #[] 0) := by rw [eS]; exact Heap.get?_push_size _ rfl
  have ha3 : g3.get? a = some (seqObj "list" #[] e1) := old3 _ _ ho1
  have hka : kS ≠ a := by rw [eS]; exact Nat.ne_of_gt (Heap.lt_size ha3)
  have hS : s.heap.objs.size ≤ kS := by
    rw [eS]
    have q := Heap.lt_size ha3
    rw [ea] at q
    exact Nat.le_of_lt (Nat.lt_of_succ_lt q)
  have ha4 : (g3.push (seqObj "list" #[] 0)).get? a = some (seqObj "list" #[] e1) := Heap.get?_push_of_some _ ha3
  have old4 : ∀ b o, s.heap.get? b = some o → (g3.push (seqObj "list" #[] 0)).get? b = some o := fun b o e => Heap.get?_push_of_some _ (old3 _ _ (old1 _ _ e))
  generalize g3.push (seqObj "list" #[] 0) = g4 at new3 ha4 old4 ⊢
  have fS : FpOk X pins H kS := I.fpOk hS (I.hok.fresh hS)
  have I0 : Inv X pins σ H { s with heap := g4 } := I.kept (t' := s.toks) old4
  obtain ⟨pk, epk⟩ : ∃ pk : Array Value → Nat → List (Addr × Obj), pk = fun kA e => [(a, seqObj "list" #[] e1), (kS, seqObj "list" kA e)] := ⟨_, rfl⟩
  have pinIt : ∀ {H' : Hp} {s' : Shared} {kA : Array Value} {e : Nat}, Inv X pins σ H' s' → H' a = none → H' kS = none → s'.heap.get? a = some (seqObj "list" #[] e1) → s'.heap.get? kS = some (seqObj "list" kA e) → Inv X (pins ++ pk kA e) σ H' s' :=
    fun {H' s' kA e} I' n1 n2 q1 q2 => I'.pins_of fun p hp => (List.mem_append.mp hp).elim (fun z => I'.pin p (List.mem_append_right _ z)) fun z => by
      rw [epk] at z
      rcases List.mem_cons.mp z with z | z
      · rw [z]
        exact ⟨q1, n1, fa.2.1, fa.2.2.1, fun v q => by cases q⟩
      · rcases List.mem_cons.mp z with z | z
        · rw [z]
          exact ⟨q2, n2, fS.2.1, fS.2.2.1, fun v q => by cases q⟩
        · cases z
  have pins_a : ∀ {H' : Hp} {s' : Shared} {kA : Array Value} {e : Nat}, Inv X (pins ++ pk kA e) σ H' s' → s'.heap.get? a = some (seqObj "list" #[] e1) ∧ H' a = none := fun I' =>
    let q := I'.pin (a, seqObj "list" #[] e1) (List.mem_append_right _ (List.mem_append_right _ (by rw [epk]; exact List.mem_cons_self)))
    ⟨q.1, q.2.1⟩
  have pins_k : ∀ {H' : Hp} {s' : Shared} {kA : Array Value} {e : Nat}, Inv X (pins ++ pk kA e) σ H' s' → s'.heap.get? kS = some (seqObj "list" kA e) ∧ H' kS = none := fun {H' s' kA e} I' =>
    let q := I'.pin (kS, seqObj "list" kA e) (List.mem_append_right _ (List.mem_append_right _ (by rw [epk]; exact List.mem_cons_of_mem _ List.mem_cons_self)))
    ⟨q.1, q.2.1⟩
  unfold ksk_rest
  refine wpAny_bind (wpAny_rule ?_)
  first
    | rw [List.forIn_toArray]
    | (rw [← Array.forIn_toList]; simp only [List.toList_toArray])
  refine wpAny_bind (ksk_fold (fun i s' => ∃ H' kvs kA e, Inv X (pins ++ pk kA e) σ H' s' ∧ Vals kvs kA.toList ∧ kvs.length = i ∧ J i kvs H') vs 0 { s with heap := g4 }
    ⟨H, [], #[], 0, pinIt I0 fa.1 fS.1 ha4 new3, .nil, rfl, J0⟩ ?step ?done)
  case step =>
    rintro i v s' hv ⟨H', kvs, kA, e, I', rk, hk, j⟩
    simp only [Nat.zero_add] at hk j ⊢
    have hi : i < vs.length := (List.getElem?_eq_some_iff.mp hv).1
    have kz' : kA.size ≤ vs.length := by
      have q : kvs.length = kA.size := rk.length.trans Array.length_toList
      omega
    refine wpAny_bind (wpAny_attempt (wpAny_mono (turn i v _ s' H' kvs hv I' j) (fun u s2 he => ?_) fun _ _ hF => hF.elim))
    obtain ⟨k, H2, I2, r2, j2⟩ := he
    obtain ⟨qk, nk⟩ := pins_k I2
    obtain ⟨qa, n2⟩ := pins_a I2
    try dsimp only
    obtain ⟨c2, hc2⟩ : ∃ c2, (s2.heap.update kS (Obj.mapSeq (·.push u))).get? kS = some (seqObj "list" (kA.push u) c2) := ⟨_, get?_update_seq qk (·.push u)⟩
    have sb : ∀ b o, b ≠ kS → s2.heap.get? b = some o → (s2.heap.update kS (Obj.mapSeq (·.push u))).get? b = some o := fun b o hb q => (Heap.get?_update_ne _ _ _ _ hb).trans q
    refine wpAny_bind (listUpdate_at qk rfl ?_ (Nat.le_trans kz' hZ') (Nat.le_trans (Nat.le_of_eq (Array.size_push ..)) (Nat.succ_le_succ (Nat.le_trans kz' hZ'))))
    have I3 : Inv X pins σ H2 { s2 with heap := s2.heap.update kS (Obj.mapSeq (·.push u)) } :=
      I2.unpinned.turnedL (t' := s2.toks) (ch := [kS]) (fun b o hb q => sb b o (fun z => hb (by simp [z])) q) fun b hb => by
        have z : b = kS := by simpa using hb
        rw [z]
        exact ⟨nk, fS.2⟩
    refine wpAny_pure ⟨rfl, H2, kvs ++ [k], kA.push u, c2, pinIt I3 n2 nk (sb _ _ hka.symm qa) hc2, ?_, by rw [List.length_append, hk]; rfl, j2⟩
    rw [Array.toList_push]
    exact each_snocV rk r2
  case done =>
    rintro s' ⟨H', kvs, kA, e, I', rk, hk, j⟩
    simp only [Nat.zero_add] at hk j
    obtain ⟨qk, nk⟩ := pins_k I'
    obtain ⟨qa, n2⟩ := pins_a I'
    obtain ⟨as, ra⟩ := Dp.readsAll I' kz kvs kA.toList (last kvs H' j) rk
    have hk' : PySem.W.EachIs (fun v k => ∃ as, Reads s'.heap v k as) kA.toList kz := by
      have q := PySem.W.readsAll_each (h := s'.heap) (fun d : PyData => d) (vs := kA.toList) (bs := kz) (as := as) (by rw [List.map_id']; exact ra)
      exact q
    have hsz : kA.size = vs.length := by
      have q : kvs.length = kA.size := rk.length.trans Array.length_toList
      omega
    try dsimp only
    refine wpAny_bind (listItems_at qk rfl ?_)
    obtain ⟨G, gq1, gq2⟩ := restrict s'.heap fun b => decide (b ≠ kS)
    have gk : ∀ b o, b ≠ kS → s'.heap.get? b = some o → G.get? b = some o := fun b o hb q => (gq1 b (decide_eq_true hb)).trans q
    have gS : G.get? kS = none := gq2 kS (decide_eq_false fun z => z rfl)
    have gs : ∀ b o, G.get? b = some o → s'.heap.get? b = some o := fun b o q => by
      by_cases hb : b = kS
      · rw [hb, gS] at q
        cases q
      · rw [← gq1 b (decide_eq_true hb)]
        exact q
    refine PySem.W.keyH_end (κ := PySem.W.dataKind s'.heap kz) (h₁ := G) (fun b o _ q => gs b o q) gS qk qa hka (PySem.W.SortsAt.data (s := s') hk' hal hsk fun d hd => hu d hd) hsz hZ' fun h' tk c kp hD => ⟨rfl, ?_⟩
    have ez : (kz.zip xs).map Prod.fst = kz := List.map_fst_zip (by omega)
    have each := PySem.W.keyedOut_each (rev := false) (bs := kz.zip xs) (vs := vs) Prod.fst (by rw [ez]; exact ⟨s'.heap, kA.toList, hal, rfl, hk'⟩) (each_zip hlen rv)
    have hv : Vals (sortV kz xs) (PySem.W.sortVals (PySem.W.dataKind s'.heap kz) false kA.toList vs) := vals_each each
    have hl2 : (sortV kz xs).length = xs.length := by
      unfold sortV
      rw [List.length_map, List.length_mergeSort, List.length_zip]
      omega
    refine h a H' _ kvs j n2 (I'.unpinned.turnedTrack (ch := [a, kS]) (fun b o hb q => kp b o (fun z => hb (by simp [z])) (gk b o (fun z => hb (by simp [z])) q)) (fun b hb => ?_) List.mem_cons_self ⟨by rw [hl2]; exact hZ, _, c, hv, hD⟩)
    rcases List.mem_cons.mp hb with z | z
    · rw [z]
      exact ⟨n2, fa.2⟩
    · have z : b = kS := by simpa using z
      rw [z]
      exact ⟨nk, fS.2⟩
end
end L2
namespace T2
open PySem L2

/-! ### sorted(xs, key=f) by an own def -/
def keysL (m : List D → MH → Res D) : List D → MH → Res (List D)
  | [], M => .ok [] M
  | d :: ds, M => (m [d] M).bind fun k M1 => (keysL m ds M1).bind fun ks M2 => .ok (k :: ks) M2
def alikeKB (kz : List PyData) : Bool := kz.all fun a => kz.all fun b => PySem.W.alike a b
def tupNe : PyData → Bool
  | .tuple (_ :: _) => true
  | _ => false
def notTup : PyData → Bool
  | .none => false
  | .tuple _ => false
  | _ => true
def keysOk (kz : List PyData) : Bool := alikeKB kz && (kz.all tupNe || kz.all notTup) && kz.all fun d => decide (d.depth ≤ 60)
theorem keysOk_alike {kz : List PyData} (h : keysOk kz = true) : PySem.W.AllAlike kz := fun a ha b hb => by
  unfold keysOk at h
  simp only [Bool.and_eq_true] at h
  have q := h.1.1
  unfold alikeKB at q
  exact List.all_eq_true.mp (List.all_eq_true.mp q a ha) b hb
theorem keysOk_sortable {kz : List PyData} (h : keysOk kz = true) : PySem.W.Sortable kz := by
  unfold keysOk at h
  simp only [Bool.and_eq_true, Bool.or_eq_true] at h
  rcases h.1.2 with q | q
  · refine .inl fun d hd => ?_
    have z := List.all_eq_true.mp q d hd
    unfold tupNe at z
    split at z
    · exact ⟨_, _, rfl⟩
    · cases z
  · refine .inr fun d hd => ?_
    have z := List.all_eq_true.mp q d hd
    refine ⟨fun e => ?_, fun xs e => ?_⟩ <;> (subst e; cases z)
theorem keysOk_depth {kz : List PyData} (h : keysOk kz = true) : ∀ d ∈ kz, d.depth ≤ 60 := fun d hd => by
  unfold keysOk at h
  simp only [Bool.and_eq_true] at h
  exact of_decide_eq_true (List.all_eq_true.mp h.2 d hd)
def dSortK (mk : List D → MH → Res D) (m : List D → MH → Res D) (x : D) (M : MH) : Res D := match listItems M x with
  | some ds => if ds.length ≤ big then (match keysL m ds M with
    | .ok ks M1 => (match toPs M1 4 ks with
      | some kz => if keysOk kz = true then mk (sortV kz ds) M1 else .bad
      | none => .bad)
    | _ => .bad) else .bad
  | none => .bad
theorem keysL_len {m : List D → MH → Res D} : ∀ {ds : List D} {M M' : MH} {ks : List D}, keysL m ds M = .ok ks M' → ks.length = ds.length
  | [], M, M', ks, h => by
    unfold keysL at h
    cases h
    rfl
  | d :: ds, M, M', ks, h => by
    unfold keysL at h
    cases hm : m [d] M with
    | ok k M1 =>
      rw [hm, Res.bind_ok] at h
      cases hr : keysL m ds M1 with
      | ok ks2 M2 => rw [hr, Res.bind_ok] at h; cases h; simp [keysL_len hr]
      | exc _ _ _ _ => rw [hr] at h; cases h
      | bad => rw [hr] at h; cases h
    | exc _ _ _ _ => rw [hm] at h; cases h
    | bad => rw [hm] at h; cases h
theorem keysL_cons {m : List D → MH → Res D} {d : D} {ds ks : List D} {M M' : MH} (h : keysL m (d :: ds) M = .ok ks M') : ∃ k M1 ks2, m [d] M = .ok k M1 ∧ keysL m ds M1 = .ok ks2 M' ∧ ks = k :: ks2 := by
  unfold keysL at h
  cases hm : m [d] M with
  | ok k M1 =>
    rw [hm, Res.bind_ok] at h
    cases hr : keysL m ds M1 with
    | ok ks2 M2 => rw [hr, Res.bind_ok] at h; cases h; exact ⟨_, _, _, rfl, hr, rfl⟩
    | exc _ _ _ _ => rw [hr] at h; cases h
    | bad => rw [hr] at h; cases h
  | exc _ _ _ _ => rw [hm] at h; cases h
  | bad => rw [hm] at h; cases h
theorem toPs_len {M : MH} {k : Nat} : ∀ {ds : List D} {ps : List PyData}, toPs M k ds = some ps → ps.length = ds.length
  | [], ps, h => by simp only [toPs, toPas] at h; cases h; rfl
  | d :: ds, ps, h => by
    rw [toPs_cons] at h
    cases hp : toP M k d with
    | none => rw [hp] at h; cases h
    | some p =>
      cases hq : toPs M k ds with
      | none => rw [hp, hq] at h; cases h
      | some qs => rw [hp, hq] at h; cases h; simp [toPs_len hq]
theorem reps_of {g : Wd} {F : List Addr} {H : Hp} : ∀ {bs : List (PyData × D × V)}, (∀ t ∈ bs, Rep g F H t.2.1 t.2.2) → Reps g F H (bs.map fun t => t.2.1) (bs.map fun t => t.2.2)
  | [], _ => .nil
  | t :: bs, h => .cons (h t List.mem_cons_self) (reps_of fun u hu => h u (List.mem_cons_of_mem _ hu))
theorem reps_zip {g : Wd} {F : List Addr} {H : Hp} : ∀ {kz : List PyData} {ds : List D} {xs : List V}, Reps g F H ds xs → ∀ t ∈ kz.zip (ds.zip xs), Rep g F H t.2.1 t.2.2
  | [], _, _, _, t, ht => by simp at ht
  | k :: kz, _, _, .nil, t, ht => by simp at ht
  | k :: kz, _, _, .cons r rs, t, ht => by
    rw [List.zip_cons_cons, List.zip_cons_cons] at ht
    rcases List.mem_cons.mp ht with e | e
    · rw [e]; exact r
    · exact reps_zip rs t e
theorem zip_fst {α β : Type} {kz : List PyData} {as : List α} {bs : List β} (h : as.length = bs.length) : (kz.zip (as.zip bs)).map (fun t => (t.1, t.2.1)) = kz.zip as := by
  induction kz generalizing as bs with
  | nil => simp
  | cons k kz ih =>
    cases as with
    | nil => simp
    | cons a as =>
      cases bs with
      | nil => simp at h
      | cons b bs => simp [ih (by simpa using h)]
theorem zip_snd {α β : Type} {kz : List PyData} {as : List α} {bs : List β} (h : as.length = bs.length) : (kz.zip (as.zip bs)).map (fun t => (t.1, t.2.2)) = kz.zip bs := by
  induction kz generalizing as bs with
  | nil => simp
  | cons k kz ih =>
    cases as with
    | nil =>
      cases bs with
      | nil => simp
      | cons b bs => simp at h
    | cons a as =>
      cases bs with
      | nil => simp at h
      | cons b bs => simp [ih (by simpa using h)]
theorem sortV_rep {g : Wd} {F : List Addr} {H : Hp} {kz : List PyData} {ds : List D} {xs : List V} (r : Reps g F H ds xs) : Reps g F H (sortV kz ds) (sortV kz xs) := by
  have hl := r.length
  have e1 : sortV kz ds = ((kz.zip (ds.zip xs)).mergeSort (PySem.W.dataLe false fun t => t.1)).map (fun t => t.2.1) := by
    unfold sortV
    rw [← zip_fst (kz := kz) hl, ← List.map_mergeSort (r := PySem.W.dataLe false fun t : PyData × D × V => t.1) (s := PySem.W.dataLe false Prod.fst) (f := fun t : PyData × D × V => (t.1, t.2.1)) (fun a _ b _ => rfl), List.map_map]
    rfl
  have e2 : sortV kz xs = ((kz.zip (ds.zip xs)).mergeSort (PySem.W.dataLe false fun t => t.1)).map (fun t => t.2.2) := by
    unfold sortV
    rw [← zip_snd (kz := kz) hl, ← List.map_mergeSort (r := PySem.W.dataLe false fun t : PyData × D × V => t.1) (s := PySem.W.dataLe false Prod.fst) (f := fun t : PyData × D × V => (t.1, t.2.2)) (fun a _ b _ => rfl), List.map_map]
    rfl
  rw [e1, e2]
  exact reps_of fun t ht => reps_zip r t ((List.mergeSort_perm _ _).mem_iff.mp ht)
section
variable {X : Cx} {g : Wd} {W : WY} {a e : Expr} {pos p : Pos} {m1 : EM} {m : List D → MH → Res D} {k : Nat} {f : Addr} {fd : FuncData} {ps : List Str} {kws : List Keyword}
/-- what sorted's call with a key asks -/
def rSortK (g : Wd) (f : Addr) (mk m : List D → MH → Res D) (W : WX) : List V → List V → Hp → VK → Prop := fun vs zs H Q => ∃ F M σ x v, vs = [v] ∧ zs = [.ref f] ∧ RelM g F M H ∧ Rep g F H x v ∧ post g rD W F σ H (dSortK mk m x M) Q
theorem cr_sortK (hK : g.K = X.K) {mk : List D → MH → Res D} (hmk : MkOk g mk) (G : FnOk X.prog X.w X.K X.mg X.base (L2N.CX X.prog X.w) k f fd ps (spD g 1 m)) (hr : Room (k + 2) X.A) (hb : Binds X.K fd ps []) (hsk : ∀ x, PySem.argsOk "sorted" ⟨[.ref x], [(Str.ofString "key", .ref f)]⟩)
    (hsl : ∀ x, PySem.argsOk "list.sort" ⟨[.ref x], [(Str.ofString "key", .ref f)]⟩) : CallRK X (.builtin "sorted") [Str.ofString "key"] (rSortK g f mk m W.w) := by
  intro pins s σ H vs zs us ws Q I r rz h
  obtain ⟨F, M, σ0, x, v, rfl, rfl, R, rx, q⟩ := h
  unfold dSortK at q
  split at q
  rotate_left
  · exact q.elim
  rename_i ds hds
  obtain ⟨l, xs, rfl, sl, rs⟩ := listItems_at R rx hds
  obtain rfl := Vals.ref1 r
  obtain ⟨w1, rfl, e1⟩ := vals1 rz
  obtain rfl : w1 = Value.ref f := e1
  split at q
  rotate_left
  · exact q.elim
  rename_i hbig
  cases hkl : keysL m ds M with
  | exc _ _ _ _ => rw [hkl] at q; exact q.elim
  | bad => rw [hkl] at q; exact q.elim
  | ok kds Mz =>
    rw [hkl] at q
    dsimp only at q
    cases hkz : toPs Mz 4 kds with
    | none => rw [hkz] at q; exact q.elim
    | some kz =>
      rw [hkz] at q
      dsimp only at q
      split at q
      rotate_left
      · exact q.elim
      rename_i hok
      obtain ⟨its, rv, hl, hz⟩ := I.list (by rw [← hK]; exact sl)
      have hxl : xs.length = ds.length := rs.length.symm
      have hkl2 : kz.length = ds.length := (toPs_len hkz).trans (keysL_len hkl)
      refine sorted_keyI (kz := kz) (xs := xs) (J := fun i kvs H' => ∃ F' M', Grow F H F' H' ∧ RelM g F' M' H' ∧ Reps g F' H' (kds.take i) kvs ∧ keysL m (ds.drop i) M' = .ok (kds.drop i) Mz) I hl.isList rv (hkl2.trans hxl.symm) hz (keysOk_alike hok) (keysOk_sortable hok)
        (fun d hd => by have := keysOk_depth hok d hd; have := hr.un; omega) (hsk l) hsl (fun x => PyProof.Rows.ksk_t1 f x) ⟨F, M, .same, R, by rw [List.take_zero]; exact .nil, by rw [List.drop_zero, List.drop_zero]; exact hkl⟩ ?turn ?last ?fin
      case turn =>
        rintro i v pl s' H' kvs hv I' ⟨F', M', gr, R', rk, hkd⟩
        have hlen : its.length = xs.length := rv.length.symm
        have hi : i < ds.length := by
          have := (List.getElem?_eq_some_iff.mp hv).1
          omega
        obtain ⟨d, hd⟩ : ∃ d, ds[i]? = some d := ⟨_, List.getElem?_eq_getElem hi⟩
        obtain ⟨x, hx, rxd⟩ := rs.get hd
        obtain ⟨v2, hv2, rxv⟩ := Vals.get rv hx
        rw [hv2] at hv
        cases hv
        rw [List.drop_eq_getElem_cons hi] at hkd
        have ed : ds[i] = d := by
          have := List.getElem?_eq_getElem hi
          rw [hd] at this
          exact (Option.some.inj this).symm
        rw [ed] at hkd
        obtain ⟨k1, M1, ks2, hm, hrest, hcons⟩ := keysL_cons hkd
        have hdr : kds.drop (i + 1) = ks2 := by
          rw [← List.drop_drop, hcons]
          rfl
        have hik : i < kds.length := by rw [keysL_len hkl]; exact hi
        have hk1 : kds[i]? = some k1 := by
          have z := congrArg List.head? hcons
          rw [List.head?_drop] at z
          exact z
        refine run_at0 G hr.in1.in1 I'.env0.in1.in1 hb I' (.cons rxv .nil) ⟨rfl, F', M', [d], R', .cons (rxd.mono gr R.good) .nil, ?_⟩
        rw [hm]
        intro F2 H2 kv g2 R2 rkv
        refine ⟨F2, M1, gr.trans g2, R2, ?_, by rw [hdr]; exact hrest⟩
        rw [List.take_add_one, hk1]
        exact (rk.mono g2 R'.good).append (.cons rkv .nil)
      case last =>
        rintro kvs H' ⟨F', M', gr, R', rk, hkd⟩
        have hlen : its.length = ds.length := rv.length.symm.trans hxl
        rw [hlen, List.drop_length] at hkd
        have hk0 : kds.drop ds.length = [] := by rw [← keysL_len hkl, List.drop_length]
        rw [hk0] at hkd
        unfold keysL at hkd
        cases hkd
        rw [hlen, ← keysL_len hkl, List.take_length] at rk
        rw [← hK]
        exact toPs_rep R' 4 kds kvs kz rk hkz
      case fin =>
        rintro a H' s' kvs ⟨F', M', gr, R', rk, hkd⟩ hn I'
        have hlen : its.length = ds.length := rv.length.symm.trans hxl
        rw [hlen, List.drop_length] at hkd
        have hk0 : kds.drop ds.length = [] := by rw [← keysL_len hkl, List.drop_length]
        rw [hk0] at hkd
        unfold keysL at hkd
        cases hkd
        exact ⟨.ref a, _, I', rfl, hmk W.w F' _ H' σ0 Q _ _ a R' ((sortV_rep rs).mono gr R.good) (q.up gr) hn⟩
theorem de_sortK (hK : g.K = X.K) {mk : List D → MH → Res D} (hmk : MkOk g mk) (G : FnOk X.prog X.w X.K X.mg X.base (L2N.CX X.prog X.w) k f fd ps (spD g 1 m)) (hr : Room (k + 2) X.A) (hb : Binds X.K fd ps []) {fx : Str} {pk pf kp : Pos} (gf : X.mg fx = some (.ref f)) (hm : X.mg "sorted" = none)
    (ha : PE X a (tD g W m1)) (hg : Gl X "sorted" := by rfl) (hgf : Gl X fx := by rfl) (hdf : (fx == ("__debug__" : Str)) = false := by decide)
    (he : backTo pos (starEach [a] X.env) = (false, eval a X.env) :: backTo pos (starEach [] X.env) := by rfl) (hpl : (backTo pos (starEach [a] X.env)).any (·.1) = false := by rfl)
    (hall : (backToKw pos (keywordEach [⟨some "key", .Name fx pf, kp⟩] X.env)).all (·.1.isSome) = true := by rfl) (hnone : (backToKw pos (keywordEach [⟨some "key", .Name fx pf, kp⟩] X.env)).any (·.1.isNone) = false := by rfl) (hks : (backToKw pos (keywordEach [⟨some "key", .Name fx pf, kp⟩] X.env)).filterMap (·.1) = [Str.ofString "key"] := by rfl)
    (hst : starEach [a] X.env = (false, eval a X.env) :: starEach [] X.env := by rfl) :
    PE X (.Call (.Name "sorted" p) [a] [⟨some "key", .Name fx pf, kp⟩] pos) (tD g W (eUn (dSortK mk m) m1)) :=
  pe_imp (pe_callBK (cr_sortK (W := W) hK hmk G hr hb (fun x => PyProof.Rows.ksk_s1 _ _) (fun x => PyProof.Rows.ksk_l1 _ _)) hg hm (by decide +kernel) (de_cons ha de_nil hst) (dk_cons (g := g) (W := W) (m1 := eC (.obj f)) (de_c (pe_glob hgf gf (show RelV (.ref f) (.ref f) from rfl) hdf) fun _ _ => .obj f) dk_nil) (by decide) (by decide) he hpl hall hnone hks)
    fun σ H Q ⟨F, e, M, RS, q⟩ => ⟨F, e, M, RS, by
      show post g rDs W.w F σ H ((m1 e M).bind fun x M1 => (Res.ok [] M1).bind fun xs M2 => .ok (x :: xs) M2) _
      have q : post g rD W.w F σ H ((m1 e M).bind (dSortK mk m)) Q := q
      cases hm1 : m1 e M with
      | exc _ _ _ _ => rw [hm1] at q; exact q
      | bad => rw [hm1] at q; exact q
      | ok x M1 =>
        rw [hm1] at q
        intro F1 H1 vs g1 R1 rs
        refine ⟨F1, e, M1, RS.up g1 R1, fun F2 H2 zs g2 R2 rz => ?_⟩
        cases rs with | cons rx rt =>
        cases rt
        cases rz with | cons ro rt =>
        cases rt
        cases ro
        exact ⟨F2, M1, σ, x, _, rfl, rfl, R2, rx.mono g2 R1.good, q.up (g1.trans g2)⟩⟩
end
end T2
namespace T2
open PySem L2 PyProof.Rows

/-! ### def f(a, .., *v, k = d, ..): called with plain arguments and some keywords -/
/-- t looks the names up in the dict at D, then goes on as r -/
def KwTo {α : Type} (D : Addr) : List (Str × Value) → Sem α → Sem α → Prop
  | [], t, r => t = r
  | q :: l, t, r => ∃ (β γ : Type) (k1 : Option Value → Sem β) (k2 : β → Sem γ) (k3 : γ → Sem α) (a : β), t = ((nsGet D q.1 >>= k1) >>= k2) >>= k3 ∧ k1 (some q.2) = pure a ∧ KwTo D l (k2 a >>= k3) r
theorem KwTo.run {α : Type} {K : PySem.W.Frag} {M : Model} {A : Around} {Q : α → Shared → Prop} {E : Value → Shared → Prop} {s : Shared} {D : Addr} (X : K.In s.heap) : ∀ {l : List (Str × Value)} {t r : Sem α}, (∀ q ∈ l, PySem.W.nsIn K D q.1 = some (some q.2)) → KwTo D l t r → wpAny M A r Q E s → wpAny M A t Q E s
  | [], t, r, _, e, h => by rw [show t = r from e]; exact h
  | q :: l, t, r, hl, e, h => by
    obtain ⟨β, γ, k1, k2, k3, a, e1, e2, e3⟩ := e
    have l1 : PySem.W.Looks M s.heap (nsGet D q.1 >>= k1) a := (PySem.W.looks_nsIn X (hl q (List.mem_cons_self ..))).andThen (PySem.W.Looks.of_pure e2)
    rw [e1, bind_assoc]
    exact wpAny_bind (l1.here (KwTo.run X (fun p hp => hl p (List.mem_cons_of_mem _ hp)) e3 h))
section
variable {CX : CXT} {P : Program} {w : World} {K : PySem.W.Frag} {mg : Str → Option Value} {base : Heap} {k : Nat} {f : Addr} {name qual : Str} {params : Arguments} {body : List Stmt} {scope : Scope} {dV kV doc pm cdv ct oc : Value} {an od : Option Addr}
  {osl : Array (Option Value)} {N ps ks kq : List Str}
end
/-! ### C(a, .., k = v, ..) where __init__ has *v -/
def eMakeRK (c n kk : Nat) (gz : List D → List D) (f : List D → MH → Res D) (ma mk : AM) : EM := fun e M => (ma e M).bind fun ds M1 => (mk e M1).bind fun zs M2 => if zs.length = kk ∧ n ≤ ds.length + 1 ∧ ds.length ≤ 900 then (f (packRK n (.ref M2.length :: ds) (gz zs)) (M2 ++ [.ob c [] []])).bind fun r M3 => match r with
  | .non => .ok (.ref M2.length) M3
  | _ => .bad else .bad
section
variable {X : Cx} {g : Wd} {W : WY} {e : Expr} {es : List Expr} {pos p : Pos} {ma mk : AM} {k n c : Nat} {f : Addr} {m : List D → MH → Res D} {x : Str} {kws : List Keyword} {ks : List Str} {gz : List D → List D}
end
end T2
namespace T2
open PySem L2 PyProof.Rows

/-! ### len(d), list(d), dict(d) of a dict; del d[k] -/
def dDelD (o i : D) (M : MH) : Option MH := match o with
  | .ref n => match M[n]? with
    | some (.dk ks ds) => (match keyOf i with
      | some k => if (kGet ks ds k).isSome = true then some (M.set n (.dk ((kDrop k ks ds).map (·.1)) ((kDrop k ks ds).map (·.2)))) else none
      | none => none)
    | _ => none
  | _ => none
def sDelD (mo mi : EM) : SM := fun e M => (mo e M).toS e fun o M1 => (mi e M1).toS e fun i M2 => match dDelD o i M2 with
  | some M3 => .nx e M3
  | none => .bad
section
variable {g : Wd} {X : Cx}
end
section
variable {X : Cx} {g : Wd} {W : WY} {a o i : Expr} {es : List Expr} {pos p tpos : Pos} {m1 m2 : EM} {ma : AM}
end
end T2
/-! list(all_rows()) -/
namespace GP
open PySem PySem.Spec PyProof.Rows GenW L2
/-- the context, run at another place -/
def inA (X : Cx) (B : Around) : Cx := { X with A := B }
section
variable {X : Cx} {pins : List (Addr × Obj)} {σ : L2.St} {H : Hp} {s : Shared} {f tv : Addr} {B : Around}
theorem inv_A (hb : B.handled = none) (hf : B.frames = some X.stack) (I : Inv X pins σ H s) : Inv (inA X B) pins σ H s := by
  have ok := I.ok
  exact ⟨⟨ok.mod, ok.kind, ok.glob, ok.blt, ok.above, ok.inj, ok.has, ok.cab, fun _ => hb, hf, ok.stk, ok.exf, ok.bs, ok.bsz, ok.noex, ok.exfs, ok.funs, ok.frf⟩, I.os, I.bare, I.base, I.loc, I.cell, I.free, I.freeC, I.pin, I.hok, I.len⟩
theorem inv_back_A (ok : X.Ok) (I : Inv (inA X B) pins σ H s) : Inv X pins σ H s := ⟨ok, I.os, I.bare, I.base, I.loc, I.cell, I.free, I.freeC, I.pin, I.hok, I.len⟩
theorem make_arB {B : Around} (hB : B.in1.handled = none) {its : Array Value} {p pos : Pos} {E : Value → Shared → Prop} (I : Inv X pins σ H s) (T : ArIs X.K X.mg f tv) (hi : ∃ (o : Obj) (n : Nat), X.K.lookup tv = some o ∧ o.cls = .type "tuple" ∧ o.data = .seq its n ∧ Vals [.non, .int 0, .int 1, .int 2] its.toList) (hr : Room 1 X.A) (hg : Gl X "all_rows") :
    wpAny (model X.prog X.w) X.A (eval (.Call (.Name "all_rows" p) [] [] pos) X.env) (fun v s1 => ∃ a g, v = .ref a ∧ Inv X pins σ H s1 ∧ ArTurn (inA X B) (gbOf X tv its) pins a g 0 H s1) E s := by
  obtain ⟨st, fd, qual, F, hb, k1, k2, k3, k4, x1, p1, p2, p3, q1, q2, q3, o1, o2, o3, a1, a2, a3, py, pe, pt, hbody⟩ := T.F
  obtain ⟨oc, od, kV, doc, pm, an, cdv, ct, osl, rfl, lk, hcd⟩ := F.ex
  refine wpAny_Call_Name_kw (ld_glob I hg T.g ?_ (by decide))
  refine PySem.W.callWith_K0 I.kIn F.kp (wpAny_call ?_)
  have KX := I.kIn
  have KB := I.mod.kin
  refine codeAny_call_generator (by have := hr.dp; omega) (KX _ _ lk) rfl k2 k3 rfl (PySem.W.codeRec_of KX hcd) (hb _ _ KX rfl _ _ _ _ ?_)
  refine wpAny_newFunctionEnv_cells k1 (fun y hy => by simp at hy) fun env he s1 x => ?_
  subst he
  refine ⟨I.nolimit.keeps x.toInCall.keep, ?_⟩
  obtain ⟨h1, tk, es1, hk1⟩ := x.done
  subst es1
  have lt1 : s.heap.objs.size < h1.objs.size := x.toInCall.ns.lt
  obtain ⟨o, n, hl, hc, hd, hv⟩ := hi
  have hsz : its.size = 4 := by have := hv.length; simpa using this.symm
  have AE : ArEnv (gbOf X tv its) (envOfC qual (defScope st) s.heap.objs.size f cdv) := by
    refine ⟨k1, ?_, ?_, ?_, ?_, ⟨X.mg, I.mod.glob, T.gv⟩, ⟨o, KB _ _ hl, hc, n, hd⟩, hsz, k2, ?_⟩
    · show (defScope st).names.lookup _ = _; rw [k4]; decide
    · show (defScope st).names.lookup _ = _; rw [k4]; decide
    · show (defScope st).names.lookup _ = _; rw [k4]; decide
    · show (defScope st).names.lookup _ = _; rw [k4]; decide
    · show ((defScope st).kind == .module && _) = false; rw [k1]; rfl
  obtain ⟨oL, esL, epL, hoL, hdL, hsL⟩ := id x.toInCall.ns
  have main : ∀ (go : Obj) (nm qn : Value) (tk2 : Nat), go.cls = .type "generator" → go.data = .fields #[.int s.gens.size 0, nm, qn] → go.slots = #[] → (∀ h : Heap, (h.push go).get? h.objs.size = some go) →
      ∃ a g, Value.ref h1.objs.size = .ref a ∧ Inv X pins σ H { s with heap := h1.push go, gens := s.gens.push (.fresh (.func (defBody st) (envOfC qual (defScope st) s.heap.objs.size f cdv))), toks := tk2 } ∧
        ArTurn (inA X B) (gbOf X tv its) pins a g 0 H { s with heap := h1.push go, gens := s.gens.push (.fresh (.func (defBody st) (envOfC qual (defScope st) s.heap.objs.size f cdv))), toks := tk2 } := by
    intro go nm qn tk2 hgc hgd hgs hgp
    have kp : ∀ b o, s.heap.get? b = some o → (h1.push go).get? b = some o := fun b o e => Heap.get?_push_of_some _ (hk1 b o e)
    have I1 : Inv X pins σ H { s with heap := h1.push go, toks := tk2 } := I.kept kp
    have I2 : Inv X pins σ H { s with heap := h1.push go, gens := s.gens.push (.fresh (.func (defBody st) (envOfC qual (defScope st) s.heap.objs.size f cdv))), toks := tk2 } :=
      ⟨I1.ok, I1.os, AllBare.push I.bare rfl, I1.base, I1.loc, I1.cell, I1.free, I1.freeC, I1.pin, I1.hok, I1.len⟩
    refine ⟨_, s.gens.size, rfl, I2, [(s.heap.objs.size, oL)], _, ⟨⟨go, nm, qn, hgp _, hgc, hgd, hgs⟩, Array.getElem?_push_size .., fun s'' hpin hbase => ?_, by omega, .inl rfl, I.fpOk (Nat.le_of_lt lt1) (I.hok.fresh (Nat.le_of_lt lt1)), fun q hq => ?_⟩⟩
    · have hLs : s''.heap.get? s.heap.objs.size = some oL := hpin _ (List.mem_singleton.mpr rfl)
      have hG : GSt (gbOf X tv its) s.heap.objs.size ⟨s'', [s.heap.objs.size]⟩ (bindL (envOfC qual (defScope st) s.heap.objs.size f cdv).kindOf (([] : List Str).zip ([] ++ [])) fun _ => none) [] s'' :=
        ⟨⟨rfl, rfl, fun _ _ e _ => e, Nat.le_refl _⟩, hbase, ⟨oL, esL, epL, hLs, hdL, hsL⟩, fun q hq => by simp at hq, fun b hb => ?_, by simp⟩
      · show Sg _ _ _ (.func (defBody st) _) _ [] s''
        rw [hbody]
        exact ar_body (A := B.in1) AE rfl hB hG
      · have e : b = s.heap.objs.size := by simpa using hb
        subst e
        refine ⟨.inl (List.mem_singleton.mpr rfl), ?_⟩
        cases q : X.base.get? s.heap.objs.size with
        | none => exact q
        | some ob => exact absurd (Heap.lt_size (I.bk _ _ q)) (Nat.lt_irrefl _)
    · rw [List.mem_singleton.mp hq]
      refine ⟨Heap.get?_push_of_some _ hoL, I.fpOk (Nat.le_refl _) (I.hok.fresh (Nat.le_refl _)), (fun v z => by rw [hdL] at z; cases z), Nat.ne_of_lt lt1⟩
  exact main _ _ _ _ rfl rfl rfl fun h => Heap.get?_push_size _ rfl
end
section
variable {X : Cx} {pins : List (Addr × Obj)} {σ : L2.St} {H H' : Hp} {s s' : Shared} {G : Gb} {a g i S : Nat} {f tv : Addr} {its : Array Value}
theorem ArTurn.written {o : HO} (T : ArTurn X G pins a g i H s) (hS : H S = some o) (k : ∀ b u, b ≠ S → s.heap.get? b = some u → s'.heap.get? b = some u) (hg : s'.gens = s.gens) (hH : ∀ b, b ≠ S → H b = none → H' b = none) : ArTurn X G pins a g i H' s' := by
  obtain ⟨ap, gs, T⟩ := T
  have ne : ∀ {b}, FpOk X pins H b → b ≠ S := fun {b} f z => by rw [z] at f; have := f.1; rw [hS] at this; cases this
  have fp : ∀ {b}, FpOk X pins H b → FpOk X pins H' b := fun {b} f => ⟨hH b (ne f) f.1, f.2⟩
  obtain ⟨ob, nm, qn, ho, r⟩ := T.gen
  exact ⟨ap, gs, ⟨ob, nm, qn, k a _ (ne T.ga) ho, r⟩, by rw [hg]; exact T.st, T.rdy, T.le, T.awake, fp T.ga, fun p hp => by
    obtain ⟨h1, h2, h3⟩ := T.pin p hp
    exact ⟨k _ _ (ne h2) h1, fp h2, h3⟩⟩
/-- the rows that stand in the list -/
def Got (H H1 : Hp) (ys : List V) : Prop := (∀ b u, H b = some u → H1 b = some u) ∧ ∀ j y, ys[j]? = some y → ∃ q, y = .ref q ∧ H1 q = some (.tup (rowV j))
theorem drain_ar {A : Around} {R : Result → Shared → Prop} {res : Value} {H0 : Hp} (hi : ∃ (o : Obj) (n : Nat), X.K.lookup tv = some o ∧ o.cls = .type "tuple" ∧ o.data = .seq its n ∧ Vals [.non, .int 0, .int 1, .int 2] its.toList)
    (hc : X.calm = true) (hh : A.in1.handled = none) (hf : A.in1.frames = some X.stack) (hd : A.in1.depth < recursionLimit) (ok : X.Ok)
    (hend : ∀ s' H1 ys, Inv X pins σ (upd H1 S (.lst ys)) s' → H1 S = none → Got H0 H1 ys → ys.length = 64 → R (.ok (.ret res)) s') :
    ∀ (m i : Nat) (s : Shared) (H1 : Hp) (ys : List V), m + i = 64 → H1 S = none → Got H0 H1 ys → ys.length = i → Inv X pins σ (upd H1 S (.lst ys)) s → ArTurn (inA X A.in1) (gbOf X tv its) pins a g i (upd H1 S (.lst ys)) s →
      codeAny (model X.prog X.w) A (.builtin "list.extend.loop" ⟨[.ref S, .ref a, res], []⟩) R s := by
  intro m
  induction m with
  | zero =>
    intro i s H1 ys hm h1 hG hl I T
    have e64 : i = 64 := by omega
    subst e64
    refine codeAny_builtin F.entry_extend_loop ?_
    rw [Around.under_plainId F.plain_extend_loop _]
    show wpAny _ A.in1 (pyNext (.ref a) >>= _) _ _ s
    have td := turn_done (X := inA X A.in1) (σ := σ) (tv := tv) (its := its) (E := fun _ _ => False) hc hd (inv_A hh hf I) T
    refine wpAny_bind (thnF td fun r s1 ⟨hr, I1⟩ => ?_)
    subst hr
    exact wpAny_pure (hend _ H1 ys (inv_back_A ok I1) h1 hG hl)
  | succ m ih =>
    intro i s H1 ys hm h1 hG hl I T
    refine codeAny_builtin F.entry_extend_loop ?_
    rw [Around.under_plainId F.plain_extend_loop _]
    show wpAny _ A.in1 (pyNext (.ref a) >>= _) _ _ s
    have ti := turn_item (X := inA X A.in1) (σ := σ) (tv := tv) (its := its) (E := fun _ _ => False) hi hc hd (inv_A hh hf I) T (by omega)
    refine wpAny_bind (thnF ti fun r s1 ⟨q, hr, hq, I1, T1⟩ => ?_)
    subst hr
    show wpAny _ A.in1 (updateSeq S (·.push (.ref q)) >>= _) _ _ _
    have I2 : Inv X pins σ (upd (upd H1 S (.lst ys)) q (.tup (rowV i))) s1 := inv_back_A ok I1
    have nq : q ≠ S := fun z => by rw [z, upd_same] at hq; cases hq
    have hS : (upd (upd H1 S (.lst ys)) q (.tup (rowV i))) S = some (.lst ys) := by rw [upd_ne (Ne.symm nq), upd_same]
    have hq1 : H1 q = none := by rw [upd_ne nq] at hq; exact hq
    obtain ⟨hz', itS, n, ri, e⟩ := I2.hok S _ hS
    have hlen := ri.length
    have eH : upd (upd (upd H1 S (.lst ys)) q (.tup (rowV i))) S (.lst (ys ++ [.ref q])) = upd (upd H1 q (.tup (rowV i))) S (.lst (ys ++ [.ref q])) := by
      funext b
      by_cases hb : b = S
      · subst hb; rw [upd_same, upd_same]
      · rw [upd_ne hb, upd_ne hb]
        by_cases hb2 : b = q
        · subst hb2; rw [upd_same, upd_same]
        · rw [upd_ne hb2, upd_ne hb2, upd_ne hb]
    have hsl : sizeLine > 64 := by decide
    refine wpAny_bind (wpAny_updateSeq e rfl (wpAny_pure ⟨plainId_quiet F.plain_extend_loop _, ?_⟩) (by rw [List.size_toArray]; omega) (by rw [Array.size_push, List.size_toArray]; omega))
    have ho' := Heap.get?_update_self (Obj.mapSeq (·.push (.ref q))) e rfl
    have keep3 : ∀ b o, b ≠ S → s1.heap.get? b = some o → (s1.heap.update S (Obj.mapSeq (·.push (.ref q)))).get? b = some o := fun b o hbS e => (Heap.get?_update_other _ _ (Ne.symm hbS)).trans e
    have I3 : Inv X pins σ (upd (upd H1 q (.tup (rowV i))) S (.lst (ys ++ [.ref q]))) { s1 with heap := s1.heap.update S (Obj.mapSeq (·.push (.ref q))) } := by
      rw [← eH]
      refine I2.write (t' := s1.toks) (by rw [hS]; trivial) (.inl rfl) keep3 ⟨_, ho'⟩ ⟨by rw [List.length_append, List.length_singleton]; omega, itS ++ [.ref q], n + 1, ri.append (.cons (show L2.RelV (.ref q) (.ref q) from rfl) .nil), ?_⟩
      rw [ho']
      simp [Obj.mapSeq]
    refine ih (i + 1) _ (upd H1 q (.tup (rowV i))) (ys ++ [.ref q]) (by omega) (by rw [upd_ne (Ne.symm nq)]; exact h1) ⟨fun b u hb => ?_, fun j y hj => ?_⟩ (by rw [List.length_append, List.length_singleton, hl]) I3 ?_
    · have := hG.1 b u hb
      rw [upd_ne (fun z => by rw [z, hq1] at this; cases this)]
      exact this
    · by_cases hjl : j < ys.length
      · rw [List.getElem?_append_left hjl] at hj
        obtain ⟨q2, rfl, h2⟩ := hG.2 j y hj
        exact ⟨q2, rfl, by rw [upd_ne (fun z => by rw [z, hq1] at h2; cases h2)]; exact h2⟩
      · have hj2 : j < (ys ++ [V.ref q]).length := (List.getElem?_eq_some_iff.mp hj).1
        rw [List.length_append, List.length_singleton] at hj2
        have ej : j = ys.length := by omega
        subst ej
        rw [List.getElem?_append_right (Nat.le_refl _), Nat.sub_self, List.getElem?_cons_zero] at hj
        cases hj
        exact ⟨q, rfl, by rw [upd_same, hl]⟩
    · rw [← eH]
      exact ArTurn.written T1 hS (fun b o hb e => keep3 b o hb e) rfl fun b hb hn => by rw [upd_ne hb]; exact hn
theorem call_list_ar {E : Value → Shared → Prop} {Q' : Value → Shared → Prop} (hi : ∃ (o : Obj) (n : Nat), X.K.lookup tv = some o ∧ o.cls = .type "tuple" ∧ o.data = .seq its n ∧ Vals [.non, .int 0, .int 1, .int 2] its.toList)
    (hc : X.calm = true) (hr : Room 1 X.A) (I : Inv X pins σ H s) (T : ArTurn (inA X X.A.in1.in1) (gbOf X tv its) pins a g 0 H s)
    (hQ : ∀ S s' H1 ys, Inv X pins σ (upd H1 S (.lst ys)) s' → H1 S = none → Got H H1 ys → ys.length = 64 → Q' (.ref S) s') : wpAny (model X.prog X.w) X.A (call (.type "list") [.ref a]) Q' E s := by
  have gen : s.heap.IsGen a g := let ⟨_, _, t⟩ := T; t.gen
  have la : a < s.heap.objs.size := let ⟨_, _, _, ho, _⟩ := gen; Heap.lt_size ho
  refine ListW.list_of fun h' e => ?_
  have keep : ∀ b o, s.heap.get? b = some o → h'.get? b = some o := fun b o z => by
    subst e
    exact (Heap.get?_update_other _ _ (Ne.symm (Nat.ne_of_lt (Heap.lt_size z)))).trans (Heap.get?_push_of_some _ z)
  obtain ⟨k0, new⟩ : ∃ k0, h'.get? s.heap.objs.size = some { cls := .type "list", data := .seq #[] k0 } := ⟨_, by subst e; exact Heap.get?_update_self _ (Heap.get?_push_size s.heap rfl) rfl⟩
  have gen' : ({ s with heap := h' } : Shared).heap.IsGen a g := gen.keeps keep
  have ty := Heap.IsGen.typeIs (s := { s with heap := h' }) gen'
  have apart : Builtin.List.listSameRef (.ref s.heap.objs.size) (.ref a) = false := decide_eq_false (Nat.ne_of_gt la)
  refine wpAny_bind (wpAny_typeOf ty ?_)
  rw [apart]
  refine wpAny_ite_false (by decide) (wpAny_bind (wpAny_pyIter_gen gen' (wpAny_bind (wpAny_holding (wpAny_bind (wpAny_specialOf ty F.gen_no_len ?_))))))
  refine wpAny_bind (wpAny_specialOf ty F.gen_no_hint (wpAny_pure (wpAny_bind (wpAny_rule (wpAny_bind (ListW.seq_twice new rfl (Nat.zero_le _) (show 1 ≤ sizeLine by rw [sizeLine_eq]; decide) (Nat.zero_le _) (wpAny_pure ⟨plainId_quiet F.plain_extend_loop _, ?_⟩)))))))
  have fresh : H s.heap.objs.size = none := I.hok.fresh (Nat.le_refl _)
  have keep2 : ∀ b o, s.heap.get? b = some o → ((h'.update s.heap.objs.size (Obj.mapSeq (·.push Value.none))).update s.heap.objs.size (Obj.mapSeq (·.pop))).get? b = some o := fun b o z => by
    have nb := Ne.symm (Nat.ne_of_lt (Heap.lt_size z))
    rw [Heap.get?_update_other _ _ nb, Heap.get?_update_other _ _ nb]
    exact keep b o z
  have new2 := Heap.get?_update_self (Obj.mapSeq (·.pop)) (Heap.get?_update_self (Obj.mapSeq (·.push Value.none)) new rfl) rfl
  obtain ⟨ap, gs, T⟩ := T
  have fp : ∀ {b}, b ≠ s.heap.objs.size → FpOk (inA X X.A.in1.in1) pins H b → FpOk (inA X X.A.in1.in1) pins (upd H s.heap.objs.size (.lst [])) b := fun nb f => ⟨(upd_ne nb).trans f.1, f.2⟩
  exact drain_ar (X := X) (g := g) (pins := pins) (σ := σ) (H0 := H) (A := X.A.in1) hi hc hr.hd I.ok.frames (Nat.lt_of_lt_of_le (Nat.lt_succ_self _) (by have := hr.dp; show X.A.depth + 1 ≤ _; omega)) I.ok
    (fun s' H1 ys q1 q2 q3 q4 => ⟨rfl, hQ _ s' H1 ys q1 q2 q3 q4⟩) 64 0 _ H [] (by omega) fresh ⟨fun _ _ z => z, fun j y z => nomatch z⟩ rfl (I.laid (t' := s.toks) keep2 (Nat.le_refl _) ⟨Nat.zero_le _, [], _, .nil, new2⟩)
    ⟨ap, gs, ⟨gen.keeps keep2, T.st, T.rdy, T.le, T.awake, fp (Nat.ne_of_lt la) T.ga, fun p hp => have t := T.pin p hp; ⟨keep2 _ _ t.1, fp (Nat.ne_of_lt (Heap.lt_size t.1)) t.2.1, t.2.2⟩⟩⟩
def tListRows : TE := fun σ H Q => ∀ S H1 ys, H1 S = none → Got H H1 ys → ys.length = 64 → Q (.ref S) (upd H1 S (.lst ys))
theorem pe_listRows {p pos pf pc : Pos} (T : ArIs X.K X.mg f tv) (hr : Room 1 X.A) (hc : X.calm = true) (hgl : Gl X "all_rows") (hg : Gl X "list") (hmg : X.mg "list" = none)
    (he : starEach [.Call (.Name "all_rows" pf) [] [] pc] X.env = (false, eval (.Call (.Name "all_rows" pf) [] [] pc) X.env) :: starEach [] X.env := by rfl) : PE X (.Call (.Name "list" p) [.Call (.Name "all_rows" pf) [] [] pc] [] pos) tListRows := by
  refine ⟨fun pins s σ H Q I hq => ?_⟩
  obtain ⟨o, its, n, hi⟩ := T.t
  refine wpAny_Call_Name_kw (ld_blt I hg hmg (by decide +kernel : bootBuiltins "list" = some (.type "list")) ?_ (by decide) (by decide))
  refine PyProof.Rows.callWith_type1 ?_ he rfl
  rw [he]
  show wpAny _ _ (spliced ((false, eval (.Call (.Name "all_rows" pf) [] [] pc) X.env) :: backTo pos (starEach [] X.env))) _ _ s
  refine Calls.spliced_cons (thn (make_arB (B := X.A.in1.in1) hr.hd I T ⟨o, n, hi⟩ hr hgl) fun u s1 ⟨a, g, e, I1, T1⟩ => ?_)
  subst e
  refine Calls.spliced_nil ?_
  exact call_list_ar ⟨o, n, hi⟩ hc hr I1 T1 fun S s' H1 ys q1 q2 q3 q4 => ⟨.ref S, upd H1 S (.lst ys), q1, rfl, hq S H1 ys q2 q3 q4⟩
end
end GP
namespace T2
open PySem L2 PySem.Spec PyProof.Rows
/-- a text repeated -/
def repS (z : Str) (k : Int) : Str := ⟨(List.replicate k.toNat z.cps).foldl (· ++ ·) #[]⟩
theorem rep_size (a : Array Nat) : ∀ (m : Nat) (acc : Array Nat), ((List.replicate m a).foldl (· ++ ·) acc).size = acc.size + a.size * m
  | 0, acc => by simp
  | m + 1, acc => by
    rw [List.replicate_succ, List.foldl_cons, rep_size a m, Array.size_append, Nat.mul_succ]
    omega
theorem repS_len {z : Str} {k : Int} : (repS z k).length = z.length * k.toNat := by
  show ((List.replicate k.toNat z.cps).foldl (· ++ ·) #[]).size = _
  rw [rep_size]
  show 0 + z.length * k.toNat = _
  omega
theorem rep_mem (a : Array Nat) {c : Nat} : ∀ (m : Nat) (acc : Array Nat), c ∈ (List.replicate m a).foldl (· ++ ·) acc → c ∈ acc ∨ c ∈ a
  | 0, acc, h => .inl h
  | m + 1, acc, h => by
    rw [List.replicate_succ, List.foldl_cons] at h
    rcases rep_mem a m _ h with h | h
    · exact Array.mem_append.mp h
    · exact .inr h
theorem repS_mem {z : Str} {k : Int} {c : Nat} (h : c ∈ (repS z k).cps) : c ∈ z.cps := by
  rcases rep_mem z.cps k.toNat #[] h with h | h
  · simp at h
  · exact h
def dMulS (x y : D) (M : MH) : Res D := match x, y with
  | .str z, .int k => if 2 ≤ k ∧ k ≤ 1000 ∧ 1 ≤ z.length ∧ z.length ≤ 1000 then .ok (.str (repS z k)) M else .bad
  | _, _ => .bad
section
variable {X : Cx} {g : Wd} {W : WY} {a b : Expr} {pos : Pos} {m1 m2 : EM}
def rMulS : R2 := fun x y H Q => ∃ z k, x = .str z ∧ y = .int k ∧ 2 ≤ k ∧ k ≤ 1000 ∧ 1 ≤ z.length ∧ z.length ≤ 1000 ∧ Q (.str (repS z k)) H
theorem op_mulS : OpR X (binaryOp .Mult) rMulS := by
  intro pins s σ H x y v u Q I rx ry h
  obtain ⟨z, k, rfl, rfl, h1, h2, h3, h4, q⟩ := h
  obtain ⟨t, rfl⟩ := rx
  obtain ⟨t', rfl⟩ := ry
  have hk : ¬ k < 1 := by omega
  have hx : (k == 1 || z.length == 0) = false := by
    rw [beq_eq_false_iff_ne.mpr (show k ≠ 1 by omega), beq_eq_false_iff_ne.mpr (show z.length ≠ 0 by omega)]
    rfl
  have hkz : z.length * k.toNat ≤ 1000 * 1000 := Nat.mul_le_mul h4 (by omega)
  refine PySem.P.mul_str (by rw [decide_eq_false (by omega), decide_eq_false (by omega)]; rfl) (fun _ _ => ?_) (fun _ _ => ?_) ?_
  · have hm : k * ((2 ^ 63 - 1) / 1000) ≤ 1000 * ((2 ^ 63 - 1) / 1000) := Int.mul_le_mul_of_nonneg_right h2 (by decide)
    have hd : (1000 : Int) ≤ (2 ^ 63 - 1) / k := by
      rw [Int.le_ediv_iff_mul_le (by omega)]
      omega
    omega
  · unfold PySem.Builtin.Str.tooLong
    rw [sizeLine_eq]
    exact decide_eq_false (by omega)
  · rw [if_neg hk, if_neg (by rw [hx]; simp)]
    refine ⟨?_, .str (repS z k), H, I.tok _, ⟨_, rfl⟩, q⟩
    show (repS z k).length ≤ _
    rw [repS_len, sizeLine_eq]
    omega
theorem sim_mulS : Sim2 g dMulS rMulS := fun F M σ H W x y v w Q R rx ry q => by
  unfold dMulS at q
  split at q
  · cases rx; cases ry
    split at q
    · rename_i hc; exact ⟨_, _, rfl, rfl, hc.1, hc.2.1, hc.2.2.1, hc.2.2.2, q.here R (.str _)⟩
    · exact q.elim
  · exact q.elim
theorem de_mulS (ha : PE X a (tD g W m1)) (hb : PE X b (tD g W m2)) : PE X (.BinOp a .Mult b pos) (tD g W (eBin dMulS m1 m2)) := de_op op_mulS sim_mulS ha hb
end
end T2
namespace T2
open PySem L2
def eListRows : EM := fun _ M => .ok (.ref M.length) (M ++ [.lst rowsD])
section
variable {X : Cx} {g : Wd} {W : WY} {p pos pf pc : Pos} {f tv : Addr}
theorem reps_rows {F : List Addr} {H : Hp} {ys : List V} {ds : List D} (n : Nat) (hl : ys.length = ds.length) (hd : ∀ j d, ds[j]? = some d → d = rowD (n + j)) (h : ∀ j y, ys[j]? = some y → ∃ q, y = .ref q ∧ H q = some (.tup (GP.rowV (n + j)))) : Reps g F H ds ys := by
  induction ys generalizing ds n with
  | nil => cases ds with
    | nil => exact .nil
    | cons d ds => simp at hl
  | cons y ys ih => cases ds with
    | nil => simp at hl
    | cons d ds =>
      obtain ⟨q, rfl, hq⟩ := h 0 y rfl
      have := hd 0 d rfl
      subst this
      refine .cons (.tup (SqT.of hq) (.cons (rep_val _) (.cons (rep_val _) (.cons (rep_val _) .nil)))) (ih (n + 1) (by simpa using hl) (fun j d hj => ?_) fun j y hj => ?_)
      · rw [hd (j + 1) d (by rw [List.getElem?_cons_succ]; exact hj)]
        congr 1
        omega
      · rw [show n + 1 + j = n + (j + 1) by omega]
        exact h (j + 1) y (by rw [List.getElem?_cons_succ]; exact hj)
theorem de_listRows (T : GP.ArIs X.K X.mg f tv) (hr : Room 1 X.A) (hm : X.mg "list" = none) (hgl : Gl X "all_rows" := by rfl) (hg : Gl X "list" := by rfl) (hc : X.calm = true := by rfl)
    (he : starEach [.Call (.Name "all_rows" pf) [] [] pc] X.env = (false, eval (.Call (.Name "all_rows" pf) [] [] pc) X.env) :: starEach [] X.env := by rfl) : PE X (.Call (.Name "list" p) [.Call (.Name "all_rows" pf) [] [] pc] [] pos) (tD g W eListRows) :=
  pe_imp (GP.pe_listRows T hr hc hgl hg hm he) fun σ H Q ⟨F, e, M, RS, q⟩ => fun S H1 ys h1 hG hl => by
    obtain ⟨g1, R1⟩ := RS.m.keep hG.1
    have hrep : Reps g F H1 rowsD ys := reps_rows 0 (by rw [hl, rowsD_len]) (fun j d hj => by
      have hj64 : j < 64 := by have := (List.getElem?_eq_some_iff.mp hj).1; rw [rowsD_len] at this; exact this
      rw [rowsD_get hj64] at hj
      cases hj
      rw [Nat.zero_add]) (fun j y hj => by rw [Nat.zero_add]; exact hG.2 j y hj)
    obtain ⟨g2, R2⟩ := R1.laid (m := .lst rowsD) (o := .lst ys) h1 fun F' H' gr => .lst (hrep.mono gr R1.good)
    exact (q.up g1).ok g2 R2 (.ref (by rw [← R1.len]; simp))
end
end T2
namespace T2
open PySem L2
section

section
variable {A B : Type} {e e1 : Env2} {M M1 : MH} {d x y : D} {c : Nat} {ns : List Str} {ds xs : List D} {k : Bool}
theorem y_seq {a b : SM} : sSeq a b e M = qSeq (a e M) b := Eq.trans (rfl) rfl
theorem y_seq_nx {b : SM} : qSeq (.nx e1 M1) b = b e1 M1 := Eq.trans (rfl) rfl
theorem y_seq_rt {b : SM} : qSeq (.rt d M1) b = .rt d M1 := Eq.trans (rfl) rfl
theorem y_seq_ex {b : SM} : qSeq (.ex c ns ds e1 M1) b = .ex c ns ds e1 M1 := Eq.trans (rfl) rfl
theorem y_seq_bk {b : SM} : qSeq (.bk e1 M1) b = .bk e1 M1 := Eq.trans (rfl) rfl
theorem y_seq_ct {b : SM} : qSeq (.ct e1 M1) b = .ct e1 M1 := Eq.trans (rfl) rfl
theorem y_if {c : BM} {a b : SM} : sIf c a b e M = qIf (c e M) e a b := Eq.trans (rfl) rfl
theorem y_if_t {a b : SM} : qIf (.ok true M1) e a b = a e M1 := Eq.trans (rfl) rfl
theorem y_if_f {a b : SM} : qIf (.ok false M1) e a b = b e M1 := Eq.trans (rfl) rfl
theorem y_if_x {a b : SM} : qIf (.exc c ns ds M1) e a b = .ex c ns ds e M1 := Eq.trans (rfl) rfl
theorem y_set {i : Nat} {m : EM} : sSet i m e M = qSet i e (m e M) := Eq.trans (rfl) rfl
theorem y_set_ok {i : Nat} : qSet i e (.ok d M1) = .nx (e.set i (some d)) M1 := Eq.trans (rfl) rfl
theorem y_set_x {i : Nat} : qSet i e (.exc c ns ds M1) = .ex c ns ds e M1 := Eq.trans (rfl) rfl
theorem y_ret {m : EM} : sRet m e M = qRet e (m e M) := Eq.trans (rfl) rfl
theorem y_ret_ok : qRet e (.ok d M1) = .rt d M1 := Eq.trans (rfl) rfl
theorem y_ret_x : qRet e (.exc c ns ds M1) = .ex c ns ds e M1 := Eq.trans (rfl) rfl
theorem y_retN : sRetN e M = .rt .non M := Eq.trans (rfl) rfl
theorem y_do {m : EM} : sDo m e M = qDo e (m e M) := Eq.trans (rfl) rfl
theorem y_do_ok : qDo e (.ok d M1) = .nx e M1 := Eq.trans (rfl) rfl
theorem y_do_x : qDo e (.exc c ns ds M1) = .ex c ns ds e M1 := Eq.trans (rfl) rfl
theorem y_nil : sNil e M = .nx e M := Eq.trans (rfl) rfl
theorem y_raise0 {c : Nat} : sRaise0 c e M = .ex c [] [] e M := Eq.trans (rfl) rfl
theorem y_raise_ok {n : Nat} {f : List D → List D} (h : ds.length = n) : qRaise c n ns f e (.ok ds M1) = .ex c ns (f ds) e M1 := Eq.trans (if_pos h) rfl
theorem y_toR_rt : toR (.rt d M) = .ok d M := Eq.trans (rfl) rfl
theorem y_toR_nx : toR (.nx e M) = .ok .non M := Eq.trans (rfl) rfl
theorem y_toR_ex : toR (.ex c ns ds e M) = .exc c ns ds M := Eq.trans (rfl) rfl
theorem y_fn {n : Nat} {b : SM} : fnB n b ds M = toR (b (env0 n ds) M) := Eq.trans (rfl) rfl
theorem y_c : eC d e M = .ok d M := Eq.trans (rfl) rfl
theorem y_var {n : Nat} : eVar n e M = qVar e[n]? M := Eq.trans (rfl) rfl
theorem y_var_ok : qVar (some (some d)) M = .ok d M := Eq.trans (rfl) rfl
theorem y_un {f : D → MH → Res D} {a : EM} : eUn f a e M = qUn f (a e M) := Eq.trans (rfl) rfl
theorem y_un_ok {f : D → MH → Res D} : qUn f (.ok x M1) = f x M1 := Eq.trans (rfl) rfl
theorem y_un_x {f : D → MH → Res D} : qUn f (.exc c ns ds M1) = .exc c ns ds M1 := Eq.trans (rfl) rfl
theorem y_bin {f : D → D → MH → Res D} {a b : EM} : eBin f a b e M = qBin f (a e M) b e := Eq.trans (rfl) rfl
theorem y_bin_ok {f : D → D → MH → Res D} {b : EM} : qBin f (.ok x M1) b e = qUn (f x) (b e M1) := Eq.trans (rfl) rfl
theorem y_bin_x {f : D → D → MH → Res D} {b : EM} : qBin f (.exc c ns ds M1) b e = .exc c ns ds M1 := Eq.trans (rfl) rfl
theorem y_anil : eNil e M = .ok [] M := Eq.trans (rfl) rfl
theorem y_cons {a : EM} {b : AM} : eCons a b e M = qC1 (a e M) b e := Eq.trans (rfl) rfl
theorem y_cons1 {b : AM} : qC1 (.ok x M1) b e = qC2 x (b e M1) := Eq.trans (rfl) rfl
theorem y_cons1x {b : AM} : qC1 (.exc c ns ds M1) b e = .exc c ns ds M1 := Eq.trans (rfl) rfl
theorem y_cons2 : qC2 x (.ok xs M1) = .ok (x :: xs) M1 := Eq.trans (rfl) rfl
theorem y_cons2x : qC2 x (.exc c ns ds M1) = .exc c ns ds M1 := Eq.trans (rfl) rfl
theorem y_args {f : List D → MH → Res D} {a : AM} : eArgs f a e M = qArgs f (a e M) := Eq.trans (rfl) rfl
theorem y_args_ok {f : List D → MH → Res D} : qArgs f (.ok xs M1) = f xs M1 := Eq.trans (rfl) rfl
theorem y_args_x {f : List D → MH → Res D} : qArgs f (.exc c ns ds M1) = .exc c ns ds M1 := Eq.trans (rfl) rfl
theorem y_tup {a : AM} : eTup a e M = qArgs fTup (a e M) := Eq.trans (rfl) rfl
theorem y_tup_ok (h : xs.length ≤ 1000) : fTup xs M = .ok (.tup xs) M := Eq.trans (if_pos h) rfl
theorem y_fro {a : AM} : eFro a e M = qArgs fFro (a e M) := Eq.trans (rfl) rfl
theorem y_fro_ok (h : xs.length ≤ 1000) : fFro xs M = .ok (.fro xs) M := Eq.trans (if_pos h) rfl
theorem y_lst {a : AM} : eLst a e M = qArgs fLst (a e M) := Eq.trans (rfl) rfl
theorem y_lst_ok (h : xs.length ≤ 1000) : fLst xs M = .ok (.ref M.length) (M ++ [.lst xs]) := Eq.trans (if_pos h) rfl
theorem y_call {n : Nat} {f : List D → MH → Res D} {a : AM} : eCall n f a e M = qArgs (fCall n f) (a e M) := Eq.trans (rfl) rfl
theorem y_stat {c n : Nat} {f : List D → MH → Res D} {a : AM} : eStat c n f a e M = qArgs (fCall n f) (a e M) := Eq.trans (rfl) rfl
theorem y_call_ok {n : Nat} {f : List D → MH → Res D} (h : xs.length = n) : fCall n f xs M = f xs M := Eq.trans (if_pos h) rfl
theorem y_callk {n k : Nat} {gD : List D → List D → List D} {f : List D → MH → Res D} {ma mk : AM} : eCallK n k gD f ma mk e M = qK1 n k gD f (ma e M) mk e := Eq.trans (rfl) rfl
theorem y_callk1 {n k : Nat} {gD : List D → List D → List D} {f : List D → MH → Res D} {mk : AM} : qK1 n k gD f (.ok xs M1) mk e = qK n k gD f xs (mk e M1) := Eq.trans (rfl) rfl
theorem y_callk2 {n k : Nat} {gD : List D → List D → List D} {f : List D → MH → Res D} {zs : List D} (h1 : xs.length = n) (h2 : zs.length = k) : qK n k gD f xs (.ok zs M1) = f (gD xs zs) M1 := Eq.trans (if_pos ⟨h1, h2⟩) rfl
theorem y_mkF {c : Nat} {fs : List Str} {a : AM} : eMakeF c fs a e M = qArgs (fMakeF c fs) (a e M) := Eq.trans (rfl) rfl
theorem y_mkF_ok {c : Nat} {fs : List Str} (h : xs.length = fs.length) : fMakeF c fs xs M = .ok (.ins c fs xs) M := Eq.trans (if_pos h) rfl
theorem y_own1 {c : Nat} {f : List D → MH → Res D} {a : EM} : eOwn1 c f a e M = qUn (fOwn1 c f) (a e M) := Eq.trans (rfl) rfl
theorem y_own1_ok {c : Nat} {f : List D → MH → Res D} : fOwn1 c f (.ins c ns ds) M = f [.ins c ns ds] M := Eq.trans (if_pos rfl) rfl
theorem y_prop {c : Nat} {f : List D → MH → Res D} {a : EM} : eProp c f a e M = qUn (fOwn1 c fun ds M => okR (f ds M)) (a e M) := Eq.trans (rfl) rfl
theorem y_own2 {c : Nat} {f : List D → MH → Res D} {a b : EM} : eOwn2 c f a b e M = qBin (fOwn2 c f) (a e M) b e := Eq.trans (rfl) rfl
theorem y_val {m : EM} : bVal m e M = qVal (m e M) := Eq.trans (rfl) rfl
theorem y_val_ok : qVal (.ok (.bl k) M1) = .ok k M1 := Eq.trans (rfl) rfl
theorem y_val_x : qVal (.exc c ns ds M1) = .exc c ns ds M1 := Eq.trans (rfl) rfl
theorem y_and {a b : BM} : bAnd a b e M = qAnd (a e M) b e := Eq.trans (rfl) rfl
theorem y_and_t {b : BM} : qAnd (.ok true M1) b e = b e M1 := Eq.trans (rfl) rfl
theorem y_and_f {b : BM} : qAnd (.ok false M1) b e = .ok false M1 := Eq.trans (rfl) rfl
theorem y_or {a b : BM} : bOr a b e M = qOr (a e M) b e := Eq.trans (rfl) rfl
theorem y_or_t {b : BM} : qOr (.ok true M1) b e = .ok true M1 := Eq.trans (rfl) rfl
theorem y_or_f {b : BM} : qOr (.ok false M1) b e = b e M1 := Eq.trans (rfl) rfl
theorem y_not {a : BM} : bNot a e M = qNot (a e M) := Eq.trans (rfl) rfl
theorem y_not_ok : qNot (.ok k M1) = .ok (!k) M1 := Eq.trans (rfl) rfl
theorem y_yes : bYes e M = .ok true M := Eq.trans (rfl) rfl
theorem y_eand_t {b : EM} : qEAnd (.ok (.bl true) M1) b e = b e M1 := Eq.trans (rfl) rfl
theorem y_eand_f {b : EM} : qEAnd (.ok (.bl false) M1) b e = .ok (.bl false) M1 := Eq.trans (rfl) rfl
theorem y_eor_t {b : EM} : qEOr (.ok (.bl true) M1) b e = .ok (.bl true) M1 := Eq.trans (rfl) rfl
theorem y_eor_f {b : EM} : qEOr (.ok (.bl false) M1) b e = b e M1 := Eq.trans (rfl) rfl
theorem y_enot_ok : qENot (.ok (.bl k) M1) = .ok (.bl (!k)) M1 := Eq.trans (rfl) rfl
theorem y_eif {c : BM} {a b : EM} : eIf c a b e M = qEIf (c e M) a b e := Eq.trans (rfl) rfl
theorem y_eif_t {a b : EM} : qEIf (.ok true M1) a b e = a e M1 := Eq.trans (rfl) rfl
theorem y_eif_f {a b : EM} : qEIf (.ok false M1) a b e = b e M1 := Eq.trans (rfl) rfl
theorem y_for_v {tg : TgM} {body : SM} : qIt (.ok (.vals ds) M1) tg body e = forV tg body ds e M1 := Eq.trans (rfl) rfl
theorem y_iseq {m : EM} : iSeq m e M = qSeqI (m e M) := Eq.trans (rfl) rfl
theorem y_iseq_t : qSeqI (.ok (.tup ds) M1) = .ok (.vals ds) M1 := Eq.trans (rfl) rfl
theorem y_iseq_f : qSeqI (.ok (.fro ds) M1) = .ok (.vals ds) M1 := Eq.trans (rfl) rfl
theorem y_iseq_r {n : Nat} : qSeqI (.ok (.ref n) M1) = .ok (.live n) M1 := Eq.trans (rfl) rfl
theorem y_rng {a : EM} : iRange1 a e M = qRng (a e M) := Eq.trans (rfl) rfl
theorem y_env0 {n : Nat} {ds : List D} : env0 n ds = ds.map some ++ List.replicate (n - ds.length) none := Eq.trans (rfl) rfl
theorem y_try {i : Nat} {ct : Nat → Option Bool} {body : SM} {suite : Nat → List Str → List D → SM} {e : Env2} {M : MH} : sTry i ct body suite e M = qTry i ct suite (body e M) := Eq.trans (rfl) rfl
theorem y_try_nx {i : Nat} {ct : Nat → Option Bool} {suite : Nat → List Str → List D → SM} {e : Env2} {M : MH} : qTry i ct suite (.nx e M) = .nx e M := Eq.trans (rfl) rfl
theorem y_try_rt {i : Nat} {ct : Nat → Option Bool} {suite : Nat → List Str → List D → SM} {d : D} {M : MH} : qTry i ct suite (.rt d M) = .rt d M := Eq.trans (rfl) rfl
theorem y_try0 {ct : Nat → Option Bool} {body suite : SM} {e : Env2} {M : MH} : sTry0 ct body suite e M = qTry0 ct suite (body e M) := Eq.trans (rfl) rfl
theorem y_try0_nx {ct : Nat → Option Bool} {suite : SM} {e : Env2} {M : MH} : qTry0 ct suite (.nx e M) = .nx e M := Eq.trans (rfl) rfl
theorem y_try0_rt {ct : Nat → Option Bool} {suite : SM} {d : D} {M : MH} : qTry0 ct suite (.rt d M) = .rt d M := Eq.trans (rfl) rfl
theorem y_fv0 {tg : TgM} {body : SM} {e : Env2} {M : MH} : forV tg body [] e M = .nx e M := Eq.trans (rfl) rfl
theorem y_fv_nx {tg : TgM} {body : SM} {xs : List D} {e : Env2} {M : MH} : qFv tg body xs (.nx e M) = forV tg body xs e M := Eq.trans (rfl) rfl
theorem y_fv_ct {tg : TgM} {body : SM} {xs : List D} {e : Env2} {M : MH} : qFv tg body xs (.ct e M) = forV tg body xs e M := Eq.trans (rfl) rfl
theorem y_fv_rt {tg : TgM} {body : SM} {xs : List D} {d : D} {M : MH} : qFv tg body xs (.rt d M) = .rt d M := Eq.trans (rfl) rfl
theorem y_lc_v {tg : TgM} {tt : BM} {m : EM} {vs : List Nat} {e : Env2} {M : MH} {ds : List D} : qLc tg tt m vs e (.ok (.vals ds) M) = lcV tg tt m (wipe2 e vs) M.length ds (M ++ [.lst []]) := Eq.trans (rfl) rfl
theorem y_step {i : Nat} {m : EM} {e : Env2} {x : D} {M : MH} : lcStep (tgName i) bYes m e x M = qStep (m (e.set i (some x)) M) := Eq.trans (rfl) rfl
theorem y_step_ok {y : D} {M : MH} : qStep (.ok y M) = .ok (some y) M := Eq.trans (rfl) rfl
theorem y_istr {m : EM} {e : Env2} {M : MH} : iStrD m e M = qStrI (m e M) := Eq.trans (rfl) rfl
theorem y_istr_ok {z : Str} {M : MH} : qStrI (.ok (.str z) M) = .ok (.vals (signsOf z)) M := Eq.trans (rfl) rfl
end
end
end T2
namespace T2
open PySem L2
/-! ### C(..) with arguments left to their defaults -/
section
variable {X : Cx} {CX : CXT} {k : Nat} {f C : Addr} {fd : FuncData} {ps : List Str} {sp : Sp} {E : L2.St → XK} {x m : Str} {p pos apos : Pos} {e o : Expr} {es : List Expr} {t : TA} {vs0 : List V} {ws0 : List Value}
end

/-- C(..), an instance that may change; what stands behind the arguments are the defaults d0 -/
def eMakeD (c n : Nat) (d0 : List D) (f : List D → MH → Res D) (ma : AM) : EM := fun e M => (ma e M).bind fun ds M1 => if (ds ++ d0).length + 1 = n then (f (.ref M1.length :: (ds ++ d0)) (M1 ++ [.ob c [] []])).bind fun r M2 => match r with
  | .non => .ok (.ref M1.length) M2
  | _ => .bad else .bad
section
variable {X : Cx} {g : Wd} {W : WY} {a b o : Expr} {pos p apos : Pos} {m1 m2 : EM} {ma : AM} {es : List Expr} {k n : Nat} {f C : Addr} {fd : FuncData} {ps : List Str} {m : List D → MH → Res D} {x mn : Str} {c : Nat} {d0 : List D} {vs0 : List V} {ws0 : List Value}
end
theorem ClsF.one {K : PySem.W.Frag} {ca : Nat → Addr} {cs : List Nat} {f : Str} {c : Nat} (h : ClsF K ca cs f) (hc : cs.contains c = true) : ClsF K ca [c] f := ⟨fun d hd => by
  have : d = c := by simpa using hd
  subst this; exact h.cl d hc, fun d hd => by
  have : d = c := by simpa using hd
  subst this; exact h.na d hc⟩
end T2
namespace T2
open PySem L2
/-! ### small steps -/
theorem fcal1 {f : List D → MH → Res D} {x : D} {M : MH} : fCall 1 f [x] M = f [x] M := if_pos rfl
theorem fcal2 {f : List D → MH → Res D} {x y : D} {M : MH} : fCall 2 f [x, y] M = f [x, y] M := if_pos rfl
theorem fcal3 {f : List D → MH → Res D} {x y z : D} {M : MH} : fCall 3 f [x, y, z] M = f [x, y, z] M := if_pos rfl
theorem fcal4 {f : List D → MH → Res D} {x y z u : D} {M : MH} : fCall 4 f [x, y, z, u] M = f [x, y, z, u] M := if_pos rfl
/-! ### lists: one that never changes, or one that may -/
end T2
namespace T2
open PySem L2

/-! ### operations on values, as rewriting rules that are no definitional steps -/
section
variable {i j : Int} {M : MH} {a b c d x y : D} {l ds ns' : List D} {z w : Str} {k : Bool} {cc n m : Nat} {ns : List Str} {e : Env2} {kss : List (List Key)}
theorem o_add : dAdd (.int i) (.int j) M = .ok (.int (i + j)) M := Eq.trans rfl rfl
theorem o_sub : dSub (.int i) (.int j) M = .ok (.int (i - j)) M := Eq.trans rfl rfl
theorem o_lt : dLt (.int i) (.int j) M = .ok (.bl (decide (i < j))) M := Eq.trans rfl rfl
theorem o_le : dLe (.int i) (.int j) M = .ok (.bl (decide (i ≤ j))) M := Eq.trans rfl rfl
theorem o_gt : dGt (.int i) (.int j) M = .ok (.bl (decide (j < i))) M := Eq.trans rfl rfl
theorem o_ge : dGe (.int i) (.int j) M = .ok (.bl (decide (j ≤ i))) M := Eq.trans rfl rfl
theorem o_neg : dNeg (.int i) M = .ok (.int (-i)) M := Eq.trans rfl rfl
theorem o_eqi : dEq (.int i) (.int j) M = .ok (.bl (decide (i = j))) M := by rw [eq_int]; by_cases h : i = j <;> simp [h]
theorem o_nei : dNe (.int i) (.int j) M = .ok (.bl (!decide (i = j))) M := by rw [ne_int]; by_cases h : i = j <;> simp [h]
theorem o_is0 : dIs .non .non M = .ok (.bl true) M := Eq.trans rfl rfl
theorem o_is1 : dIs (.int i) .non M = .ok (.bl false) M := Eq.trans rfl rfl
theorem o_is2 : dIs (.str z) .non M = .ok (.bl false) M := Eq.trans rfl rfl
theorem o_is3 : dIs (.tup l) .non M = .ok (.bl false) M := Eq.trans rfl rfl
theorem o_is4 : dIs (.bl k) .non M = .ok (.bl false) M := Eq.trans rfl rfl
theorem o_is5 : dIs (.ref n) .non M = .ok (.bl false) M := Eq.trans rfl rfl
theorem o_is6 : dIs (.ins cc ns l) .non M = .ok (.bl false) M := Eq.trans rfl rfl
theorem o_is7 : dIs (.fro l) .non M = .ok (.bl false) M := Eq.trans rfl rfl
theorem o_nt0 : dIsNot .non .non M = .ok (.bl false) M := Eq.trans rfl rfl
theorem o_nt1 : dIsNot (.int i) .non M = .ok (.bl true) M := Eq.trans rfl rfl
theorem o_nt2 : dIsNot (.str z) .non M = .ok (.bl true) M := Eq.trans rfl rfl
theorem o_nt3 : dIsNot (.tup l) .non M = .ok (.bl true) M := Eq.trans rfl rfl
theorem o_nt4 : dIsNot (.bl k) .non M = .ok (.bl true) M := Eq.trans rfl rfl
theorem o_nt5 : dIsNot (.ref n) .non M = .ok (.bl true) M := Eq.trans rfl rfl
theorem o_nt6 : dIsNot (.ins cc ns l) .non M = .ok (.bl true) M := Eq.trans rfl rfl
theorem o_ix0 : dIxA (.tup (a :: l)) (.int 0) M = .ok a M := ixT (i := 0) rfl
theorem o_ix1 : dIxA (.tup (a :: b :: l)) (.int 1) M = .ok b M := ixT (i := 1) rfl
theorem o_ix2 : dIxA (.tup (a :: b :: c :: l)) (.int 2) M = .ok c M := ixT (i := 2) rfl
theorem o_ix3 : dIxA (.tup (a :: b :: c :: d :: l)) (.int 3) M = .ok d M := ixT (i := 3) rfl
theorem o_ix4 : dIxA (.tup (a :: b :: c :: d :: x :: l)) (.int 4) M = .ok x M := ixT (i := 4) rfl
theorem o_ix5 : dIxA (.tup (a :: b :: c :: d :: x :: y :: l)) (.int 5) M = .ok y M := ixT (i := 5) rfl
theorem o_fx0 : dIxA (.fro (a :: l)) (.int 0) M = .ok a M := ix_fro atI_0
theorem o_fx1 : dIxA (.fro (a :: b :: l)) (.int 1) M = .ok b M := ix_fro atI_1
theorem o_fx2 : dIxA (.fro (a :: b :: c :: l)) (.int 2) M = .ok c M := ix_fro atI_2
theorem o_fx3 : dIxA (.fro (a :: b :: c :: d :: l)) (.int 3) M = .ok d M := ix_fro atI_3
theorem o_fx4 : dIxA (.fro (a :: b :: c :: d :: x :: l)) (.int 4) M = .ok x M := ix_fro atI_4
theorem o_lenT : dLen [.tup l] M = .ok (.int l.length) M := Eq.trans rfl rfl
theorem o_lenF : dLen [.fro l] M = .ok (.int l.length) M := Eq.trans rfl rfl
theorem o_asB : asB (.bl k) M = .ok k M := Eq.trans rfl rfl
theorem o_tupF : dTupF [.fro l] M = .ok (.tup l) M := Eq.trans rfl rfl
theorem o_tupT : dTupF [.tup l] M = .ok (.tup l) M := Eq.trans rfl rfl
theorem o_listF : dListF [.fro l] M = .ok (.fro l) M := Eq.trans rfl rfl
theorem o_listFT : dListF [.tup l] M = .ok (.fro l) M := Eq.trans rfl rfl
theorem o_listL : dListL [.fro l] M = .ok (.ref M.length) (M ++ [.lst l]) := Eq.trans rfl rfl
theorem o_listLT : dListL [.tup l] M = .ok (.ref M.length) (M ++ [.lst l]) := Eq.trans rfl rfl
end
/-! targets of loops, comprehensions -/
section
variable {e e1 : Env2} {M M1 : MH} {x y : D} {i j k : Nat} {ds : List D}
theorem o_tg1 : tgName i x e = some (e.set i (some x)) := Eq.trans rfl rfl
theorem o_tg2 : tgTup [i, j] (.tup [x, y]) e = some ((e.set i (some x)).set j (some y)) := Eq.trans rfl rfl
theorem o_wipe1 : wipe2 e [i] = e.set i none := Eq.trans rfl rfl
theorem o_wipe2 : wipe2 e [i, j] = (e.set j none).set i none := Eq.trans rfl rfl
theorem o_yes : bYes e M = .ok true M := Eq.trans rfl rfl
end

/-! ### a loop that goes through, step by step -/
end T2
namespace T2
open PySem L2
section
variable {e : Env2} {M : MH}

theorem y_eApp (mo ma : EM) : eApp mo ma e M = ((mo e M).bind fun x M1 => match x with
  | .ref n => match M1[n]? with
    | some (.lst _) => (ma e M1).bind fun y M2 => match M2[n]? with
      | some (.lst ds) => if ds.length < big then .ok .non (M2.set n (.lst (ds ++ [y]))) else .bad
      | _ => .bad
    | _ => .bad
  | _ => .bad) := Eq.trans rfl rfl
theorem y_eSl (mk : List D → MH → Res D) (m : EM) (l h : OM) : eSl mk m l h e M = ((m e M).bind fun x M1 => (l e M1).bind fun lo M2 => (h e M2).bind fun hi M3 => dSl mk x lo hi M3) := Eq.trans rfl rfl
theorem y_ePopAt (mo ma : EM) : ePopAt mo ma e M = ((mo e M).bind fun x M1 => match x with
  | .ref n => match M1[n]? with
    | some (.lst _) => (ma e M1).bind fun y M2 => match M2[n]?, y with
      | some (.lst ds), .int i => if 0 ≤ i ∧ i < ds.length then (match ds[i.toNat]? with
        | some d => if ds.length ≤ 1000 then .ok d (M2.set n (.lst (ds.eraseIdx i.toNat))) else .bad
        | none => .bad) else .bad
      | _, _ => .bad
    | _ => .bad
  | _ => .bad) := Eq.trans rfl rfl
theorem y_eIns (mo mi my : EM) : eIns mo mi my e M = ((mo e M).bind fun x M1 => match x with
  | .ref n => match M1[n]? with
    | some (.lst _) => (eCons mi (eCons my eNil) e M1).bind fun ys M2 => match M2[n]?, ys with
      | some (.lst ds), [.int i, y] => if ds.length < big ∧ 0 ≤ i ∧ i < 2 ^ 63 then .ok .non (M2.set n (.lst (insD ds i y))) else .bad
      | _, _ => .bad
    | _ => .bad
  | _ => .bad) := Eq.trans rfl rfl
theorem y_eChain (f f' : D → D → MH → Res D) (m1 m2 m3 : EM) : eChain f f' m1 m2 m3 e M = ((m1 e M).bind fun x M1 => (m2 e M1).bind fun y M2 => (f x y M2).bind fun r M3 => match r with
  | .bl true => (m3 e M3).bind fun z M4 => f' y z M4
  | .bl false => .ok (.bl false) M3
  | _ => .bad) := Eq.trans rfl rfl
theorem y_eMake (c n : Nat) (f : List D → MH → Res D) (ma : AM) : eMake c n f ma e M = ((ma e M).bind fun ds M1 => if ds.length + 1 = n then (f (.ref M1.length :: ds) (M1 ++ [.ob c [] []])).bind fun r M2 => match r with
  | .non => .ok (.ref M1.length) M2
  | _ => .bad else .bad) := Eq.trans rfl rfl
theorem y_eMeth (c : Nat) (m : Str) (n : Nat) (f : List D → MH → Res D) (mo : EM) (ma : AM) : eMeth c m n f mo ma e M = ((mo e M).bind fun x M1 => match instOf M1 x with
  | some (c', ns, _) => if c' = c ∧ m ∉ ns then (ma e M1).bind fun ds M2 => if ds.length + 1 = n then f (x :: ds) M2 else .bad else .bad
  | none => .bad) := Eq.trans rfl rfl
theorem y_eMakeRK (c n kk : Nat) (gz : List D → List D) (f : List D → MH → Res D) (ma mk : AM) : eMakeRK c n kk gz f ma mk e M = ((ma e M).bind fun ds M1 => (mk e M1).bind fun zs M2 => if zs.length = kk ∧ n ≤ ds.length + 1 ∧ ds.length ≤ 900 then (f (packRK n (.ref M2.length :: ds) (gz zs)) (M2 ++ [.ob c [] []])).bind fun r M3 => match r with
  | .non => .ok (.ref M2.length) M3
  | _ => .bad else .bad) := Eq.trans rfl rfl
theorem y_eMakeK (c n kk : Nat) (gD : List D → List D → List D) (f : List D → MH → Res D) (mk : AM) : eMakeK c n kk gD f mk e M = ((mk e M).bind fun zs M1 => if zs.length = kk then (f (gD [.ref M1.length] zs) (M1 ++ [.ob c [] []])).bind fun r M2 => match r with
  | .non => .ok (.ref M1.length) M2
  | _ => .bad else .bad) := Eq.trans rfl rfl
theorem y_eMakeD (c n : Nat) (d0 : List D) (f : List D → MH → Res D) (ma : AM) : eMakeD c n d0 f ma e M = ((ma e M).bind fun ds M1 => if (ds ++ d0).length + 1 = n then (f (.ref M1.length :: (ds ++ d0)) (M1 ++ [.ob c [] []])).bind fun r M2 => match r with
  | .non => .ok (.ref M1.length) M2
  | _ => .bad else .bad) := Eq.trans rfl rfl
theorem y_eStar (a : EM) (b : AM) : eStar a b e M = ((a e M).bind fun x M1 => match items M1 x with
  | some ds => (b e M1).bind fun xs M2 => .ok (ds ++ xs) M2
  | none => .bad) := Eq.trans rfl rfl
theorem y_eXFld (b : Bool) (f : Str) (ns : List Str) (ds : List D) : eXFld b f ns ds e M = (if b = true then match fieldOf f ns ds with
  | some d => .ok d M
  | none => .bad else .bad) := Eq.trans rfl rfl
theorem y_eXIsF (b : Option Bool) : eXIsF b e M = (match b with
  | some b => .ok (.bl b) M
  | none => .bad) := Eq.trans rfl rfl
theorem y_sPutF (cs : List Nat) (f : Str) (mo mv : EM) : sPutF cs f mo mv e M = ((mv e M).toS e fun v M1 => (mo e M1).toS e fun o M2 => match dPutF cs f o v M2 with
  | some M3 => .nx e M3
  | none => .bad) := Eq.trans rfl rfl
theorem y_sSetIx (f : D → D → D → MH → Option MH) (mo mi mv : EM) : sSetIx f mo mi mv e M = ((mv e M).toS e fun v M1 => (mo e M1).toS e fun o M2 => (mi e M2).toS e fun i M3 => match f o i v M3 with
  | some M4 => .nx e M4
  | none => .bad) := Eq.trans rfl rfl
theorem y_sIncF (cs : List Nat) (f : Str) (mo mv : EM) : sIncF cs f mo mv e M = ((mo e M).toS e fun o M1 => match dFld cs f o M1 with
  | .ok (.int i) _ => (mv e M1).toS e fun y M2 => match y, instOf M1 o, instOf M2 o with
    | .int j, some (c, _, _), some (c', _, _) => if c = c' then (match dPutF cs f o (.int (i + j)) M2 with
      | some M3 => .nx e M3
      | none => .bad) else .bad
    | _, _, _ => .bad
  | _ => .bad) := Eq.trans rfl rfl
theorem y_sUnp (is : List Nat) (m : EM) : sUnp is m e M = ((m e M).toS e fun d M1 => match tgTup is d e with
  | some e1 => .nx e1 M1
  | none => .bad) := Eq.trans rfl rfl
theorem y_sUnpL (is : List Nat) (m : EM) : sUnpL is m e M = ((m e M).toS e fun d M1 => match listItems M1 d with
  | some ds => if ds.length = is.length then .nx (setAll e is ds) M1 else .bad
  | none => .bad) := Eq.trans rfl rfl
theorem y_sDelD (mo mi : EM) : sDelD mo mi e M = ((mo e M).toS e fun o M1 => (mi e M1).toS e fun i M2 => match dDelD o i M2 with
  | some M3 => .nx e M3
  | none => .bad) := Eq.trans rfl rfl
theorem y_oNone : oNone  e M = (.ok none M) := Eq.trans rfl rfl
theorem y_oSome (m : EM) : oSome m e M = ((m e M).bind fun d M1 => match d with
  | .int i => .ok (some i) M1
  | _ => .bad) := Eq.trans rfl rfl
theorem y_iRange2 (a b : EM) : iRange2 a b e M = ((a e M).bind fun d M1 => (b e M1).bind fun d2 M2 => match d, d2 with
  | .int i, .int j => if -(2 ^ 62) ≤ i ∧ i < 2 ^ 62 ∧ -(2 ^ 62) ≤ j ∧ j < 2 ^ 62 then .ok (.vals (rangeD i (j - i).toNat)) M2 else .bad
  | _, _ => .bad) := Eq.trans rfl rfl
theorem y_iZip2 (a b : EM) : iZip2 a b e M = ((a e M).bind fun x M1 => (b e M1).bind fun y M2 => fZip x y M2) := Eq.trans rfl rfl
theorem y_eDNew : eDNew  e M = (.ok (.ref M.length) (M ++ [.dk [] []])) := Eq.trans rfl rfl
theorem y_eLenO  (c : Nat) (f : List D → MH → Res D) (ma : AM) : eLenO c f ma e M = (eArgs (fun ds M => match ds with
  | [x] => (match instOf M x with
    | some (c1, _, _) => if c1 = c then inR (f [x] M) else .bad
    | none => .bad)
  | _ => .bad) ma) e M := Eq.trans rfl rfl
theorem y_eOwnIn (neg : Bool) (c : Nat) (f : List D → MH → Res D) (a b : EM) : eOwnIn neg c f a b e M = ((a e M).bind fun x M1 => (b e M1).bind fun y M2 => match instOf M2 y with
  | some (c1, _, _) => if c1 = c then (blR (f [y, x] M2)).bind fun r M3 => match r with
    | .bl k => .ok (.bl (if neg then !k else k)) M3
    | _ => .bad else .bad
  | none => .bad) := Eq.trans rfl rfl
theorem y_eDGet1 (mo mk : EM) : eDGet1 mo mk e M = ((mo e M).bind fun x M1 => match x with
  | .ref n => match M1[n]? with
    | some (.dk _ _) => (mk e M1).bind fun y M2 => match M2[n]?, keyOf y with
      | some (.dk ks ds), some k => .ok ((kGet ks ds k).getD .non) M2
      | _, _ => .bad
    | _ => .bad
  | _ => .bad) := Eq.trans rfl rfl
theorem y_eDGet2 (mo mk mx : EM) : eDGet2 mo mk mx e M = ((mo e M).bind fun x M1 => match x with
  | .ref n => match M1[n]? with
    | some (.dk _ _) => (mk e M1).bind fun y M2 => (mx e M2).bind fun z M3 => match M3[n]?, keyOf y with
      | some (.dk ks ds), some k => .ok ((kGet ks ds k).getD z) M3
      | _, _ => .bad
    | _ => .bad
  | _ => .bad) := Eq.trans rfl rfl
theorem y_eDPop2 (mo mk mx : EM) : eDPop2 mo mk mx e M = ((mo e M).bind fun x M1 => match x with
  | .ref n => match M1[n]? with
    | some (.dk _ _) => (mk e M1).bind fun y M2 => (mx e M2).bind fun z M3 => match M3[n]?, keyOf y with
      | some (.dk ks ds), some k => (match kGet ks ds k with
        | some d => .ok d (M3.set n (.dk ((kDrop k ks ds).map (·.1)) ((kDrop k ks ds).map (·.2))))
        | none => .ok z M3)
      | _, _ => .bad
    | _ => .bad
  | _ => .bad) := Eq.trans rfl rfl
theorem y_sForItems (i : Nat) (tg : TgM) (body : SM) : sForItems i tg body e M = (match e[i]? with
  | some (some (.ref n)) => (match M[n]? with
    | some (.dk ks ds) => unlkK n (forV tg body (itemsD ks ds) e (M.set n (.lk ks ds)))
    | _ => .bad)
  | _ => .bad) := Eq.trans rfl rfl
theorem y_eCallRK (n k : Nat) (f : List D → MH → Res D) (ma mk : AM) : eCallRK n k f ma mk e M = ((ma e M).bind fun ds M1 => (mk e M1).bind fun zs M2 => if zs.length = k then fCallRK n f ds zs M2 else .bad) := Eq.trans rfl rfl
theorem y_eCallR  (n : Nat) (f : List D → MH → Res D) (a : AM) : eCallR n f a e M = (eArgs (fCallR n f) a) e M := Eq.trans rfl rfl
theorem y_eLenSet (m : EM) : eLenSet m e M = ((m e M).bind fun x M1 => match listItems M1 x with
  | some ds => (match strsOf ds with
    | some zs => if zs.length ≤ 1 then .ok (.int zs.length) M1 else .bad
    | none => .bad)
  | none => .bad) := Eq.trans rfl rfl
theorem y_bind_ok {A B : Type} {a : A} {k : A → MH → Res B} : (Res.ok a M).bind k = k a M := Eq.trans rfl rfl
theorem y_bind_x {A B : Type} {c : Nat} {ns : List Str} {ds : List D} {k : A → MH → Res B} : (Res.exc c ns ds M : Res A).bind k = .exc c ns ds M := Eq.trans rfl rfl
theorem y_toS_ok {d : D} {k : D → MH → SR} : (Res.ok d M).toS e k = k d M := Eq.trans rfl rfl
theorem y_toS_x {c : Nat} {ns : List Str} {ds : List D} {k : D → MH → SR} : (Res.exc c ns ds M : Res D).toS e k = .ex c ns ds e M := Eq.trans rfl rfl
/-! new things at the end of what there is -/
variable {G : MH} {o o' a b c d : MO}
theorem g_0 : (M ++ o :: G)[M.length]? = some o := by simp
theorem g_1 : (M ++ a :: o :: G)[M.length + 1]? = some o := by simp
theorem g_2 : (M ++ a :: b :: o :: G)[M.length + 2]? = some o := by simp
theorem g_3 : (M ++ a :: b :: c :: o :: G)[M.length + 3]? = some o := by simp
theorem g_4 : (M ++ a :: b :: c :: d :: o :: G)[M.length + 4]? = some o := by simp
theorem s_0 : (M ++ o :: G).set M.length o' = M ++ o' :: G := by simp
theorem s_1 : (M ++ a :: o :: G).set (M.length + 1) o' = M ++ a :: o' :: G := by simp
theorem s_2 : (M ++ a :: b :: o :: G).set (M.length + 2) o' = M ++ a :: b :: o' :: G := by simp
theorem s_3 : (M ++ a :: b :: c :: o :: G).set (M.length + 3) o' = M ++ a :: b :: c :: o' :: G := by simp
theorem s_4 : (M ++ a :: b :: c :: d :: o :: G).set (M.length + 4) o' = M ++ a :: b :: c :: d :: o' :: G := by simp
theorem g_5 {x0 x1 x2 x3 x4 : MO} : (M ++ x0 :: x1 :: x2 :: x3 :: x4 :: o :: G)[M.length + 5]? = some o := by simp
theorem s_5 {x0 x1 x2 x3 x4 : MO} : (M ++ x0 :: x1 :: x2 :: x3 :: x4 :: o :: G).set (M.length + 5) o' = M ++ x0 :: x1 :: x2 :: x3 :: x4 :: o' :: G := by simp
theorem g_6 {x0 x1 x2 x3 x4 x5 : MO} : (M ++ x0 :: x1 :: x2 :: x3 :: x4 :: x5 :: o :: G)[M.length + 6]? = some o := by simp
theorem s_6 {x0 x1 x2 x3 x4 x5 : MO} : (M ++ x0 :: x1 :: x2 :: x3 :: x4 :: x5 :: o :: G).set (M.length + 6) o' = M ++ x0 :: x1 :: x2 :: x3 :: x4 :: x5 :: o' :: G := by simp
theorem g_7 {x0 x1 x2 x3 x4 x5 x6 : MO} : (M ++ x0 :: x1 :: x2 :: x3 :: x4 :: x5 :: x6 :: o :: G)[M.length + 7]? = some o := by simp
theorem s_7 {x0 x1 x2 x3 x4 x5 x6 : MO} : (M ++ x0 :: x1 :: x2 :: x3 :: x4 :: x5 :: x6 :: o :: G).set (M.length + 7) o' = M ++ x0 :: x1 :: x2 :: x3 :: x4 :: x5 :: x6 :: o' :: G := by simp
theorem g_8 {x0 x1 x2 x3 x4 x5 x6 x7 : MO} : (M ++ x0 :: x1 :: x2 :: x3 :: x4 :: x5 :: x6 :: x7 :: o :: G)[M.length + 8]? = some o := by simp
theorem s_8 {x0 x1 x2 x3 x4 x5 x6 x7 : MO} : (M ++ x0 :: x1 :: x2 :: x3 :: x4 :: x5 :: x6 :: x7 :: o :: G).set (M.length + 8) o' = M ++ x0 :: x1 :: x2 :: x3 :: x4 :: x5 :: x6 :: x7 :: o' :: G := by simp
theorem o_slT {mk : List D → MH → Res D} {ds : List D} {lo hi : Option Int} : dSl mk (.tup ds) lo hi M = .ok (.tup (cutD ds lo hi)) M := Eq.trans rfl rfl
theorem o_slF {ds : List D} {lo hi : Option Int} : dSl mkF (.fro ds) lo hi M = .ok (.fro (cutD ds lo hi)) M := Eq.trans rfl rfl
end
theorem o_putF {cs : List Nat} {f : Str} {n : Nat} {v : D} {M : MH} : dPutF cs f (.ref n) v M = (match M[n]? with
  | some (.ob c ns ds) => if cs.contains c = true ∧ ns.length < 100 ∧ ns.length = ds.length then some (M.set n (.ob c (putN f v ns ds).1 (putN f v ns ds).2)) else none
  | _ => none) := Eq.trans rfl rfl
theorem o_li {n : Nat} {M : MH} : listItems M (.ref n) = (match M[n]? with
  | some (.lst ds) => some ds
  | _ => none) := Eq.trans rfl rfl
theorem o_liF {ds : List D} {M : MH} : listItems M (.fro ds) = some ds := Eq.trans rfl rfl
theorem o_lenR {n : Nat} {M : MH} : dLen [.ref n] M = (match M[n]? with
  | some (.lst ds) => .ok (.int ds.length) M
  | _ => .bad) := by
  unfold dLen
  dsimp only [T2.items]
  cases M[n]? with
  | none => rfl
  | some o => cases o <;> rfl
theorem o_tupR {n : Nat} {M : MH} : dTupF [.ref n] M = (match M[n]? with
  | some (.lst ds) => .ok (.tup ds) M
  | _ => .bad) := by
  unfold dTupF
  dsimp only [T2.items]
  cases M[n]? with
  | none => rfl
  | some o => cases o <;> rfl
theorem o_lstFR {n : Nat} {M : MH} : dListF [.ref n] M = (match M[n]? with
  | some (.lst ds) => .ok (.fro ds) M
  | _ => .bad) := by
  unfold dListF
  dsimp only [T2.items]
  cases M[n]? with
  | none => rfl
  | some o => cases o <;> rfl
theorem o_lstLR {n : Nat} {M : MH} : dListL [.ref n] M = (match M[n]? with
  | some (.lst ds) => .ok (.ref M.length) (M ++ [.lst ds])
  | _ => .bad) := by
  unfold dListL
  dsimp only [T2.items]
  cases M[n]? with
  | none => rfl
  | some o => cases o <;> rfl
theorem o_try_x {i : Nat} {ct : Nat → Option Bool} {suite : Nat → List Str → List D → SM} {c : Nat} {ns : List Str} {ds : List D} {e : Env2} {M : MH} : qTry i ct suite (.ex c ns ds e M) = (match ct c with
    | some true => if i < e.length then unbind i (suite c ns ds (e.set i none) M) else .bad
    | some false => .ex c ns ds e M
    | none => .bad) := Eq.trans rfl rfl
theorem o_try0_x {ct : Nat → Option Bool} {suite : SM} {c : Nat} {ns : List Str} {ds : List D} {e : Env2} {M : MH} : qTry0 ct suite (.ex c ns ds e M) = (match ct c with
    | some true => (match suite e M with
      | .ex _ _ _ _ _ => .bad
      | r => r)
    | some false => .ex c ns ds e M
    | none => .bad) := Eq.trans rfl rfl
theorem o_unb_rt {i : Nat} {d : D} {M : MH} : unbind i (.rt d M) = .rt d M := Eq.trans rfl rfl
theorem o_unb_nx {i : Nat} {e : Env2} {M : MH} : unbind i (.nx e M) = .nx (e.set i none) M := Eq.trans rfl rfl
theorem big_0 : 0 < big := by decide
theorem o_rev {n : Nat} {mk : List D → MH → Res D} {M : MH} : fRev mk (.ref n) M = (match M[n]? with
    | some (.lst ds) => mk ds.reverse M
    | _ => .bad) := by
  unfold fRev listItems
  dsimp only
  cases M[n]? with
  | none => rfl
  | some o => cases o <;> rfl
theorem o_mkF {ds : List D} {M : MH} : mkF ds M = .ok (.fro ds) M := Eq.trans rfl rfl
theorem o_mkL {ds : List D} {M : MH} : mkL ds M = .ok (.ref M.length) (M ++ [.lst ds]) := Eq.trans rfl rfl
/-! ### early ends -/
end T2
namespace K01
open PySem L2 T2
def top (i : Nat) : Stmt := PySem.Challenge.pw_bookstogether_k01_rows_and_names.main.body.getD i (.Pass ⟨0, 0, 0, 0⟩)
abbrev s_law_box : Stmt := top 20
theorem sc_law_box : FnScope ["_law_script"] ["_law_script"] (defScope s_law_box) := ⟨rfl, rfl, rfl, by decide +kernel, rfl, by decide +kernel, by decide +kernel⟩
abbrev s_law_draw : Stmt := top 21
theorem sc_law_draw : FnScope ["_law_box_here", "_law_size", "_law_drawn", "_law_mixed"] ["_law_box_here", "_law_size"] (defScope s_law_draw) := ⟨rfl, rfl, rfl, by decide +kernel, rfl, by decide +kernel, by decide +kernel⟩
abbrev s_law_row : Stmt := top 23
theorem sc_law_row : FnScope ["_law_box_here", "_law_row_here", "_law_k"] ["_law_box_here"] (defScope s_law_row) := ⟨rfl, rfl, rfl, by decide +kernel, rfl, by decide +kernel, by decide +kernel⟩
abbrev s_law_pick : Stmt := top 22
theorem sc_law_pick : FnScope ["_law_box_here", "_law_menu"] ["_law_box_here", "_law_menu"] (defScope s_law_pick) := ⟨rfl, rfl, rfl, by decide +kernel, rfl, by decide +kernel, by decide +kernel⟩
abbrev s_law_bad_row : Stmt := top 28
theorem sc_law_bad_row : FnScope ["_law_box_here", "_law_row_here", "_law_kind", "_law_at"] ["_law_box_here", "_law_row_here"] (defScope s_law_bad_row) := ⟨rfl, rfl, rfl, by decide +kernel, rfl, by decide +kernel, by decide +kernel⟩
abbrev s_law_string : Stmt := top 29
theorem sc_law_string : FnScope ["_law_box_here", "_law_letters", "_law_signs", "_law_word", "_law_k", "_law_kind", "_law_at"] ["_law_box_here"] (defScope s_law_string) := ⟨rfl, rfl, rfl, by decide +kernel, rfl, by decide +kernel, by decide +kernel⟩
abbrev s_law_rows : Stmt := top 30
theorem sc_law_rows : FnScope ["_law_box_here", "_law_rows_here", "_law_k", "_law_row_here"] ["_law_box_here"] (defScope s_law_rows) := ⟨rfl, rfl, rfl, by decide +kernel, rfl, by decide +kernel, by decide +kernel⟩
abbrev s_law_every : Stmt := top 24
theorem sc_law_every : FnScope ["_law_rows_here", "_law_first", "_law_second", "_law_third"] [] (defScope s_law_every) := ⟨rfl, rfl, rfl, by decide +kernel, rfl, by decide +kernel, by decide +kernel⟩
abbrev s_law_alike : Stmt := top 27
theorem sc_law_alike : FnScope ["_law_actual", "_law_due", "_law_k"] ["_law_actual", "_law_due"] (defScope s_law_alike) := ⟨rfl, rfl, rfl, by decide +kernel, rfl, by decide +kernel, by decide +kernel⟩
abbrev s_is_value : Stmt := top 7
theorem sc_is_value : FnScope ["value"] ["value"] (defScope s_is_value) := ⟨rfl, rfl, rfl, by decide +kernel, rfl, by decide +kernel, by decide +kernel⟩
abbrev s_check_row : Stmt := top 8
theorem sc_check_row : FnScope ["row", "value"] ["row"] (defScope s_check_row) := ⟨rfl, rfl, rfl, by decide +kernel, rfl, by decide +kernel, by decide +kernel⟩
abbrev s_law_row_checked : Stmt := top 32
theorem sc_law_row_checked : FnScope ["_law_row_here", "_law_good", "_law_told", "bad"] ["_law_row_here", "_law_good"] (defScope s_law_row_checked) := ⟨rfl, rfl, rfl, by decide +kernel, rfl, by decide +kernel, by decide +kernel⟩
abbrev s_law_is_name : Stmt := top 31
theorem sc_law_is_name : FnScope ["_law_word", "_law_sign"] ["_law_word"] (defScope s_law_is_name) := ⟨rfl, rfl, rfl, by decide +kernel, rfl, by decide +kernel, by decide +kernel⟩
abbrev s_is_name : Stmt := top 17
theorem sc_is_name : FnScope ["name", "sign"] ["name"] (defScope s_is_name) := ⟨rfl, rfl, rfl, by decide +kernel, rfl, by decide +kernel, by decide +kernel⟩
abbrev s_InvalidName___init__ : Stmt := inClass (top 2) 0
theorem sc_InvalidName___init__ : ScopeS ["self", "name"] ["self", "name"] (defScope s_InvalidName___init__) := ⟨rfl, rfl, rfl, by decide +kernel, rfl, by decide +kernel, by decide +kernel, rfl, rfl, by decide +kernel⟩
def xv_InvalidName : List D → List D := fun ds => [dAt ds 0]
abbrev s_check_name : Stmt := top 18
theorem sc_check_name : FnScope ["name"] ["name"] (defScope s_check_name) := ⟨rfl, rfl, rfl, by decide +kernel, rfl, by decide +kernel, by decide +kernel⟩
abbrev s_law_name_checked : Stmt := top 33
theorem sc_law_name_checked : FnScope ["_law_word", "_law_good", "_law_told", "bad"] ["_law_word"] (defScope s_law_name_checked) := ⟨rfl, rfl, rfl, by decide +kernel, rfl, by decide +kernel, by decide +kernel⟩
abbrev s_value_key : Stmt := top 9
theorem sc_value_key : FnScope ["value"] ["value"] (defScope s_value_key) := ⟨rfl, rfl, rfl, by decide +kernel, rfl, by decide +kernel, by decide +kernel⟩
abbrev s_row_key : Stmt := top 10
theorem sc_row_key : FnScope ["row"] ["row"] (defScope s_row_key) := ⟨rfl, rfl, rfl, by decide +kernel, rfl, by decide +kernel, by decide +kernel⟩
abbrev s_sorted_rows : Stmt := top 11
theorem sc_sorted_rows : FnScope ["rows"] ["rows"] (defScope s_sorted_rows) := ⟨rfl, rfl, rfl, by decide +kernel, rfl, by decide +kernel, by decide +kernel⟩
abbrev s_law_key : Stmt := top 25
theorem sc_law_key : FnScope ["_law_row_here", "_law_part"] ["_law_row_here"] (defScope s_law_key) := ⟨rfl, rfl, rfl, by decide +kernel, rfl, by decide +kernel, by decide +kernel⟩
abbrev s_law_sorted : Stmt := top 26
theorem sc_law_sorted : FnScope ["_law_rows_here"] ["_law_rows_here"] (defScope s_law_sorted) := ⟨rfl, rfl, rfl, by decide +kernel, rfl, by decide +kernel, by decide +kernel⟩
abbrev s_altered : Stmt := top 13
theorem sc_altered : FnScope ["row", "column", "value"] ["row", "column", "value"] (defScope s_altered) := ⟨rfl, rfl, rfl, by decide +kernel, rfl, by decide +kernel, by decide +kernel⟩
abbrev s_law : Stmt := top 34
theorem sc_law : FnScope ["_law_script", "_law_box_here", "_law_row_here", "_law_column", "_law_value", "_law_spoilt", "_law_word", "_law_rows_here", "_law_every_here", "_law_k", "_law_one", "_law_name", "_law_handed", "_law_told"] ["_law_script"] (defScope s_law) := ⟨rfl, rfl, rfl, by decide +kernel, rfl, by decide +kernel, by decide +kernel⟩
abbrev s_all_rows : Stmt := top 12
def c_VALUES : D := .tup [(.non), (.int 0), (.int 1), (.int 2)]
def c_FREE : D := .tup [(.non), (.non), (.non)]
def ct_BookError : Nat → Option Bool
  | 1 => some true
  | 3 => some true
  | _ => none
def xis_InvalidName : Nat → Option Bool
  | 1 => some true
  | 3 => some false
  | _ => none
def xis_InvalidRow : Nat → Option Bool
  | 1 => some false
  | 3 => some true
  | _ => none
def c_RESERVED : D := .tup [(.str "on"), (.str "set"), (.str "new")]
def xf_name : Nat → Bool
  | 1 => true
  | _ => false
def isiTab : IsiTab := bltTab
def isi : Tg → Tg → Option Bool := isiOf isiTab
structure Txt (P : Program) (w : World) (K : PySem.W.Frag) (mg : Str → Option Value) (ad : Nat → Addr) (fd : Nat → FuncData) : Prop where
  g17 : mg "_law_box" = some (.ref (ad 17))
  g20 : mg "_law_row" = some (.ref (ad 20))
  g18 : mg "_law_draw" = some (.ref (ad 18))
  g19 : mg "_law_pick" = some (.ref (ad 19))
  g25 : mg "_law_bad_row" = some (.ref (ad 25))
  g26 : mg "_law_string" = some (.ref (ad 26))
  g27 : mg "_law_rows" = some (.ref (ad 27))
  g21 : mg "_law_every" = some (.ref (ad 21))
  g24 : mg "_law_alike" = some (.ref (ad 24))
  g4 : mg "VALUES" = some (.ref (ad 4))
  g5 : mg "FREE" = some (.ref (ad 5))
  g29 : mg "_law_row_checked" = some (.ref (ad 29))
  g30 : mg "_law_name_checked" = some (.ref (ad 30))
  g10 : mg "sorted_rows" = some (.ref (ad 10))
  g23 : mg "_law_sorted" = some (.ref (ad 23))
  g12 : mg "altered" = some (.ref (ad 12))
  g9 : mg "row_key" = some (.ref (ad 9))
  g22 : mg "_law_key" = some (.ref (ad 22))
  g8 : mg "value_key" = some (.ref (ad 8))
  g28 : mg "_law_is_name" = some (.ref (ad 28))
  g15 : mg "is_name" = some (.ref (ad 15))
  g0 : mg "BookError" = some (.ref (ad 0))
  g16 : mg "check_name" = some (.ref (ad 16))
  g1 : mg "InvalidName" = some (.ref (ad 1))
  g3 : mg "InvalidRow" = some (.ref (ad 3))
  g14 : mg "RESERVED" = some (.ref (ad 14))
  g7 : mg "check_row" = some (.ref (ad 7))
  g6 : mg "is_value" = some (.ref (ad 6))
  F17 : Fun K "_law_box" "_law_box" s_law_box (ad 17) (fd 17)
  b17 : Binds K (fd 17) ["_law_script"] []
  F18 : Fun K "_law_draw" "_law_draw" s_law_draw (ad 18) (fd 18)
  b18 : Binds K (fd 18) ["_law_box_here", "_law_size"] []
  F20 : Fun K "_law_row" "_law_row" s_law_row (ad 20) (fd 20)
  b20 : Binds K (fd 20) ["_law_box_here"] []
  F19 : Fun K "_law_pick" "_law_pick" s_law_pick (ad 19) (fd 19)
  b19 : Binds K (fd 19) ["_law_box_here", "_law_menu"] []
  F25 : Fun K "_law_bad_row" "_law_bad_row" s_law_bad_row (ad 25) (fd 25)
  b25 : Binds K (fd 25) ["_law_box_here", "_law_row_here"] []
  F26 : Fun K "_law_string" "_law_string" s_law_string (ad 26) (fd 26)
  b26 : Binds K (fd 26) ["_law_box_here"] []
  F27 : Fun K "_law_rows" "_law_rows" s_law_rows (ad 27) (fd 27)
  b27 : Binds K (fd 27) ["_law_box_here"] []
  F21 : Fun K "_law_every" "_law_every" s_law_every (ad 21) (fd 21)
  b21 : Binds K (fd 21) [] []
  F24 : Fun K "_law_alike" "_law_alike" s_law_alike (ad 24) (fd 24)
  b24 : Binds K (fd 24) ["_law_actual", "_law_due"] []
  F6 : Fun K "is_value" "is_value" s_is_value (ad 6) (fd 6)
  b6 : Binds K (fd 6) ["value"] []
  F7 : Fun K "check_row" "check_row" s_check_row (ad 7) (fd 7)
  b7 : Binds K (fd 7) ["row"] []
  F29 : Fun K "_law_row_checked" "_law_row_checked" s_law_row_checked (ad 29) (fd 29)
  b29 : Binds K (fd 29) ["_law_row_here", "_law_good"] []
  F28 : Fun K "_law_is_name" "_law_is_name" s_law_is_name (ad 28) (fd 28)
  b28 : Binds K (fd 28) ["_law_word"] []
  F15 : Fun K "is_name" "is_name" s_is_name (ad 15) (fd 15)
  b15 : Binds K (fd 15) ["name"] []
  O2 : OIn P K mg (ad 1) "__init__" "InvalidName.__init__" s_InvalidName___init__ (ad 2) (fd 2)
  b2 : Binds K (fd 2) ["self", "name"] []
  ox1 : OexC K (ad 1)
  oi1 : PySem.W.findIn K (.ref (ad 1)) "__init__" = some (some (.ref (ad 2)))
  ot1 : PySem.W.typeIn K (.ref (ad 2)) = some (.type "function")
  ofl1_name : PySem.W.findIn K (.ref (ad 1)) "name" = some none
  F16 : Fun K "check_name" "check_name" s_check_name (ad 16) (fd 16)
  b16 : Binds K (fd 16) ["name"] []
  F30 : Fun K "_law_name_checked" "_law_name_checked" s_law_name_checked (ad 30) (fd 30)
  b30 : Binds K (fd 30) ["_law_word"] []
  F8 : Fun K "value_key" "value_key" s_value_key (ad 8) (fd 8)
  b8 : Binds K (fd 8) ["value"] []
  F9 : Fun K "row_key" "row_key" s_row_key (ad 9) (fd 9)
  b9 : Binds K (fd 9) ["row"] []
  F10 : Fun K "sorted_rows" "sorted_rows" s_sorted_rows (ad 10) (fd 10)
  b10 : Binds K (fd 10) ["rows"] []
  F22 : Fun K "_law_key" "_law_key" s_law_key (ad 22) (fd 22)
  b22 : Binds K (fd 22) ["_law_row_here"] []
  F23 : Fun K "_law_sorted" "_law_sorted" s_law_sorted (ad 23) (fd 23)
  b23 : Binds K (fd 23) ["_law_rows_here"] []
  F12 : Fun K "altered" "altered" s_altered (ad 12) (fd 12)
  b12 : Binds K (fd 12) ["row", "column", "value"] []
  F31 : Fun K "law" "law" s_law (ad 31) (fd 31)
  b31 : Binds K (fd 31) ["_law_script"] []
  r4 : ∀ F H, Rep ⟨K, ad⟩ F H c_VALUES (.ref (ad 4))
  r5 : ∀ F H, Rep ⟨K, ad⟩ F H c_FREE (.ref (ad 5))
  n_range : mg "range" = none
  ar : GP.ArIs K mg (ad 11) (ad 4)
  n_list : mg "list" = none
  n_tuple : mg "tuple" = none
  n_isinstance : mg "isinstance" = none
  isi : IsiOk ⟨K, ad⟩ isi
  n_bool : mg "bool" = none
  n_int : mg "int" = none
  n_str : mg "str" = none
  n_len : mg "len" = none
  n_sorted : mg "sorted" = none
  ct_BookError : ∀ c bb, ct_BookError c = some bb → PySem.W.exmOne K (.ref (ad c)) (.ref (ad 0)) = some bb
  x_InvalidName : ∀ c bb, xis_InvalidName c = some bb → ExcC K (ad c) ∧ PySem.W.kitOne K (.ref (ad c)) (.ref (ad 1)) = some bb
  x_InvalidRow : ∀ c bb, xis_InvalidRow c = some bb → ExcC K (ad c) ∧ PySem.W.kitOne K (.ref (ad c)) (.ref (ad 3)) = some bb
  xf_name : ∀ c, xf_name c = true → XfC K (ad c) ∧ PySem.W.findIn K (.ref (ad c)) "name" = some none
  r14 : ∀ F H, Rep ⟨K, ad⟩ F H c_RESERVED (.ref (ad 14))
  n_all : mg "all" = none
  gs13 : ∃ u, mg "LETTERS" = some u ∧ RelV (.str "abcdefghijklmnopqrstuvwxyz") u
  xq3 : PySem.W.excIn K (ad 3) [.type "ValueError", .type "Exception", .type "BaseException", .type "object"] "ValueError.__new__" = true
  xk3 : PySem.W.keepIn K (.ref (ad 3)) = true
  xb3 : PySem.W.subIn K (.ref (ad 3)) (.type "BaseException") = some true
  xt3 : PySem.W.typeIn K (.ref (ad 3)) = some (.type "type")
  n_abs : mg "abs" = none
end K01
namespace K01
open PySem L2 T2
noncomputable section
section
variable {P : Program} {w : World} {K : PySem.W.Frag} {mg : Str → Option Value} {base : Heap} {ad : Nat → Addr} {fd : Nat → FuncData}
def b_law_box : SM :=
    sRet (eLst (eCons (eArgs dListF (eCons (eVar 0) (eNil))) (eCons (eC (.int 0)) (eCons (eC (.int 0)) (eCons (eC (.int 0)) (eCons (eC (.int 0)) (eNil)))))))
def m_law_box : List D → MH → Res D := fnB 1 b_law_box
theorem ok_law_box (T : Txt P w K mg ad fd) : FnOk P w K mg base (L2N.CX P w) 3 (ad 17) (fd 17) ["_law_script"] (spD ⟨K, ad⟩ 1 m_law_box) := by
  refine fn_ok2 T.F17 sc_law_box fun cdv A outer s H E hr tk po => ?_
  have hu := hr.units
  have hu1 := hu_of hr
  exact ds_one (ds_ret (de_lst (de_cons (de_listF (de_cons (de_v 0) (de_nil)) (hK := rfl) (hm := T.n_list)) (de_cons (de_int) (de_cons (de_int) (de_cons (de_int) (de_cons (de_int) (de_nil))))))))
end
section
variable {P : Program} {w : World} {K : PySem.W.Frag} {mg : Str → Option Value} {base : Heap} {ad : Nat → Addr} {fd : Nat → FuncData}
def b_law_draw : SM :=
    sSeq (sIf (bVal (eBin dEq (eBin dIxA (eVar 0) (eC (.int 3))) (eC (.int 0))))
    (sSeq (sIf (bVal (eBin dGe (eBin dIxA (eVar 0) (eC (.int 1))) (eArgs dLen (eCons (eBin dIxA (eVar 0) (eC (.int 0))) (eNil)))))
    (sRet (eC (.int 0)))
    (sNil))
    (sSeq (sSetIx dSetIx (eVar 0) (eC (.int 2)) (eArgs dAbs (eCons (eArgs dInt (eCons (eBin dIxA (eBin dIxA (eVar 0) (eC (.int 0))) (eBin dIxA (eVar 0) (eC (.int 1)))) (eNil))) (eNil))))
    (sSeq (sSetIx dSetIx (eVar 0) (eC (.int 1)) (eBin dAdd (eBin dIxA (eVar 0) (eC (.int 1))) (eC (.int 1))))
    (sSeq (sSetIx dSetIx (eVar 0) (eC (.int 4)) (eArgs dInt (eCons (eBin dGe (eBin dIxA (eVar 0) (eC (.int 2))) (eBin dPow (eC (.int 10)) (eC (.int 18)))) (eNil))))
    (sSetIx dSetIx (eVar 0) (eC (.int 3)) (eBin dAdd (eC (.int 12)) (eBin dMul (eC (.int 48)) (eBin dIxA (eVar 0) (eC (.int 4))))))))))
    (sNil))
    (sSeq (sSetIx dSetIx (eVar 0) (eC (.int 3)) (eBin dSub (eBin dIxA (eVar 0) (eC (.int 3))) (eC (.int 1))))
    (sSeq (sIf (bVal (eBin dEq (eBin dIxA (eVar 0) (eC (.int 4))) (eC (.int 1))))
    (sSeq (sSet 2 (eBin dMod (eArgs dInt (eCons (eBin dIxA (eVar 0) (eC (.int 2))) (eNil))) (eVar 1)))
    (sSeq (sSetIx dSetIx (eVar 0) (eC (.int 2)) (eBin dDiv (eArgs dInt (eCons (eBin dIxA (eVar 0) (eC (.int 2))) (eNil))) (eVar 1)))
    (sSeq (sIf (bVal (eBin dEq (eBin dIxA (eVar 0) (eC (.int 2))) (eC (.int 0))))
    (sSetIx dSetIx (eVar 0) (eC (.int 3)) (eC (.int 0)))
    (sNil))
    (sRet (eVar 2)))))
    (sNil))
    (sSeq (sSet 3 (eBin dMod (eArgs dInt (eCons (eBin dAdd (eBin dAdd (eBin dMul (eArgs dInt (eCons (eBin dIxA (eVar 0) (eC (.int 2))) (eNil))) (eC (.int 48271))) (eBin dMul (eBin dIxA (eVar 0) (eC (.int 3))) (eC (.int 69621)))) (eC (.int 13))) (eNil))) (eC (.int 2147483647))))
    (sSeq (sSet 3 (eBin dMod (eArgs dInt (eCons (eBin dAdd (eBin dAdd (eBin dMul (eVar 3) (eC (.int 16807))) (eBin dMul (eBin dIxA (eVar 0) (eC (.int 3))) (eC (.int 40692)))) (eC (.int 7))) (eNil))) (eC (.int 2147483629))))
    (sRet (eBin dMod (eArgs dInt (eCons (eVar 3) (eNil))) (eVar 1)))))))
def m_law_draw : List D → MH → Res D := fnB 4 b_law_draw
theorem ok_law_draw (T : Txt P w K mg ad fd) : FnOk P w K mg base (L2N.CX P w) 3 (ad 18) (fd 18) ["_law_box_here", "_law_size"] (spD ⟨K, ad⟩ 2 m_law_draw) := by
  refine fn_ok2 T.F18 sc_law_draw fun cdv A outer s H E hr tk po => ?_
  have hu := hr.units
  have hu1 := hu_of hr
  exact ds_cons (ds_if (dt_eq rfl hu (de_ixA rfl hu1 (de_v 0) (de_int)) (de_int))
    (ds_cons (ds_if (dt_ge (de_ixA rfl hu1 (de_v 0) (de_int)) (de_len (de_cons (de_ixA rfl hu1 (de_v 0) (de_int)) (de_nil)) (hK := rfl) (hm := T.n_len)))
    (ds_one (ds_ret (de_int)))
    (ds_nil))
    (ds_cons (ds_setL (de_v 0) (de_int) (de_abs (de_cons (de_intc (de_cons (de_ixA rfl hu1 (de_ixA rfl hu1 (de_v 0) (de_int)) (de_ixA rfl hu1 (de_v 0) (de_int))) (de_nil)) (hm := T.n_int)) (de_nil)) (hm := T.n_abs)))
    (ds_cons (ds_setL (de_v 0) (de_int) (de_add rfl (de_ixA rfl hu1 (de_v 0) (de_int)) (de_int)))
    (ds_cons (ds_setL (de_v 0) (de_int) (de_intc (de_cons (de_ge (de_ixA rfl hu1 (de_v 0) (de_int)) (de_pow (de_int) (de_int))) (de_nil)) (hm := T.n_int)))
    (ds_one (ds_setL (de_v 0) (de_int) (de_add rfl (de_int) (de_mul (de_int) (de_ixA rfl hu1 (de_v 0) (de_int))))))))))
    (ds_nil))
    (ds_cons (ds_setL (de_v 0) (de_int) (de_sub (de_ixA rfl hu1 (de_v 0) (de_int)) (de_int)))
    (ds_cons (ds_if (dt_eq rfl hu (de_ixA rfl hu1 (de_v 0) (de_int)) (de_int))
    (ds_cons (ds_set (i := 2) sc_law_draw.nd (de_mod (de_intc (de_cons (de_ixA rfl hu1 (de_v 0) (de_int)) (de_nil)) (hm := T.n_int)) (de_v 1)))
    (ds_cons (ds_setL (de_v 0) (de_int) (de_div (de_intc (de_cons (de_ixA rfl hu1 (de_v 0) (de_int)) (de_nil)) (hm := T.n_int)) (de_v 1)))
    (ds_cons (ds_if (dt_eq rfl hu (de_ixA rfl hu1 (de_v 0) (de_int)) (de_int))
    (ds_one (ds_setL (de_v 0) (de_int) (de_int)))
    (ds_nil))
    (ds_one (ds_ret (de_v 2))))))
    (ds_nil))
    (ds_cons (ds_set (i := 3) sc_law_draw.nd (de_mod (de_intc (de_cons (de_add rfl (de_add rfl (de_mul (de_intc (de_cons (de_ixA rfl hu1 (de_v 0) (de_int)) (de_nil)) (hm := T.n_int)) (de_int)) (de_mul (de_ixA rfl hu1 (de_v 0) (de_int)) (de_int))) (de_int)) (de_nil)) (hm := T.n_int)) (de_int)))
    (ds_cons (ds_set (i := 3) sc_law_draw.nd (de_mod (de_intc (de_cons (de_add rfl (de_add rfl (de_mul (de_v 3) (de_int)) (de_mul (de_ixA rfl hu1 (de_v 0) (de_int)) (de_int))) (de_int)) (de_nil)) (hm := T.n_int)) (de_int)))
    (ds_one (ds_ret (de_mod (de_intc (de_cons (de_v 3) (de_nil)) (hm := T.n_int)) (de_v 1))))))))
end
section
variable {P : Program} {w : World} {K : PySem.W.Frag} {mg : Str → Option Value} {base : Heap} {ad : Nat → Addr} {fd : Nat → FuncData}
def lp_law_row_1 : SM :=
    sSet 1 (eBin dAdd (eVar 1) (eTup (eCons (eBin dIxA (eTup (eCons (eC .non) (eCons (eC (.int 0)) (eCons (eC (.int 1)) (eCons (eC (.int 2)) (eCons (eC (.int 0)) (eCons (eC (.int 1)) (eNil)))))))) (eCall 2 m_law_draw (eCons (eVar 0) (eCons (eC (.int 6)) (eNil))))) (eNil))))
def b_law_row : SM :=
    sSeq (sSet 1 (eTup (eNil)))
    (sSeq (sForI (iRange1 (eC (.int 3))) (tgName 2) lp_law_row_1)
    (sRet (eVar 1)))
def m_law_row : List D → MH → Res D := fnB 3 b_law_row
theorem ok_law_row (T : Txt P w K mg ad fd) : FnOk P w K mg base (L2N.CX P w) 6 (ad 20) (fd 20) ["_law_box_here"] (spD ⟨K, ad⟩ 1 m_law_row) := by
  refine fn_ok2 T.F20 sc_law_row fun cdv A outer s H E hr tk po => ?_
  have hu := hr.units
  have hu1 := hu_of hr
  exact ds_cons (ds_set (i := 1) sc_law_row.nd (de_tup (de_nil)))
    (ds_cons (ds_for (fun _ => pin_nil) po rfl (pi_range1 rfl T.n_range (de_cons (de_int) de_nil)) (itSim_range1) (pg_name (i := 2) sc_law_row.nd rfl (by first | exact Or.inl rfl | exact Or.inr rfl)) (tgName_sim 2)
    (ds_one (ds_set (i := 1) sc_law_row.nd (de_add rfl (de_v 1) (de_tup (de_cons (de_ixA rfl hu1 (de_tup (de_cons (de_non) (de_cons (de_int) (de_cons (de_int) (de_cons (de_int) (de_cons (de_int) (de_cons (de_int) (de_nil)))))))) (de_call (ok_law_draw T) (hr.mono (by decide)) tk T.g18 T.F18.kp T.b18 (de_cons (de_v 0) (de_cons (de_int) (de_nil))))) (de_nil)))))))
    (ds_one (ds_ret (de_v 1))))
end
section
variable {P : Program} {w : World} {K : PySem.W.Frag} {mg : Str → Option Value} {base : Heap} {ad : Nat → Addr} {fd : Nat → FuncData}
def b_law_pick : SM :=
    sRet (eBin dIxA (eVar 1) (eCall 2 m_law_draw (eCons (eVar 0) (eCons (eArgs dLen (eCons (eVar 1) (eNil))) (eNil)))))
def m_law_pick : List D → MH → Res D := fnB 2 b_law_pick
theorem ok_law_pick (T : Txt P w K mg ad fd) : FnOk P w K mg base (L2N.CX P w) 6 (ad 19) (fd 19) ["_law_box_here", "_law_menu"] (spD ⟨K, ad⟩ 2 m_law_pick) := by
  refine fn_ok2 T.F19 sc_law_pick fun cdv A outer s H E hr tk po => ?_
  have hu := hr.units
  have hu1 := hu_of hr
  exact ds_one (ds_ret (de_ixA rfl hu1 (de_v 1) (de_call (ok_law_draw T) (hr.mono (by decide)) tk T.g18 T.F18.kp T.b18 (de_cons (de_v 0) (de_cons (de_len (de_cons (de_v 1) (de_nil)) (hK := rfl) (hm := T.n_len)) (de_nil))))))
end
section
variable {P : Program} {w : World} {K : PySem.W.Frag} {mg : Str → Option Value} {base : Heap} {ad : Nat → Addr} {fd : Nat → FuncData}
def b_law_bad_row : SM :=
    sSeq (sSet 2 (eCall 2 m_law_draw (eCons (eVar 0) (eCons (eC (.int 7)) (eNil)))))
    (sSeq (sSet 3 (eCall 2 m_law_draw (eCons (eVar 0) (eCons (eC (.int 3)) (eNil)))))
    (sSeq (sIf (bVal (eBin dEq (eVar 2) (eC (.int 1))))
    (sRet (eBin dAdd (eSl mkF (eVar 1) (oNone) (oSome (eVar 3))) (eSl mkF (eVar 1) (oSome (eBin dAdd (eVar 3) (eC (.int 1)))) (oNone))))
    (sNil))
    (sSeq (sIf (bVal (eBin dEq (eVar 2) (eC (.int 2))))
    (sRet (eBin dAdd (eBin dAdd (eSl mkF (eVar 1) (oNone) (oSome (eVar 3))) (eTup (eCons (eBin dIxA (eVar 1) (eVar 3)) (eNil)))) (eSl mkF (eVar 1) (oSome (eVar 3)) (oNone))))
    (sNil))
    (sSeq (sIf (bVal (eBin dEq (eVar 2) (eC (.int 3))))
    (sRet (eBin dAdd (eBin dAdd (eSl mkF (eVar 1) (oNone) (oSome (eVar 3))) (eTup (eCons (eBin dSub (eUn dNeg (eC (.int 1))) (eCall 2 m_law_draw (eCons (eVar 0) (eCons (eC (.int 1000)) (eNil))))) (eNil)))) (eSl mkF (eVar 1) (oSome (eBin dAdd (eVar 3) (eC (.int 1)))) (oNone))))
    (sNil))
    (sSeq (sIf (bVal (eBin dEq (eVar 2) (eC (.int 4))))
    (sRet (eSl mkF (eVar 1) (oNone) (oSome (eBin dDiv (eVar 3) (eC (.int 2))))))
    (sNil))
    (sSeq (sIf (bVal (eBin dEq (eVar 2) (eC (.int 5))))
    (sRet (eBin dAdd (eVar 1) (eVar 1)))
    (sNil))
    (sRet (eBin dAdd (eBin dAdd (eSl mkF (eVar 1) (oNone) (oSome (eVar 3))) (eTup (eCons (eBin dAdd (eC (.int 3)) (eCall 2 m_law_draw (eCons (eVar 0) (eCons (eC (.int 1000)) (eNil))))) (eNil)))) (eSl mkF (eVar 1) (oSome (eBin dAdd (eVar 3) (eC (.int 1)))) (oNone))))))))))
def m_law_bad_row : List D → MH → Res D := fnB 4 b_law_bad_row
theorem ok_law_bad_row (T : Txt P w K mg ad fd) : FnOk P w K mg base (L2N.CX P w) 6 (ad 25) (fd 25) ["_law_box_here", "_law_row_here"] (spD ⟨K, ad⟩ 2 m_law_bad_row) := by
  refine fn_ok2 T.F25 sc_law_bad_row fun cdv A outer s H E hr tk po => ?_
  have hu := hr.units
  have hu1 := hu_of hr
  exact ds_cons (ds_set (i := 2) sc_law_bad_row.nd (de_call (ok_law_draw T) (hr.mono (by decide)) tk T.g18 T.F18.kp T.b18 (de_cons (de_v 0) (de_cons (de_int) (de_nil)))))
    (ds_cons (ds_set (i := 3) sc_law_bad_row.nd (de_call (ok_law_draw T) (hr.mono (by decide)) tk T.g18 T.F18.kp T.b18 (de_cons (de_v 0) (de_cons (de_int) (de_nil)))))
    (ds_cons (ds_if (dt_eq rfl hu (de_v 2) (de_int))
    (ds_one (ds_ret (de_add rfl (de_sl rfl mkF_ok (de_v 1) (do_none) (do_some (de_v 3))) (de_sl rfl mkF_ok (de_v 1) (do_some (de_add rfl (de_v 3) (de_int))) (do_none)))))
    (ds_nil))
    (ds_cons (ds_if (dt_eq rfl hu (de_v 2) (de_int))
    (ds_one (ds_ret (de_add rfl (de_add rfl (de_sl rfl mkF_ok (de_v 1) (do_none) (do_some (de_v 3))) (de_tup (de_cons (de_ixA rfl hu1 (de_v 1) (de_v 3)) (de_nil)))) (de_sl rfl mkF_ok (de_v 1) (do_some (de_v 3)) (do_none)))))
    (ds_nil))
    (ds_cons (ds_if (dt_eq rfl hu (de_v 2) (de_int))
    (ds_one (ds_ret (de_add rfl (de_add rfl (de_sl rfl mkF_ok (de_v 1) (do_none) (do_some (de_v 3))) (de_tup (de_cons (de_sub (de_neg (de_int)) (de_call (ok_law_draw T) (hr.mono (by decide)) tk T.g18 T.F18.kp T.b18 (de_cons (de_v 0) (de_cons (de_int) (de_nil))))) (de_nil)))) (de_sl rfl mkF_ok (de_v 1) (do_some (de_add rfl (de_v 3) (de_int))) (do_none)))))
    (ds_nil))
    (ds_cons (ds_if (dt_eq rfl hu (de_v 2) (de_int))
    (ds_one (ds_ret (de_sl rfl mkF_ok (de_v 1) (do_none) (do_some (de_div (de_v 3) (de_int))))))
    (ds_nil))
    (ds_cons (ds_if (dt_eq rfl hu (de_v 2) (de_int))
    (ds_one (ds_ret (de_add rfl (de_v 1) (de_v 1))))
    (ds_nil))
    (ds_one (ds_ret (de_add rfl (de_add rfl (de_sl rfl mkF_ok (de_v 1) (do_none) (do_some (de_v 3))) (de_tup (de_cons (de_add rfl (de_int) (de_call (ok_law_draw T) (hr.mono (by decide)) tk T.g18 T.F18.kp T.b18 (de_cons (de_v 0) (de_cons (de_int) (de_nil))))) (de_nil)))) (de_sl rfl mkF_ok (de_v 1) (do_some (de_add rfl (de_v 3) (de_int))) (do_none)))))))))))
end
section
variable {P : Program} {w : World} {K : PySem.W.Frag} {mg : Str → Option Value} {base : Heap} {ad : Nat → Addr} {fd : Nat → FuncData}
def lp_law_string_1 : SM :=
    sSet 3 (eBin dAdd (eVar 3) (eBin dIxA (eVar 1) (eCall 2 m_law_draw (eCons (eVar 0) (eCons (eC (.int 26)) (eNil))))))
def b_law_string : SM :=
    sSeq (sSet 1 (eC (.str "abcdefghijklmnopqrstuvwxyz")))
    (sSeq (sSet 2 (eC (.str " !\"#$&'()*+,-./0123456789:;<=>?@ABCDEFGHIJKLMNOPQRSTUVWXYZ[\\]^_`{|}~")))
    (sSeq (sSet 3 (eC (.str "")))
    (sSeq (sForI (iRange1 (eCall 2 m_law_draw (eCons (eVar 0) (eCons (eC (.int 11)) (eNil))))) (tgName 4) lp_law_string_1)
    (sSeq (sSet 5 (eCall 2 m_law_draw (eCons (eVar 0) (eCons (eC (.int 7)) (eNil)))))
    (sSeq (sIf (bVal (eBin dEq (eVar 5) (eC (.int 4))))
    (sRet (eBin dMulS (eBin dAdd (eVar 3) (eC (.str "a"))) (eC (.int 7))))
    (sNil))
    (sSeq (sIf (bVal (eBin dEq (eVar 5) (eC (.int 5))))
    (sRet (eCall 2 m_law_pick (eCons (eVar 0) (eCons (eFro (eCons (eC (.str "on")) (eCons (eC (.str "set")) (eCons (eC (.str "new")) (eCons (eC (.str "one")) (eCons (eC (.str "sets")) (eCons (eC (.str "ne")) (eCons (eC (.str "onset")) (eCons (eC (.str "newt")) (eNil)))))))))) (eNil)))))
    (sNil))
    (sSeq (sIf (bVal (eBin dEq (eVar 5) (eC (.int 6))))
    (sSeq (sSet 6 (eCall 2 m_law_draw (eCons (eVar 0) (eCons (eBin dAdd (eArgs dLen (eCons (eVar 3) (eNil))) (eC (.int 1))) (eNil)))))
    (sRet (eBin dAdd (eBin dAdd (eSl mkF (eVar 3) (oNone) (oSome (eVar 6))) (eBin dIxA (eVar 2) (eCall 2 m_law_draw (eCons (eVar 0) (eCons (eArgs dLen (eCons (eVar 2) (eNil))) (eNil)))))) (eSl mkF (eVar 3) (oSome (eBin dAdd (eVar 6) (eC (.int 1)))) (oNone)))))
    (sNil))
    (sRet (eVar 3)))))))))
def m_law_string : List D → MH → Res D := fnB 7 b_law_string
theorem ok_law_string (T : Txt P w K mg ad fd) : FnOk P w K mg base (L2N.CX P w) 9 (ad 26) (fd 26) ["_law_box_here"] (spD ⟨K, ad⟩ 1 m_law_string) := by
  refine fn_ok2 T.F26 sc_law_string fun cdv A outer s H E hr tk po => ?_
  have hu := hr.units
  have hu1 := hu_of hr
  exact ds_cons (ds_set (i := 1) sc_law_string.nd (de_str))
    (ds_cons (ds_set (i := 2) sc_law_string.nd (de_str))
    (ds_cons (ds_set (i := 3) sc_law_string.nd (de_str))
    (ds_cons (ds_for (fun _ => pin_nil) po rfl (pi_range1 rfl T.n_range (de_cons (de_call (ok_law_draw T) (hr.mono (by decide)) tk T.g18 T.F18.kp T.b18 (de_cons (de_v 0) (de_cons (de_int) (de_nil)))) de_nil)) (itSim_range1) (pg_name (i := 4) sc_law_string.nd rfl (by first | exact Or.inl rfl | exact Or.inr rfl)) (tgName_sim 4)
    (ds_one (ds_set (i := 3) sc_law_string.nd (de_add rfl (de_v 3) (de_ixA rfl hu1 (de_v 1) (de_call (ok_law_draw T) (hr.mono (by decide)) tk T.g18 T.F18.kp T.b18 (de_cons (de_v 0) (de_cons (de_int) (de_nil)))))))))
    (ds_cons (ds_set (i := 5) sc_law_string.nd (de_call (ok_law_draw T) (hr.mono (by decide)) tk T.g18 T.F18.kp T.b18 (de_cons (de_v 0) (de_cons (de_int) (de_nil)))))
    (ds_cons (ds_if (dt_eq rfl hu (de_v 5) (de_int))
    (ds_one (ds_ret (de_mulS (de_add rfl (de_v 3) (de_str)) (de_int))))
    (ds_nil))
    (ds_cons (ds_if (dt_eq rfl hu (de_v 5) (de_int))
    (ds_one (ds_ret (de_call (ok_law_pick T) (hr.mono (by decide)) tk T.g19 T.F19.kp T.b19 (de_cons (de_v 0) (de_cons (de_fro (de_cons (de_str) (de_cons (de_str) (de_cons (de_str) (de_cons (de_str) (de_cons (de_str) (de_cons (de_str) (de_cons (de_str) (de_cons (de_str) (de_nil)))))))))) (de_nil))))))
    (ds_nil))
    (ds_cons (ds_if (dt_eq rfl hu (de_v 5) (de_int))
    (ds_cons (ds_set (i := 6) sc_law_string.nd (de_call (ok_law_draw T) (hr.mono (by decide)) tk T.g18 T.F18.kp T.b18 (de_cons (de_v 0) (de_cons (de_add rfl (de_len (de_cons (de_v 3) (de_nil)) (hK := rfl) (hm := T.n_len)) (de_int)) (de_nil)))))
    (ds_one (ds_ret (de_add rfl (de_add rfl (de_sl rfl mkF_ok (de_v 3) (do_none) (do_some (de_v 6))) (de_ixA rfl hu1 (de_v 2) (de_call (ok_law_draw T) (hr.mono (by decide)) tk T.g18 T.F18.kp T.b18 (de_cons (de_v 0) (de_cons (de_len (de_cons (de_v 2) (de_nil)) (hK := rfl) (hm := T.n_len)) (de_nil)))))) (de_sl rfl mkF_ok (de_v 3) (do_some (de_add rfl (de_v 6) (de_int))) (do_none))))))
    (ds_nil))
    (ds_one (ds_ret (de_v 3))))))))))
end
section
variable {P : Program} {w : World} {K : PySem.W.Frag} {mg : Str → Option Value} {base : Heap} {ad : Nat → Addr} {fd : Nat → FuncData}
def lp_law_rows_1 : SM :=
    sSeq (sSet 3 (eCall 1 m_law_row (eCons (eVar 0) (eNil))))
    (sSeq (sIf (bAnd (bVal (eBin dGt (eArgs dLen (eCons (eVar 1) (eNil))) (eC (.int 0)))) (bVal (eBin dEq (eCall 2 m_law_draw (eCons (eVar 0) (eCons (eC (.int 4)) (eNil)))) (eC (.int 0)))))
    (sSet 3 (eBin dIxA (eVar 1) (eCall 2 m_law_draw (eCons (eVar 0) (eCons (eArgs dLen (eCons (eVar 1) (eNil))) (eNil))))))
    (sNil))
    (sDo (eApp (eVar 1) (eVar 3))))
def b_law_rows : SM :=
    sSeq (sSet 1 (eLst (eNil)))
    (sSeq (sForI (iRange1 (eCall 2 m_law_draw (eCons (eVar 0) (eCons (eC (.int 13)) (eNil))))) (tgName 2) lp_law_rows_1)
    (sRet (eVar 1)))
def m_law_rows : List D → MH → Res D := frzB (fnB 4 b_law_rows)
theorem ok_law_rows (T : Txt P w K mg ad fd) : FnOk P w K mg base (L2N.CX P w) 9 (ad 27) (fd 27) ["_law_box_here"] (spD ⟨K, ad⟩ 1 m_law_rows) := by
  refine fn_frz ?_
  refine fn_ok2 T.F27 sc_law_rows fun cdv A outer s H E hr tk po => ?_
  have hu := hr.units
  have hu1 := hu_of hr
  exact ds_cons (ds_set (i := 1) sc_law_rows.nd (de_lst (de_nil)))
    (ds_cons (ds_for (fun _ => pin_nil) po rfl (pi_range1 rfl T.n_range (de_cons (de_call (ok_law_draw T) (hr.mono (by decide)) tk T.g18 T.F18.kp T.b18 (de_cons (de_v 0) (de_cons (de_int) (de_nil)))) de_nil)) (itSim_range1) (pg_name (i := 2) sc_law_rows.nd rfl (by first | exact Or.inl rfl | exact Or.inr rfl)) (tgName_sim 2)
    (ds_cons (ds_set (i := 3) sc_law_rows.nd (de_call (ok_law_row T) (hr.mono (by decide)) tk T.g20 T.F20.kp T.b20 (de_cons (de_v 0) (de_nil))))
    (ds_cons (ds_if (dt_w (dw_and (dt_gt (de_len (de_cons (de_v 1) (de_nil)) (hK := rfl) (hm := T.n_len)) (de_int)) (dw_and1 (dt_eq rfl hu (de_call (ok_law_draw T) (hr.mono (by decide)) tk T.g18 T.F18.kp T.b18 (de_cons (de_v 0) (de_cons (de_int) (de_nil)))) (de_int)))))
    (ds_one (ds_set (i := 3) sc_law_rows.nd (de_ixA rfl hu1 (de_v 1) (de_call (ok_law_draw T) (hr.mono (by decide)) tk T.g18 T.F18.kp T.b18 (de_cons (de_v 0) (de_cons (de_len (de_cons (de_v 1) (de_nil)) (hK := rfl) (hm := T.n_len)) (de_nil)))))))
    (ds_nil))
    (ds_one (ds_do (de_app (de_v 1) (de_v 3)))))))
    (ds_one (ds_ret (de_v 1))))
end
section
variable {P : Program} {w : World} {K : PySem.W.Frag} {mg : Str → Option Value} {base : Heap} {ad : Nat → Addr} {fd : Nat → FuncData}
def lp_law_every_1 : SM :=
    sSet 0 (eBin (dCat mkF) (eVar 0) (eLc (iSeq (eFro (eCons (eC .non) (eCons (eC (.int 0)) (eCons (eC (.int 1)) (eCons (eC (.int 2)) (eNil))))))) (tgName 3) (bYes) (eTup (eCons (eVar 1) (eCons (eVar 2) (eCons (eVar 3) (eNil))))) [3]))
def lp_law_every_2 : SM :=
    sForI (iSeq (eFro (eCons (eC .non) (eCons (eC (.int 0)) (eCons (eC (.int 1)) (eCons (eC (.int 2)) (eNil))))))) (tgName 2) lp_law_every_1
def b_law_every : SM :=
    sSeq (sSet 0 (eFro (eNil)))
    (sSeq (sForI (iSeq (eFro (eCons (eC .non) (eCons (eC (.int 0)) (eCons (eC (.int 1)) (eCons (eC (.int 2)) (eNil))))))) (tgName 1) lp_law_every_2)
    (sRet (eVar 0)))
def m_law_every : List D → MH → Res D := frzP (fnB 4 b_law_every)
theorem ok_law_every (T : Txt P w K mg ad fd) : FnOk P w K mg base (L2N.CX P w) 3 (ad 21) (fd 21) [] (spD ⟨K, ad⟩ 0 m_law_every) := by
  refine fn_frzP ?_
  refine fn_ok2 T.F21 sc_law_every fun cdv A outer s H E hr tk po => ?_
  have hu := hr.units
  have hu1 := hu_of hr
  exact ds_cons (ds_set (i := 0) sc_law_every.nd (de_fro (de_nil)))
    (ds_cons (ds_for (fun _ => pin_nil) po rfl (pi_or (pi_list (de_fro (de_cons (de_non) (de_cons (de_int) (de_cons (de_int) (de_cons (de_int) (de_nil))))))) (pi_tup (de_fro (de_cons (de_non) (de_cons (de_int) (de_cons (de_int) (de_cons (de_int) (de_nil)))))))) (itSim_seq rfl) (pg_name (i := 1) sc_law_every.nd rfl (by first | exact Or.inl rfl | exact Or.inr rfl)) (tgName_sim 1)
    (ds_one (ds_for (fun _ => pin_nil) po rfl (pi_or (pi_list (de_fro (de_cons (de_non) (de_cons (de_int) (de_cons (de_int) (de_cons (de_int) (de_nil))))))) (pi_tup (de_fro (de_cons (de_non) (de_cons (de_int) (de_cons (de_int) (de_cons (de_int) (de_nil)))))))) (itSim_seq rfl) (pg_name (i := 2) sc_law_every.nd rfl (by first | exact Or.inl rfl | exact Or.inr rfl)) (tgName_sim 2)
    (ds_one (ds_set (i := 0) sc_law_every.nd (de_cat rfl mkF_ok (de_v 0) (de_lc (own := [("_law_third", 3)]) sc_law_every.nd (pi_or (pi_list (de_fro (de_cons (de_non) (de_cons (de_int) (de_cons (de_int) (de_cons (de_int) (de_nil))))))) (pi_tup (de_fro (de_cons (de_non) (de_cons (de_int) (de_cons (de_int) (de_cons (de_int) (de_nil)))))))) (itSim_seq rfl) (blkOk_by (N := ["_law_rows_here", "_law_first", "_law_second", "_law_third"]) (sc := defScope s_law_every) (by decide +kernel)) (tgName_sim 3) (tgName_own 3 (by decide)) (fun _ _ _ _ _ => pg_name (i := 3) sc_law_every.nd rfl (by first | exact Or.inl rfl | exact Or.inr rfl)) (fun _ _ _ _ _ => dts_nil) (fun _ _ _ _ _ => de_tup (de_cons (de_v 1) (de_cons (de_v 2) (de_cons (de_v 3) (de_nil))))))))))))
    (ds_one (ds_ret (de_v 0))))
end
section
variable {P : Program} {w : World} {K : PySem.W.Frag} {mg : Str → Option Value} {base : Heap} {ad : Nat → Addr} {fd : Nat → FuncData}
def lp_law_alike_1 (self : List D → MH → Res D) : SM :=
    sIf (bNot (bVal (eCall 2 self (eCons (eBin dIxA (eVar 0) (eVar 2)) (eCons (eBin dIxA (eVar 1) (eVar 2)) (eNil))))))
    (sRet (eC (.bl false)))
    (sNil)
def b_law_alike (self : List D → MH → Res D) : SM :=
    sSeq (sIf (bVal (eBin dIs (eVar 1) (eC .non)))
    (sRet (eBin dIs (eVar 0) (eC .non)))
    (sNil))
    (sSeq (sIf (bOr (bVal (eBin dIs (eVar 1) (eC (.bl true)))) (bVal (eBin dIs (eVar 1) (eC (.bl false)))))
    (sRet (eAnd (eArgs (dIsi isi) (eCons (eVar 0) (eCons (eC (.ty "bool")) (eNil)))) (eBin dEq (eVar 0) (eVar 1))))
    (sNil))
    (sSeq (sIf (bVal (eArgs (dIsi isi) (eCons (eVar 1) (eCons (eC (.ty "int")) (eNil)))))
    (sRet (eAnd (eArgs (dIsi isi) (eCons (eVar 0) (eCons (eC (.ty "int")) (eNil)))) (eAnd (eNot (eArgs (dIsi isi) (eCons (eVar 0) (eCons (eC (.ty "bool")) (eNil))))) (eBin dEq (eVar 0) (eVar 1)))))
    (sNil))
    (sSeq (sIf (bVal (eArgs (dIsi isi) (eCons (eVar 1) (eCons (eC (.ty "str")) (eNil)))))
    (sRet (eAnd (eArgs (dIsi isi) (eCons (eVar 0) (eCons (eC (.ty "str")) (eNil)))) (eBin dEq (eVar 0) (eVar 1))))
    (sNil))
    (sSeq (sIf (bVal (eArgs (dIsi isi) (eCons (eVar 1) (eCons (eC (.ty "tuple")) (eNil)))))
    (sIf (bOr (bNot (bVal (eArgs (dIsi isi) (eCons (eVar 0) (eCons (eC (.ty "tuple")) (eNil)))))) (bVal (eBin dNe (eArgs dLen (eCons (eVar 0) (eNil))) (eArgs dLen (eCons (eVar 1) (eNil))))))
    (sRet (eC (.bl false)))
    (sNil))
    (sIf (bOr (bNot (bVal (eArgs (dIsi isi) (eCons (eVar 0) (eCons (eC (.ty "list")) (eNil)))))) (bVal (eBin dNe (eArgs dLen (eCons (eVar 0) (eNil))) (eArgs dLen (eCons (eVar 1) (eNil))))))
    (sRet (eC (.bl false)))
    (sNil)))
    (sSeq (sForI (iRange1 (eArgs dLen (eCons (eVar 1) (eNil)))) (tgName 2) (lp_law_alike_1 self))
    (sRet (eC (.bl true))))))))
def m_law_alike : Nat → List D → MH → Res D
  | 0 => fun _ _ => .bad
  | n + 1 => fnB 3 (b_law_alike (m_law_alike n))
theorem ok_law_alike (T : Txt P w K mg ad fd) : ∀ n : Nat, FnOk P w K mg base (L2N.CX P w) (3 + n) (ad 24) (fd 24) ["_law_actual", "_law_due"] (spD ⟨K, ad⟩ 2 (m_law_alike n))
  | 0 => fn_bad _
  | n + 1 => by
    have ih := ok_law_alike T n
    refine fn_ok2 T.F24 sc_law_alike fun cdv A outer s H E hr tk po => ?_
    have hu := hr.units
    have hu1 := hu_of hr
    exact ds_cons (ds_if (dt_is (de_v 1) (de_non))
        (ds_one (ds_ret (de_is (de_v 0) (de_non))))
        (ds_nil))
        (ds_cons (ds_if (dt_w (dw_or (dt_is (de_v 1) (de_bl)) (dw_or1 (dt_is (de_v 1) (de_bl)))))
        (ds_one (ds_ret (de_and (de_isi T.isi rfl (de_cons (de_v 0) (de_cons (de_c (pe_bltn (v := .ty "bool") rfl T.n_bool (by decide +kernel) rfl) fun _ _ => .ty "bool") (de_nil))) T.n_isinstance) (de_one (de_eq rfl hu (de_v 0) (de_v 1))))))
        (ds_nil))
        (ds_cons (ds_if (dt_val (de_isi T.isi rfl (de_cons (de_v 1) (de_cons (de_c (pe_bltn (v := .ty "int") rfl T.n_int (by decide +kernel) rfl) fun _ _ => .ty "int") (de_nil))) T.n_isinstance))
        (ds_one (ds_ret (de_and (de_isi T.isi rfl (de_cons (de_v 0) (de_cons (de_c (pe_bltn (v := .ty "int") rfl T.n_int (by decide +kernel) rfl) fun _ _ => .ty "int") (de_nil))) T.n_isinstance) (de_and (de_not (de_isi T.isi rfl (de_cons (de_v 0) (de_cons (de_c (pe_bltn (v := .ty "bool") rfl T.n_bool (by decide +kernel) rfl) fun _ _ => .ty "bool") (de_nil))) T.n_isinstance)) (de_one (de_eq rfl hu (de_v 0) (de_v 1)))))))
        (ds_nil))
        (ds_cons (ds_if (dt_val (de_isi T.isi rfl (de_cons (de_v 1) (de_cons (de_c (pe_bltn (v := .ty "str") rfl T.n_str (by decide +kernel) rfl) fun _ _ => .ty "str") (de_nil))) T.n_isinstance))
        (ds_one (ds_ret (de_and (de_isi T.isi rfl (de_cons (de_v 0) (de_cons (de_c (pe_bltn (v := .ty "str") rfl T.n_str (by decide +kernel) rfl) fun _ _ => .ty "str") (de_nil))) T.n_isinstance) (de_one (de_eq rfl hu (de_v 0) (de_v 1))))))
        (ds_nil))
        (ds_cons (ds_if (dt_val (de_isi T.isi rfl (de_cons (de_v 1) (de_cons (de_c (pe_bltn (v := .ty "tuple") rfl T.n_tuple (by decide +kernel) rfl) fun _ _ => .ty "tuple") (de_nil))) T.n_isinstance))
        (ds_one (ds_if (dt_w (dw_or (dt_not (dt_val (de_isi T.isi rfl (de_cons (de_v 0) (de_cons (de_c (pe_bltn (v := .ty "tuple") rfl T.n_tuple (by decide +kernel) rfl) fun _ _ => .ty "tuple") (de_nil))) T.n_isinstance))) (dw_or1 (dt_ne rfl hu (de_len (de_cons (de_v 0) (de_nil)) (hK := rfl) (hm := T.n_len)) (de_len (de_cons (de_v 1) (de_nil)) (hK := rfl) (hm := T.n_len))))))
        (ds_one (ds_ret (de_bl)))
        (ds_nil)))
        (ds_one (ds_if (dt_w (dw_or (dt_not (dt_val (de_isi T.isi rfl (de_cons (de_v 0) (de_cons (de_c (pe_bltn (v := .ty "list") rfl T.n_list (by decide +kernel) rfl) fun _ _ => .ty "list") (de_nil))) T.n_isinstance))) (dw_or1 (dt_ne rfl hu (de_len (de_cons (de_v 0) (de_nil)) (hK := rfl) (hm := T.n_len)) (de_len (de_cons (de_v 1) (de_nil)) (hK := rfl) (hm := T.n_len))))))
        (ds_one (ds_ret (de_bl)))
        (ds_nil))))
        (ds_cons (ds_for (fun _ => pin_nil) po rfl (pi_range1 rfl T.n_range (de_cons (de_len (de_cons (de_v 1) (de_nil)) (hK := rfl) (hm := T.n_len)) de_nil)) (itSim_range1) (pg_name (i := 2) sc_law_alike.nd rfl (by first | exact Or.inl rfl | exact Or.inr rfl)) (tgName_sim 2)
        (ds_one (ds_if (dt_not (dt_val (de_call (ih) (hr.mono (by (try simp only [Nat.add_eq]); omega)) tk T.g24 T.F24.kp T.b24 (de_cons (de_ixA rfl hu1 (de_v 0) (de_v 2)) (de_cons (de_ixA rfl hu1 (de_v 1) (de_v 2)) (de_nil))))))
        (ds_one (ds_ret (de_bl)))
        (ds_nil))))
        (ds_one (ds_ret (de_bl))))))))
theorem okH_law_alike (T : Txt P w K mg ad fd) : ∀ n : Nat, L2H.FnH P w K mg base (L2N.CX P w) (3 + n) (ad 24) (fd 24) ["_law_actual", "_law_due"] (spD ⟨K, ad⟩ 2 (m_law_alike n))
  | 0 => fn_badH rfl
  | n + 1 => by
    have ih := okH_law_alike T n
    refine fn_okH T.F24 sc_law_alike fun cdv A outer s H E pp hr hc tk po => ?_
    have hu := unitsH hr
    have hu1 := hu_ofH hr
    exact ds_cons (ds_if (dt_is (de_v 1) (de_non))
      (ds_one (ds_ret (de_is (de_v 0) (de_non))))
      (ds_nil))
      (ds_cons (ds_if (dt_w (dw_or (dt_is (de_v 1) (de_bl)) (dw_or1 (dt_is (de_v 1) (de_bl)))))
      (ds_one (ds_ret (de_and (de_isi T.isi rfl (de_cons (de_v 0) (de_cons (de_c (pe_bltn (v := .ty "bool") rfl T.n_bool (by decide +kernel) rfl) fun _ _ => .ty "bool") (de_nil))) T.n_isinstance) (de_one (de_eq rfl hu (de_v 0) (de_v 1))))))
      (ds_nil))
      (ds_cons (ds_if (dt_val (de_isi T.isi rfl (de_cons (de_v 1) (de_cons (de_c (pe_bltn (v := .ty "int") rfl T.n_int (by decide +kernel) rfl) fun _ _ => .ty "int") (de_nil))) T.n_isinstance))
      (ds_one (ds_ret (de_and (de_isi T.isi rfl (de_cons (de_v 0) (de_cons (de_c (pe_bltn (v := .ty "int") rfl T.n_int (by decide +kernel) rfl) fun _ _ => .ty "int") (de_nil))) T.n_isinstance) (de_and (de_not (de_isi T.isi rfl (de_cons (de_v 0) (de_cons (de_c (pe_bltn (v := .ty "bool") rfl T.n_bool (by decide +kernel) rfl) fun _ _ => .ty "bool") (de_nil))) T.n_isinstance)) (de_one (de_eq rfl hu (de_v 0) (de_v 1)))))))
      (ds_nil))
      (ds_cons (ds_if (dt_val (de_isi T.isi rfl (de_cons (de_v 1) (de_cons (de_c (pe_bltn (v := .ty "str") rfl T.n_str (by decide +kernel) rfl) fun _ _ => .ty "str") (de_nil))) T.n_isinstance))
      (ds_one (ds_ret (de_and (de_isi T.isi rfl (de_cons (de_v 0) (de_cons (de_c (pe_bltn (v := .ty "str") rfl T.n_str (by decide +kernel) rfl) fun _ _ => .ty "str") (de_nil))) T.n_isinstance) (de_one (de_eq rfl hu (de_v 0) (de_v 1))))))
      (ds_nil))
      (ds_cons (ds_if (dt_val (de_isi T.isi rfl (de_cons (de_v 1) (de_cons (de_c (pe_bltn (v := .ty "tuple") rfl T.n_tuple (by decide +kernel) rfl) fun _ _ => .ty "tuple") (de_nil))) T.n_isinstance))
      (ds_one (ds_if (dt_w (dw_or (dt_not (dt_val (de_isi T.isi rfl (de_cons (de_v 0) (de_cons (de_c (pe_bltn (v := .ty "tuple") rfl T.n_tuple (by decide +kernel) rfl) fun _ _ => .ty "tuple") (de_nil))) T.n_isinstance))) (dw_or1 (dt_ne rfl hu (de_len (de_cons (de_v 0) (de_nil)) (hK := rfl) (hm := T.n_len)) (de_len (de_cons (de_v 1) (de_nil)) (hK := rfl) (hm := T.n_len))))))
      (ds_one (ds_ret (de_bl)))
      (ds_nil)))
      (ds_one (ds_if (dt_w (dw_or (dt_not (dt_val (de_isi T.isi rfl (de_cons (de_v 0) (de_cons (de_c (pe_bltn (v := .ty "list") rfl T.n_list (by decide +kernel) rfl) fun _ _ => .ty "list") (de_nil))) T.n_isinstance))) (dw_or1 (dt_ne rfl hu (de_len (de_cons (de_v 0) (de_nil)) (hK := rfl) (hm := T.n_len)) (de_len (de_cons (de_v 1) (de_nil)) (hK := rfl) (hm := T.n_len))))))
      (ds_one (ds_ret (de_bl)))
      (ds_nil))))
      (ds_cons (ds_forH (fun _ => pin_nil) po hc (L2H.pi_range1H rfl T.n_range (de_cons (de_len (de_cons (de_v 1) (de_nil)) (hK := rfl) (hm := T.n_len)) de_nil)) (itSim_range1) (pg_name (i := 2) sc_law_alike.nd rfl (by first | exact Or.inl rfl | exact Or.inr rfl)) (tgName_sim 2)
      (ds_one (ds_if (dt_not (dt_val (de_callH (ih) (hr.mono (by (try simp only [Nat.add_eq]); omega)) (hc) tk T.g24 T.F24.kp T.b24 (de_cons (de_ixA rfl hu1 (de_v 0) (de_v 2)) (de_cons (de_ixA rfl hu1 (de_v 1) (de_v 2)) (de_nil))))))
      (ds_one (ds_ret (de_bl)))
      (ds_nil))))
      (ds_one (ds_ret (de_bl))))))))
  end
section
variable {P : Program} {w : World} {K : PySem.W.Frag} {mg : Str → Option Value} {base : Heap} {ad : Nat → Addr} {fd : Nat → FuncData}
def b_is_value : SM :=
    sSeq (sIf (bVal (eBin dIs (eVar 0) (eC .non)))
    (sRet (eC (.bl true)))
    (sNil))
    (sRet (eAnd (eArgs (dIsi isi) (eCons (eVar 0) (eCons (eC (.ty "int")) (eNil)))) (eAnd (eNot (eArgs (dIsi isi) (eCons (eVar 0) (eCons (eC (.ty "bool")) (eNil))))) (eChain dLe dLe (eC (.int 0)) (eVar 0) (eC (.int 2))))))
def m_is_value : List D → MH → Res D := fnB 1 b_is_value
theorem ok_is_value (T : Txt P w K mg ad fd) : FnOk P w K mg base (L2N.CX P w) 3 (ad 6) (fd 6) ["value"] (spD ⟨K, ad⟩ 1 m_is_value) := by
  refine fn_ok2 T.F6 sc_is_value fun cdv A outer s H E hr tk po => ?_
  have hu := hr.units
  have hu1 := hu_of hr
  exact ds_cons (ds_if (dt_is (de_v 0) (de_non))
    (ds_one (ds_ret (de_bl)))
    (ds_nil))
    (ds_one (ds_ret (de_and (de_isi T.isi rfl (de_cons (de_v 0) (de_cons (de_c (pe_bltn (v := .ty "int") rfl T.n_int (by decide +kernel) rfl) fun _ _ => .ty "int") (de_nil))) T.n_isinstance) (de_and (de_not (de_isi T.isi rfl (de_cons (de_v 0) (de_cons (de_c (pe_bltn (v := .ty "bool") rfl T.n_bool (by decide +kernel) rfl) fun _ _ => .ty "bool") (de_nil))) T.n_isinstance)) (de_one (de_lele (de_int) (de_v 0) (de_int)))))))
end
section
variable {P : Program} {w : World} {K : PySem.W.Frag} {mg : Str → Option Value} {base : Heap} {ad : Nat → Addr} {fd : Nat → FuncData}
def lp_check_row_1 : SM :=
    sIf (bNot (bVal (eCall 1 m_is_value (eCons (eVar 1) (eNil)))))
    (sRaise0 3)
    (sNil)
def b_check_row : SM :=
    sSeq (sIf (bOr (bNot (bVal (eArgs (dIsi isi) (eCons (eVar 0) (eCons (eC (.ty "tuple")) (eNil)))))) (bVal (eBin dNe (eArgs dLen (eCons (eVar 0) (eNil))) (eC (.int 3)))))
    (sRaise0 3)
    (sNil))
    (sForI (iSeq (eVar 0)) (tgName 1) lp_check_row_1)
def m_check_row : List D → MH → Res D := fnB 2 b_check_row
theorem ok_check_row (T : Txt P w K mg ad fd) : FnOk P w K mg base (L2N.CX P w) 6 (ad 7) (fd 7) ["row"] (spD ⟨K, ad⟩ 1 m_check_row) := by
  refine fn_ok2 T.F7 sc_check_row fun cdv A outer s H E hr tk po => ?_
  have hu := hr.units
  have hu1 := hu_of hr
  exact ds_cons (ds_if (dt_w (dw_or (dt_not (dt_val (de_isi T.isi rfl (de_cons (de_v 0) (de_cons (de_c (pe_bltn (v := .ty "tuple") rfl T.n_tuple (by decide +kernel) rfl) fun _ _ => .ty "tuple") (de_nil))) T.n_isinstance))) (dw_or1 (dt_ne rfl hu (de_len (de_cons (de_v 0) (de_nil)) (hK := rfl) (hm := T.n_len)) (de_int)))))
    (ds_one (ds_raise0 PySem.F.excBase_ValueError T.xq3 T.g3 T.xk3 T.xb3 T.xt3 tk))
    (ds_nil))
    (ds_one (ds_for (fun _ => pin_nil) po rfl (pi_or (pi_list (de_v 0)) (pi_tup (de_v 0))) (itSim_seq rfl) (pg_name (i := 1) sc_check_row.nd rfl (by first | exact Or.inl rfl | exact Or.inr rfl)) (tgName_sim 1)
    (ds_one (ds_if (dt_not (dt_val (de_call (ok_is_value T) (hr.mono (by decide)) tk T.g6 T.F6.kp T.b6 (de_cons (de_v 1) (de_nil)))))
    (ds_one (ds_raise0 PySem.F.excBase_ValueError T.xq3 T.g3 T.xk3 T.xb3 T.xt3 tk))
    (ds_nil)))))
end
section
variable {P : Program} {w : World} {K : PySem.W.Frag} {mg : Str → Option Value} {base : Heap} {ad : Nat → Addr} {fd : Nat → FuncData}
def b_law_row_checked : SM :=
    sSeq (sTry 3 ct_BookError
    (sSet 2 (eCall 1 m_check_row (eCons (eVar 0) (eNil))))
    (fun c ns ds => sRet (eAnd (eNot (eVar 1)) (eAnd (eXIsF (xis_InvalidRow c)) (eNot (eXIsF (xis_InvalidName c)))))))
    (sRet (eAnd (eVar 1) (eBin dIs (eVar 2) (eC .non))))
def m_law_row_checked : List D → MH → Res D := fnB 4 b_law_row_checked
theorem ok_law_row_checked (T : Txt P w K mg ad fd) : FnOk P w K mg base (L2N.CX P w) 9 (ad 29) (fd 29) ["_law_row_here", "_law_good"] (spD ⟨K, ad⟩ 2 m_law_row_checked) := by
  refine fn_ok2 T.F29 sc_law_row_checked fun cdv A outer s H E hr tk po => ?_
  have hu := hr.units
  have hu1 := hu_of hr
  exact ds_cons (ds_try (i := 3) (h := 0) rfl sc_law_row_checked.nd T.g0 T.ct_BookError tk (fun w1 pn xe tk1 po1 => ds_one (ds_set (i := 2) sc_law_row_checked.nd (de_call (ok_check_row T) (hr.mono (by decide)) tk1 T.g7 T.F7.kp T.b7 (de_cons (de_v 0) (de_nil)))))
    (fun ax oe c d pn ns ds hz hf hd => ds_one (ds_ret (de_and (de_not (de_v 1)) (de_and (de_xisF (k := 3) T.x_InvalidRow hz hf T.n_isinstance T.g3) (de_one (de_not (de_xisF (k := 1) T.x_InvalidName hz hf T.n_isinstance T.g1))))))))
    (ds_one (ds_ret (de_and (de_v 1) (de_one (de_is (de_v 2) (de_non))))))
end
section
variable {P : Program} {w : World} {K : PySem.W.Frag} {mg : Str → Option Value} {base : Heap} {ad : Nat → Addr} {fd : Nat → FuncData}
def b_law_is_name : SM :=
    sSeq (sIf (bOr (bVal (eBin dLt (eArgs dLen (eCons (eVar 0) (eNil))) (eC (.int 1)))) (bOr (bVal (eBin dGt (eArgs dLen (eCons (eVar 0) (eNil))) (eC (.int 8)))) (bVal (eBin dInA (eVar 0) (eFro (eCons (eC (.str "on")) (eCons (eC (.str "set")) (eCons (eC (.str "new")) (eNil)))))))))
    (sRet (eC (.bl false)))
    (sNil))
    (sRet (eBin dEq (eLc (iStrD (eVar 0)) (tgName 1) (bVal (eBin dNotInA (eVar 1) (eC (.str "abcdefghijklmnopqrstuvwxyz")))) (eVar 1) [1]) (eFro (eNil))))
def m_law_is_name : List D → MH → Res D := frzP (fnB 2 b_law_is_name)
theorem ok_law_is_name (T : Txt P w K mg ad fd) : FnOk P w K mg base (L2N.CX P w) 3 (ad 28) (fd 28) ["_law_word"] (spD ⟨K, ad⟩ 1 m_law_is_name) := by
  refine fn_frzP ?_
  refine fn_ok2 T.F28 sc_law_is_name fun cdv A outer s H E hr tk po => ?_
  have hu := hr.units
  have hu1 := hu_of hr
  exact ds_cons (ds_if (dt_w (dw_or (dt_lt (de_len (de_cons (de_v 0) (de_nil)) (hK := rfl) (hm := T.n_len)) (de_int)) (dw_or (dt_gt (de_len (de_cons (de_v 0) (de_nil)) (hK := rfl) (hm := T.n_len)) (de_int)) (dw_or1 (dt_inA rfl hu1 (de_v 0) (de_fro (de_cons (de_str) (de_cons (de_str) (de_cons (de_str) (de_nil))))))))))
    (ds_one (ds_ret (de_bl)))
    (ds_nil))
    (ds_one (ds_ret (de_eq rfl hu (de_lc (own := [("_law_sign", 1)]) sc_law_is_name.nd (pi_str (de_v 0)) (itSim_str) (blkOk_by (N := ["_law_word", "_law_sign"]) (sc := defScope s_law_is_name) (by decide +kernel)) (tgName_sim 1) (tgName_own 1 (by decide)) (fun _ _ _ _ _ => pg_name (i := 1) sc_law_is_name.nd rfl (by first | exact Or.inl rfl | exact Or.inr rfl)) (fun _ _ _ _ _ => dts_one (dt_notinA rfl hu1 (de_v 1) (de_str))) (fun _ _ _ _ _ => de_v 1)) (de_fro (de_nil)))))
end
section
variable {P : Program} {w : World} {K : PySem.W.Frag} {mg : Str → Option Value} {base : Heap} {ad : Nat → Addr} {fd : Nat → FuncData}
def b_is_name : SM :=
    sSeq (sIf (bOr (bNot (bVal (eArgs (dIsi isi) (eCons (eVar 0) (eCons (eC (.ty "str")) (eNil)))))) (bOr (bNot (bVal (eChain dLe dLe (eC (.int 1)) (eArgs dLen (eCons (eVar 0) (eNil))) (eC (.int 8))))) (bVal (eBin dInA (eVar 0) (eC c_RESERVED)))))
    (sRet (eC (.bl false)))
    (sNil))
    (sRet (eArgs (dAllB fun bs => bs.all id) (eCons (eLc (iStrD (eVar 0)) (tgName 1) (bYes) (eBin dInA (eVar 1) (eC (.str "abcdefghijklmnopqrstuvwxyz"))) [1]) (eNil))))
def m_is_name : List D → MH → Res D := frzP (fnB 2 b_is_name)
theorem ok_is_name (T : Txt P w K mg ad fd) : FnOk P w K mg base (L2N.CX P w) 3 (ad 15) (fd 15) ["name"] (spD ⟨K, ad⟩ 1 m_is_name) := by
  refine fn_frzP ?_
  refine fn_ok2 T.F15 sc_is_name fun cdv A outer s H E hr tk po => ?_
  have hu := hr.units
  have hu1 := hu_of hr
  exact ds_cons (ds_if (dt_w (dw_or (dt_not (dt_val (de_isi T.isi rfl (de_cons (de_v 0) (de_cons (de_c (pe_bltn (v := .ty "str") rfl T.n_str (by decide +kernel) rfl) fun _ _ => .ty "str") (de_nil))) T.n_isinstance))) (dw_or (dt_not (dt_lele (de_int) (de_len (de_cons (de_v 0) (de_nil)) (hK := rfl) (hm := T.n_len)) (de_int))) (dw_or1 (dt_inA rfl hu1 (de_v 0) (de_c (pe_glob (v := .ref (ad 14)) rfl T.g14 rfl) T.r14))))))
    (ds_one (ds_ret (de_bl)))
    (ds_nil))
    (ds_one (ds_ret (de_all rfl (de_cons (de_lc (own := [("sign", 1)]) sc_is_name.nd (pi_str (de_v 0)) (itSim_str) (blkOk_by (N := ["name", "sign"]) (sc := defScope s_is_name) (by decide +kernel)) (tgName_sim 1) (tgName_own 1 (by decide)) (fun _ _ _ _ _ => pg_name (i := 1) sc_is_name.nd rfl (by first | exact Or.inl rfl | exact Or.inr rfl)) (fun _ _ _ _ _ => dts_nil) (fun _ _ _ _ _ => de_inA rfl hu1 (de_v 1) (de_c (pe_glob (v := .str "abcdefghijklmnopqrstuvwxyz") rfl T.gs13.choose_spec.1 T.gs13.choose_spec.2) fun _ _ => .str "abcdefghijklmnopqrstuvwxyz"))) (de_nil)) T.n_all)))
end
section
variable {P : Program} {w : World} {K : PySem.W.Frag} {mg : Str → Option Value} {base : Heap} {ad : Nat → Addr} {fd : Nat → FuncData}
theorem ok_InvalidName___init__ (T : Txt P w K mg ad fd) : FnOk P w K mg base (L2N.CX P w) 3 (ad 2) (fd 2) ["self", "name"] (spX ⟨K, ad⟩ 1 1 ["name"] xv_InvalidName) := by
  exact initX_ok (g := ⟨K, ad⟩) (c := 1) (l := [("name", eVar 1)]) (acc := fun ds => [("name", dAt ds 0)]) T.O2 sc_InvalidName___init__ T.ox1 rfl rfl (fun _ _ _ _ => rfl) (fun _ _ _ _ => rfl) (fun _ _ _ _ _ _ _ => .cons (pe_var (i := 0) rfl (.inl rfl) (by decide) (by decide)) (de_v 1) T.ofl1_name rfl (.nil)) (fun a ds M hl => match ds, hl with | [_], _ => ⟨_, _, rfl, rfl, rfl⟩) (fun _ => rfl) (fun _ => rfl) (by decide) (by decide)
end
section
variable {P : Program} {w : World} {K : PySem.W.Frag} {mg : Str → Option Value} {base : Heap} {ad : Nat → Addr} {fd : Nat → FuncData}
def b_check_name : SM :=
    sIf (bNot (bVal (eCall 1 m_is_name (eCons (eVar 0) (eNil)))))
    (sRaiseX 1 1 ["name"] xv_InvalidName (eCons (eVar 0) (eNil)))
    (sNil)
def m_check_name : List D → MH → Res D := frzP (fnB 1 b_check_name)
theorem ok_check_name (T : Txt P w K mg ad fd) : FnOk P w K mg base (L2N.CX P w) 6 (ad 16) (fd 16) ["name"] (spD ⟨K, ad⟩ 1 m_check_name) := by
  refine fn_frzP ?_
  refine fn_ok2 T.F16 sc_check_name fun cdv A outer s H E hr tk po => ?_
  have hu := hr.units
  have hu1 := hu_of hr
  exact ds_one (ds_if (dt_not (dt_val (de_call (ok_is_name T) (hr.mono (by decide)) tk T.g15 T.F15.kp T.b15 (de_cons (de_v 0) (de_nil)))))
    (ds_one (ds_raiseX T.ox1 T.oi1 T.ot1 (ok_InvalidName___init__ T) (hr.mono (by decide)) tk T.b2 T.g1 (de_cons (de_v 0) (de_nil))))
    (ds_nil))
end
section
variable {P : Program} {w : World} {K : PySem.W.Frag} {mg : Str → Option Value} {base : Heap} {ad : Nat → Addr} {fd : Nat → FuncData}
def b_law_name_checked : SM :=
    sSeq (sSet 1 (eCall 1 m_law_is_name (eCons (eVar 0) (eNil))))
    (sSeq (sIf (bNot (bVal (eCall 2 (m_law_alike 6) (eCons (eCall 1 m_is_name (eCons (eVar 0) (eNil))) (eCons (eVar 1) (eNil))))))
    (sRet (eC (.bl false)))
    (sNil))
    (sSeq (sTry 3 ct_BookError
    (sSet 2 (eCall 1 m_check_name (eCons (eVar 0) (eNil))))
    (fun c ns ds => sSeq (sIf (bOr (bVal (eVar 1)) (bOr (bNot (bVal (eXIsF (xis_InvalidName c)))) (bVal (eXIsF (xis_InvalidRow c)))))
    (sRet (eC (.bl false)))
    (sNil))
    (sRet (eCall 2 (m_law_alike 6) (eCons (eXFld (xf_name c) "name" ns ds) (eCons (eVar 0) (eNil)))))))
    (sRet (eAnd (eVar 1) (eBin dIs (eVar 2) (eC .non))))))
def m_law_name_checked : List D → MH → Res D := frzP (fnB 4 b_law_name_checked)
theorem ok_law_name_checked (T : Txt P w K mg ad fd) : FnOk P w K mg base (L2N.CX P w) 12 (ad 30) (fd 30) ["_law_word"] (spD ⟨K, ad⟩ 1 m_law_name_checked) := by
  refine fn_frzP ?_
  refine fn_ok2 T.F30 sc_law_name_checked fun cdv A outer s H E hr tk po => ?_
  have hu := hr.units
  have hu1 := hu_of hr
  exact ds_cons (ds_set (i := 1) sc_law_name_checked.nd (de_call (ok_law_is_name T) (hr.mono (by decide)) tk T.g28 T.F28.kp T.b28 (de_cons (de_v 0) (de_nil))))
    (ds_cons (ds_if (dt_not (dt_val (de_call (ok_law_alike T 6) (hr.mono (by decide)) tk T.g24 T.F24.kp T.b24 (de_cons (de_call (ok_is_name T) (hr.mono (by decide)) tk T.g15 T.F15.kp T.b15 (de_cons (de_v 0) (de_nil))) (de_cons (de_v 1) (de_nil))))))
    (ds_one (ds_ret (de_bl)))
    (ds_nil))
    (ds_cons (ds_try (i := 3) (h := 0) rfl sc_law_name_checked.nd T.g0 T.ct_BookError tk (fun w1 pn xe tk1 po1 => ds_one (ds_set (i := 2) sc_law_name_checked.nd (de_call (ok_check_name T) (hr.mono (by decide)) tk1 T.g16 T.F16.kp T.b16 (de_cons (de_v 0) (de_nil)))))
    (fun ax oe c d pn ns ds hz hf hd => ds_cons (ds_if (dt_w (dw_or (dt_val (de_v 1)) (dw_or (dt_not (dt_val (de_xisF (k := 1) T.x_InvalidName hz hf T.n_isinstance T.g1))) (dw_or1 (dt_val (de_xisF (k := 3) T.x_InvalidRow hz hf T.n_isinstance T.g3))))))
    (ds_one (ds_ret (de_bl)))
    (ds_nil))
    (ds_one (ds_ret (de_callH (okH_law_alike T 6) (room_suite (hr.mono (by decide))) (hot_suite hz hf) takesN0 T.g24 T.F24.kp T.b24 (de_cons (de_xfld T.xf_name hz hf) (de_cons (de_v 0) (de_nil))))))))
    (ds_one (ds_ret (de_and (de_v 1) (de_one (de_is (de_v 2) (de_non))))))))
end
section
variable {P : Program} {w : World} {K : PySem.W.Frag} {mg : Str → Option Value} {base : Heap} {ad : Nat → Addr} {fd : Nat → FuncData}
def b_value_key : SM :=
    sSeq (sIf (bVal (eBin dIs (eVar 0) (eC .non)))
    (sRet (eUn dNeg (eC (.int 1))))
    (sNil))
    (sRet (eVar 0))
def m_value_key : List D → MH → Res D := fnB 1 b_value_key
theorem ok_value_key (T : Txt P w K mg ad fd) : FnOk P w K mg base (L2N.CX P w) 3 (ad 8) (fd 8) ["value"] (spD ⟨K, ad⟩ 1 m_value_key) := by
  refine fn_ok2 T.F8 sc_value_key fun cdv A outer s H E hr tk po => ?_
  have hu := hr.units
  have hu1 := hu_of hr
  exact ds_cons (ds_if (dt_is (de_v 0) (de_non))
    (ds_one (ds_ret (de_neg (de_int))))
    (ds_nil))
    (ds_one (ds_ret (de_v 0)))
end
section
variable {P : Program} {w : World} {K : PySem.W.Frag} {mg : Str → Option Value} {base : Heap} {ad : Nat → Addr} {fd : Nat → FuncData}
def b_row_key : SM :=
    sRet (eTup (eCons (eCall 1 m_value_key (eCons (eBin dIxA (eVar 0) (eC (.int 0))) (eNil))) (eCons (eCall 1 m_value_key (eCons (eBin dIxA (eVar 0) (eC (.int 1))) (eNil))) (eCons (eCall 1 m_value_key (eCons (eBin dIxA (eVar 0) (eC (.int 2))) (eNil))) (eNil)))))
def m_row_key : List D → MH → Res D := fnB 1 b_row_key
theorem ok_row_key (T : Txt P w K mg ad fd) : FnOk P w K mg base (L2N.CX P w) 6 (ad 9) (fd 9) ["row"] (spD ⟨K, ad⟩ 1 m_row_key) := by
  refine fn_ok2 T.F9 sc_row_key fun cdv A outer s H E hr tk po => ?_
  have hu := hr.units
  have hu1 := hu_of hr
  exact ds_one (ds_ret (de_tup (de_cons (de_call (ok_value_key T) (hr.mono (by decide)) tk T.g8 T.F8.kp T.b8 (de_cons (de_ixA rfl hu1 (de_v 0) (de_int)) (de_nil))) (de_cons (de_call (ok_value_key T) (hr.mono (by decide)) tk T.g8 T.F8.kp T.b8 (de_cons (de_ixA rfl hu1 (de_v 0) (de_int)) (de_nil))) (de_cons (de_call (ok_value_key T) (hr.mono (by decide)) tk T.g8 T.F8.kp T.b8 (de_cons (de_ixA rfl hu1 (de_v 0) (de_int)) (de_nil))) (de_nil))))))
end
section
variable {P : Program} {w : World} {K : PySem.W.Frag} {mg : Str → Option Value} {base : Heap} {ad : Nat → Addr} {fd : Nat → FuncData}
def b_sorted_rows : SM :=
    sRet (eUn (dSortK mkL m_row_key) (eVar 0))
def m_sorted_rows : List D → MH → Res D := fnB 1 b_sorted_rows
theorem ok_sorted_rows (T : Txt P w K mg ad fd) : FnOk P w K mg base (L2N.CX P w) 9 (ad 10) (fd 10) ["rows"] (spD ⟨K, ad⟩ 1 m_sorted_rows) := by
  refine fn_ok2 T.F10 sc_sorted_rows fun cdv A outer s H E hr tk po => ?_
  have hu := hr.units
  have hu1 := hu_of hr
  exact ds_one (ds_ret (de_sortK (pk := default) rfl mkL_ok (ok_row_key T) (hr.mono (by decide)) T.b9 T.g9 T.n_sorted (de_v 0)))
end
section
variable {P : Program} {w : World} {K : PySem.W.Frag} {mg : Str → Option Value} {base : Heap} {ad : Nat → Addr} {fd : Nat → FuncData}
def b_law_key : SM :=
    sRet (eArgs dTupF (eCons (eLc (iSeq (eVar 0)) (tgName 1) (bYes) (eIf (bVal (eBin dIs (eVar 1) (eC .non))) (eUn dNeg (eC (.int 1))) (eVar 1)) [1]) (eNil)))
def m_law_key : List D → MH → Res D := frzP (fnB 2 b_law_key)
theorem ok_law_key (T : Txt P w K mg ad fd) : FnOk P w K mg base (L2N.CX P w) 3 (ad 22) (fd 22) ["_law_row_here"] (spD ⟨K, ad⟩ 1 m_law_key) := by
  refine fn_frzP ?_
  refine fn_ok2 T.F22 sc_law_key fun cdv A outer s H E hr tk po => ?_
  have hu := hr.units
  have hu1 := hu_of hr
  exact ds_one (ds_ret (de_tupc (de_cons (de_lc (own := [("_law_part", 1)]) sc_law_key.nd (pi_or (pi_list (de_v 0)) (pi_tup (de_v 0))) (itSim_seq rfl) (blkOk_by (N := ["_law_row_here", "_law_part"]) (sc := defScope s_law_key) (by decide +kernel)) (tgName_sim 1) (tgName_own 1 (by decide)) (fun _ _ _ _ _ => pg_name (i := 1) sc_law_key.nd rfl (by first | exact Or.inl rfl | exact Or.inr rfl)) (fun _ _ _ _ _ => dts_nil) (fun _ _ _ _ _ => de_if (dt_is (de_v 1) (de_non)) (de_neg (de_int)) (de_v 1))) (de_nil)) (hK := rfl) (hm := T.n_tuple)))
end
section
variable {P : Program} {w : World} {K : PySem.W.Frag} {mg : Str → Option Value} {base : Heap} {ad : Nat → Addr} {fd : Nat → FuncData}
def b_law_sorted : SM :=
    sRet (eUn (dSortK mkF m_law_key) (eVar 0))
def m_law_sorted : List D → MH → Res D := fnB 1 b_law_sorted
theorem ok_law_sorted (T : Txt P w K mg ad fd) : FnOk P w K mg base (L2N.CX P w) 6 (ad 23) (fd 23) ["_law_rows_here"] (spD ⟨K, ad⟩ 1 m_law_sorted) := by
  refine fn_ok2 T.F23 sc_law_sorted fun cdv A outer s H E hr tk po => ?_
  have hu := hr.units
  have hu1 := hu_of hr
  exact ds_one (ds_ret (de_sortK (pk := default) rfl mkF_ok (ok_law_key T) (hr.mono (by decide)) T.b22 T.g22 T.n_sorted (de_v 0)))
end
section
variable {P : Program} {w : World} {K : PySem.W.Frag} {mg : Str → Option Value} {base : Heap} {ad : Nat → Addr} {fd : Nat → FuncData}
def b_altered : SM :=
    sRet (eBin dAdd (eBin dAdd (eSl mkF (eVar 0) (oNone) (oSome (eVar 1))) (eTup (eCons (eVar 2) (eNil)))) (eSl mkF (eVar 0) (oSome (eBin dAdd (eVar 1) (eC (.int 1)))) (oNone)))
def m_altered : List D → MH → Res D := fnB 3 b_altered
theorem ok_altered (T : Txt P w K mg ad fd) : FnOk P w K mg base (L2N.CX P w) 3 (ad 12) (fd 12) ["row", "column", "value"] (spD ⟨K, ad⟩ 3 m_altered) := by
  refine fn_ok2 T.F12 sc_altered fun cdv A outer s H E hr tk po => ?_
  have hu := hr.units
  have hu1 := hu_of hr
  exact ds_one (ds_ret (de_add rfl (de_add rfl (de_sl rfl mkF_ok (de_v 0) (do_none) (do_some (de_v 1))) (de_tup (de_cons (de_v 2) (de_nil)))) (de_sl rfl mkF_ok (de_v 0) (do_some (de_add rfl (de_v 1) (de_int))) (do_none))))
end
section
variable {P : Program} {w : World} {K : PySem.W.Frag} {mg : Str → Option Value} {base : Heap} {ad : Nat → Addr} {fd : Nat → FuncData}
def lp_law_1 : SM :=
    sIf (bNot (bVal (eCall 2 (m_law_alike 6) (eCons (eListRows) (eCons (eVar 8) (eNil))))))
    (sRet (eC (.bl false)))
    (sNil)
def b_law : SM :=
    sSeq (sSet 1 (eCall 1 m_law_box (eCons (eVar 0) (eNil))))
    (sSeq (sSet 2 (eCall 1 m_law_row (eCons (eVar 1) (eNil))))
    (sSeq (sSet 3 (eCall 2 m_law_draw (eCons (eVar 1) (eCons (eC (.int 3)) (eNil)))))
    (sSeq (sSet 4 (eCall 2 m_law_pick (eCons (eVar 1) (eCons (eFro (eCons (eC .non) (eCons (eC (.int 0)) (eCons (eC (.int 1)) (eCons (eC (.int 2)) (eNil)))))) (eNil)))))
    (sSeq (sSet 5 (eCall 2 m_law_bad_row (eCons (eVar 1) (eCons (eVar 2) (eNil)))))
    (sSeq (sSet 6 (eCall 1 m_law_string (eCons (eVar 1) (eNil))))
    (sSeq (sSet 7 (eCall 1 m_law_rows (eCons (eVar 1) (eNil))))
    (sSeq (sSet 8 (eCall 0 m_law_every eNil))
    (sSeq (sIf (bOr (bNot (bVal (eCall 2 (m_law_alike 6) (eCons (eC c_VALUES) (eCons (eTup (eCons (eC .non) (eCons (eC (.int 0)) (eCons (eC (.int 1)) (eCons (eC (.int 2)) (eNil)))))) (eNil)))))) (bNot (bVal (eCall 2 (m_law_alike 6) (eCons (eC c_FREE) (eCons (eTup (eCons (eC .non) (eCons (eC .non) (eCons (eC .non) (eNil))))) (eNil)))))))
    (sRet (eC (.bl false)))
    (sNil))
    (sSeq (sForI (iRange1 (eC (.int 2))) (tgName 9) lp_law_1)
    (sSeq (sIf (bVal (eBin dNe (eLc (iSeq (eVar 8)) (tgName 10) (bNot (bVal (eCall 2 m_law_row_checked (eCons (eVar 10) (eCons (eC (.bl true)) (eNil)))))) (eVar 10) [10]) (eFro (eNil))))
    (sRet (eC (.bl false)))
    (sNil))
    (sSeq (sIf (bOr (bNot (bVal (eCall 2 m_law_row_checked (eCons (eVar 5) (eCons (eC (.bl false)) (eNil)))))) (bOr (bNot (bVal (eCall 2 m_law_row_checked (eCons (eVar 2) (eCons (eC (.bl true)) (eNil)))))) (bNot (bVal (eCall 1 m_law_name_checked (eCons (eVar 6) (eNil)))))))
    (sRet (eC (.bl false)))
    (sNil))
    (sSeq (sIf (bVal (eBin dNe (eLc (iSeq (eFro (eCons (eC (.str "on")) (eCons (eC (.str "set")) (eCons (eC (.str "new")) (eCons (eC (.str "news")) (eCons (eC (.str "se")) (eCons (eC (.str "onn")) (eNil))))))))) (tgName 11) (bNot (bVal (eCall 1 m_law_name_checked (eCons (eVar 11) (eNil))))) (eVar 11) [11]) (eFro (eNil))))
    (sRet (eC (.bl false)))
    (sNil))
    (sSeq (sSet 12 (eArgs dListF (eCons (eVar 7) (eNil))))
    (sSeq (sSet 13 (eCall 1 m_sorted_rows (eCons (eVar 12) (eNil))))
    (sSeq (sIf (bNot (bVal (eCall 2 (m_law_alike 6) (eCons (eVar 13) (eCons (eCall 1 m_law_sorted (eCons (eVar 7) (eNil))) (eNil))))))
    (sRet (eC (.bl false)))
    (sNil))
    (sSeq (sDo (eApp (eVar 13) (eVar 2)))
    (sSeq (sIf (bOr (bNot (bVal (eCall 2 (m_law_alike 6) (eCons (eCall 1 m_sorted_rows (eCons (eVar 12) (eNil))) (eCons (eCall 1 m_law_sorted (eCons (eVar 7) (eNil))) (eNil)))))) (bNot (bVal (eCall 2 (m_law_alike 6) (eCons (eVar 12) (eCons (eVar 7) (eNil)))))))
    (sRet (eC (.bl false)))
    (sNil))
    (sSeq (sIf (bNot (bVal (eCall 2 (m_law_alike 6) (eCons (eCall 3 m_altered (eCons (eVar 2) (eCons (eVar 3) (eCons (eVar 4) (eNil))))) (eCons (eBin dAdd (eBin dAdd (eSl mkF (eVar 2) (oNone) (oSome (eVar 3))) (eTup (eCons (eVar 4) (eNil)))) (eSl mkF (eVar 2) (oSome (eBin dAdd (eVar 3) (eC (.int 1)))) (oNone))) (eNil))))))
    (sRet (eC (.bl false)))
    (sNil))
    (sRet (eCall 2 (m_law_alike 6) (eCons (eCall 1 m_row_key (eCons (eVar 2) (eNil))) (eCons (eCall 1 m_law_key (eCons (eVar 2) (eNil))) (eNil)))))))))))))))))))))))
def m_law : List D → MH → Res D := fnB 14 b_law
theorem ok_law (T : Txt P w K mg ad fd) : FnOk P w K mg base (L2N.CX P w) 15 (ad 31) (fd 31) ["_law_script"] (spD ⟨K, ad⟩ 1 m_law) := by
  refine fn_ok2 T.F31 sc_law fun cdv A outer s H E hr tk po => ?_
  have hu := hr.units
  have hu1 := hu_of hr
  exact ds_cons (ds_set (i := 1) sc_law.nd (de_call (ok_law_box T) (hr.mono (by decide)) tk T.g17 T.F17.kp T.b17 (de_cons (de_v 0) (de_nil))))
    (ds_cons (ds_set (i := 2) sc_law.nd (de_call (ok_law_row T) (hr.mono (by decide)) tk T.g20 T.F20.kp T.b20 (de_cons (de_v 1) (de_nil))))
    (ds_cons (ds_set (i := 3) sc_law.nd (de_call (ok_law_draw T) (hr.mono (by decide)) tk T.g18 T.F18.kp T.b18 (de_cons (de_v 1) (de_cons (de_int) (de_nil)))))
    (ds_cons (ds_set (i := 4) sc_law.nd (de_call (ok_law_pick T) (hr.mono (by decide)) tk T.g19 T.F19.kp T.b19 (de_cons (de_v 1) (de_cons (de_fro (de_cons (de_non) (de_cons (de_int) (de_cons (de_int) (de_cons (de_int) (de_nil)))))) (de_nil)))))
    (ds_cons (ds_set (i := 5) sc_law.nd (de_call (ok_law_bad_row T) (hr.mono (by decide)) tk T.g25 T.F25.kp T.b25 (de_cons (de_v 1) (de_cons (de_v 2) (de_nil)))))
    (ds_cons (ds_set (i := 6) sc_law.nd (de_call (ok_law_string T) (hr.mono (by decide)) tk T.g26 T.F26.kp T.b26 (de_cons (de_v 1) (de_nil))))
    (ds_cons (ds_set (i := 7) sc_law.nd (de_call (ok_law_rows T) (hr.mono (by decide)) tk T.g27 T.F27.kp T.b27 (de_cons (de_v 1) (de_nil))))
    (ds_cons (ds_set (i := 8) sc_law.nd (de_call0 (ok_law_every T) (hr.mono (by decide)) tk T.g21 T.F21.kp T.b21))
    (ds_cons (ds_if (dt_w (dw_or (dt_not (dt_val (de_call (ok_law_alike T 6) (hr.mono (by decide)) tk T.g24 T.F24.kp T.b24 (de_cons (de_c (pe_glob (v := .ref (ad 4)) rfl T.g4 rfl) T.r4) (de_cons (de_tup (de_cons (de_non) (de_cons (de_int) (de_cons (de_int) (de_cons (de_int) (de_nil)))))) (de_nil)))))) (dw_or1 (dt_not (dt_val (de_call (ok_law_alike T 6) (hr.mono (by decide)) tk T.g24 T.F24.kp T.b24 (de_cons (de_c (pe_glob (v := .ref (ad 5)) rfl T.g5 rfl) T.r5) (de_cons (de_tup (de_cons (de_non) (de_cons (de_non) (de_cons (de_non) (de_nil))))) (de_nil)))))))))
    (ds_one (ds_ret (de_bl)))
    (ds_nil))
    (ds_cons (ds_for (fun _ => pin_nil) po rfl (pi_range1 rfl T.n_range (de_cons (de_int) de_nil)) (itSim_range1) (pg_name (i := 9) sc_law.nd rfl (by first | exact Or.inl rfl | exact Or.inr rfl)) (tgName_sim 9)
    (ds_one (ds_if (dt_not (dt_val (de_call (ok_law_alike T 6) (hr.mono (by decide)) tk T.g24 T.F24.kp T.b24 (de_cons (de_listRows T.ar (hr.mono (by decide)) T.n_list) (de_cons (de_v 8) (de_nil))))))
    (ds_one (ds_ret (de_bl)))
    (ds_nil))))
    (ds_cons (ds_if (dt_ne rfl hu (de_lc (own := [("_law_one", 10)]) sc_law.nd (pi_or (pi_list (de_v 8)) (pi_tup (de_v 8))) (itSim_seq rfl) (blkOk_by (N := ["_law_script", "_law_box_here", "_law_row_here", "_law_column", "_law_value", "_law_spoilt", "_law_word", "_law_rows_here", "_law_every_here", "_law_k", "_law_one", "_law_name", "_law_handed", "_law_told"]) (sc := defScope s_law) (by decide +kernel)) (tgName_sim 10) (tgName_own 10 (by decide)) (fun _ _ _ _ _ => pg_name (i := 10) sc_law.nd rfl (by first | exact Or.inl rfl | exact Or.inr rfl)) (fun _ _ _ _ _ => dts_one (dt_not (dt_val (de_call (ok_law_row_checked T) (hr.mono (by decide)) takesN0 T.g29 T.F29.kp T.b29 (de_cons (de_v 10) (de_cons (de_bl) (de_nil))))))) (fun _ _ _ _ _ => de_v 10)) (de_fro (de_nil)))
    (ds_one (ds_ret (de_bl)))
    (ds_nil))
    (ds_cons (ds_if (dt_w (dw_or (dt_not (dt_val (de_call (ok_law_row_checked T) (hr.mono (by decide)) tk T.g29 T.F29.kp T.b29 (de_cons (de_v 5) (de_cons (de_bl) (de_nil)))))) (dw_or (dt_not (dt_val (de_call (ok_law_row_checked T) (hr.mono (by decide)) tk T.g29 T.F29.kp T.b29 (de_cons (de_v 2) (de_cons (de_bl) (de_nil)))))) (dw_or1 (dt_not (dt_val (de_call (ok_law_name_checked T) (hr.mono (by decide)) tk T.g30 T.F30.kp T.b30 (de_cons (de_v 6) (de_nil)))))))))
    (ds_one (ds_ret (de_bl)))
    (ds_nil))
    (ds_cons (ds_if (dt_ne rfl hu (de_lc (own := [("_law_name", 11)]) sc_law.nd (pi_or (pi_list (de_fro (de_cons (de_str) (de_cons (de_str) (de_cons (de_str) (de_cons (de_str) (de_cons (de_str) (de_cons (de_str) (de_nil))))))))) (pi_tup (de_fro (de_cons (de_str) (de_cons (de_str) (de_cons (de_str) (de_cons (de_str) (de_cons (de_str) (de_cons (de_str) (de_nil)))))))))) (itSim_seq rfl) (blkOk_by (N := ["_law_script", "_law_box_here", "_law_row_here", "_law_column", "_law_value", "_law_spoilt", "_law_word", "_law_rows_here", "_law_every_here", "_law_k", "_law_one", "_law_name", "_law_handed", "_law_told"]) (sc := defScope s_law) (by decide +kernel)) (tgName_sim 11) (tgName_own 11 (by decide)) (fun _ _ _ _ _ => pg_name (i := 11) sc_law.nd rfl (by first | exact Or.inl rfl | exact Or.inr rfl)) (fun _ _ _ _ _ => dts_one (dt_not (dt_val (de_call (ok_law_name_checked T) (hr.mono (by decide)) takesN0 T.g30 T.F30.kp T.b30 (de_cons (de_v 11) (de_nil)))))) (fun _ _ _ _ _ => de_v 11)) (de_fro (de_nil)))
    (ds_one (ds_ret (de_bl)))
    (ds_nil))
    (ds_cons (ds_set (i := 12) sc_law.nd (de_listF (de_cons (de_v 7) (de_nil)) (hK := rfl) (hm := T.n_list)))
    (ds_cons (ds_set (i := 13) sc_law.nd (de_call (ok_sorted_rows T) (hr.mono (by decide)) tk T.g10 T.F10.kp T.b10 (de_cons (de_v 12) (de_nil))))
    (ds_cons (ds_if (dt_not (dt_val (de_call (ok_law_alike T 6) (hr.mono (by decide)) tk T.g24 T.F24.kp T.b24 (de_cons (de_v 13) (de_cons (de_call (ok_law_sorted T) (hr.mono (by decide)) tk T.g23 T.F23.kp T.b23 (de_cons (de_v 7) (de_nil))) (de_nil))))))
    (ds_one (ds_ret (de_bl)))
    (ds_nil))
    (ds_cons (ds_do (de_app (de_v 13) (de_v 2)))
    (ds_cons (ds_if (dt_w (dw_or (dt_not (dt_val (de_call (ok_law_alike T 6) (hr.mono (by decide)) tk T.g24 T.F24.kp T.b24 (de_cons (de_call (ok_sorted_rows T) (hr.mono (by decide)) tk T.g10 T.F10.kp T.b10 (de_cons (de_v 12) (de_nil))) (de_cons (de_call (ok_law_sorted T) (hr.mono (by decide)) tk T.g23 T.F23.kp T.b23 (de_cons (de_v 7) (de_nil))) (de_nil)))))) (dw_or1 (dt_not (dt_val (de_call (ok_law_alike T 6) (hr.mono (by decide)) tk T.g24 T.F24.kp T.b24 (de_cons (de_v 12) (de_cons (de_v 7) (de_nil)))))))))
    (ds_one (ds_ret (de_bl)))
    (ds_nil))
    (ds_cons (ds_if (dt_not (dt_val (de_call (ok_law_alike T 6) (hr.mono (by decide)) tk T.g24 T.F24.kp T.b24 (de_cons (de_call (ok_altered T) (hr.mono (by decide)) tk T.g12 T.F12.kp T.b12 (de_cons (de_v 2) (de_cons (de_v 3) (de_cons (de_v 4) (de_nil))))) (de_cons (de_add rfl (de_add rfl (de_sl rfl mkF_ok (de_v 2) (do_none) (do_some (de_v 3))) (de_tup (de_cons (de_v 4) (de_nil)))) (de_sl rfl mkF_ok (de_v 2) (do_some (de_add rfl (de_v 3) (de_int))) (do_none))) (de_nil))))))
    (ds_one (ds_ret (de_bl)))
    (ds_nil))
    (ds_one (ds_ret (de_call (ok_law_alike T 6) (hr.mono (by decide)) tk T.g24 T.F24.kp T.b24 (de_cons (de_call (ok_row_key T) (hr.mono (by decide)) tk T.g9 T.F9.kp T.b9 (de_cons (de_v 2) (de_nil))) (de_cons (de_call (ok_law_key T) (hr.mono (by decide)) tk T.g22 T.F22.kp T.b22 (de_cons (de_v 2) (de_nil))) (de_nil))))))))))))))))))))))))
end

end
end K01
namespace K01
open PySem L2 T2
theorem isib : IsiB isi := by constructor <;> rfl
theorem alike_is : m_law_alike 6 = alikeM isi 6 := rfl
theorem draw_is : m_law_draw = drawM := rfl
theorem pick_is : m_law_pick = pickM := rfl
theorem lrow_is : m_law_row = rowM := rfl
theorem box_is : m_law_box = boxM := rfl
theorem every_is : m_law_every = everyM := rfl
theorem check_is : m_check_row = checkRowM isi 3 := rfl
/-! ### keys and sorting -/
def vk (v : Vl) : Int := match v with
  | none => -1
  | some c => c.i
def keyD (w : Rw) : D := .tup [.int (vk w.x), .int (vk w.y), .int (vk w.z)]
def keyP (w : Rw) : PyData := .tuple [.int (vk w.x), .int (vk w.y), .int (vk w.z)]
theorem vkey_run {v : Vl} {M : MH} : m_value_key [Vl.d v] M = .ok (.int (vk v)) M := by rcases v with _ | _ | _ | _ <;> kernel_rfl
theorem rkey_run {w : Rw} {M : MH} : m_row_key [w.d] M = .ok (keyD w) M := by
  have e0 : dIxA w.d (.int 0) M = .ok (Vl.d w.x) M := ixT0
  have e1 : dIxA w.d (.int 1) M = .ok (Vl.d w.y) M := ixT1
  have e2 : dIxA w.d (.int 2) M = .ok (Vl.d w.z) M := ixT2
  unfold m_row_key b_row_key
  simp only [y_seq, y_seq_nx, y_seq_rt, y_seq_ex, y_seq_bk, y_seq_ct, y_if, y_if_t, y_if_f, y_if_x, y_set, y_set_ok, y_set_x, y_ret, y_ret_ok, y_ret_x, y_retN, y_do, y_do_ok, y_do_x, y_nil, y_raise0, y_raise_ok, y_toR_rt, y_toR_nx, y_toR_ex, y_fn, y_c, y_var, y_var_ok, y_un, y_un_ok, y_un_x, y_bin, y_bin_ok, y_bin_x, y_anil, y_cons, y_cons1, y_cons1x, y_cons2, y_cons2x, y_args, y_args_ok, y_args_x, y_tup, y_tup_ok, y_fro, y_fro_ok, y_lst, y_lst_ok, y_call, y_stat, y_call_ok, y_callk, y_callk1, y_callk2, y_mkF, y_mkF_ok, y_own1, y_own1_ok, y_prop, y_own2, y_val, y_val_ok, y_val_x, y_and, y_and_t, y_and_f, y_or, y_or_t, y_or_f, y_not, y_not_ok, y_yes, y_eand_t, y_eand_f, y_eor_t, y_eor_f, y_enot_ok, y_eif, y_eif_t, y_eif_f, y_for_v, y_iseq, y_iseq_t, y_iseq_f, y_iseq_r, y_rng, y_env0, y_try, y_try_nx, y_try_rt, y_try0, y_try0_nx, y_try0_rt, y_fv0, y_fv_nx, y_fv_ct, y_fv_rt, y_lc_v, y_step, y_step_ok, y_istr, y_istr_ok, y_eApp, y_eSl, y_ePopAt, y_eIns, y_eChain, y_eMake, y_eMeth, y_eMakeRK, y_eMakeK, y_eMakeD, y_eStar, y_eXFld, y_eXIsF, y_sPutF, y_sSetIx, y_sIncF, y_sUnp, y_sUnpL, y_sDelD, y_oNone, y_oSome, y_iRange2, y_iZip2, y_eDNew, y_eLenO, y_eOwnIn, y_eDGet1, y_eDGet2, y_eDPop2, y_sForItems, y_eCallRK, y_eCallR, y_eLenSet, y_bind_ok, y_bind_x, y_toS_ok, y_toS_x, z_raise, z_own2_ok, z_eand, z_eor, z_enot, z_rng_ok, z_for_l, o_add, o_sub, o_lt, o_le, o_gt, o_ge, o_neg, o_eqi, o_nei, o_is0, o_is1, o_is2, o_is3, o_is4, o_is5, o_is6, o_is7, o_nt0, o_nt1, o_nt2, o_nt3, o_nt4, o_nt5, o_nt6, o_ix0, o_ix1, o_ix2, o_ix3, o_ix4, o_ix5, o_fx0, o_fx1, o_fx2, o_fx3, o_fx4, o_lenT, o_lenF, o_asB, o_tupF, o_tupT, o_listF, o_listFT, o_listL, o_listLT, o_tg1, o_tg2, o_wipe1, o_wipe2, o_yes, o_slT, o_slF, o_putF, o_li, o_liF, o_lenR, o_tupR, o_lstFR, o_lstLR, o_try_x, o_try0_x, o_unb_rt, o_unb_nx, o_rev, o_mkF, o_mkL, z_env0, fcal1, fcal2, fcal3, fcal4, List.map_cons, List.map_nil, List.replicate, List.append_nil, Nat.reduceSub, List.cons_append, List.nil_append, List.length_cons, List.length_nil, Nat.reduceAdd, Nat.reduceLeDiff, List.getElem?_cons_zero, List.getElem?_cons_succ, List.set_cons_zero, List.set_cons_succ, Bool.not_true, Bool.not_false, decide_true, decide_false, ite_true, ite_false, reduceCtorEq, eq_self, and_self, true_and, and_true, false_and, and_false, Nat.reduceLT, Nat.reduceEqDiff, Nat.zero_add, Int.reduceLT, Int.ofNat_zero, Int.reduceGT, e0, e1, e2, vkey_run, keyD]
theorem pd_key {k : Nat} (w : Rw) : Pd (k + 2) (keyD w) := pd_3 pd_int pd_int pd_int
theorem lkey_run {w : Rw} {M : MH} : m_law_key [w.d] M = .ok (keyD w) M := by
  refine frzP_pd (k := 2) (G := [.lst [.int (vk w.x), .int (vk w.y), .int (vk w.z)]]) ?_ (pd_key w)
  obtain ⟨x, y, z⟩ := w
  have hs : ∀ (v : Vl) e (M : MH), eIf (bVal (eBin dIs (eVar 1) (eC .non))) (eUn dNeg (eC (.int 1))) (eVar 1) [e, some (Vl.d v)] M = .ok (.int (vk v)) M := fun v e M => by
    rcases v with _ | _ | _ | _ <;> rfl
  have hl := lc_ifm (it := iSeq (eVar 0)) (i := 1) (tt := bYes) (m := eIf (bVal (eBin dIs (eVar 1) (eC .non))) (eUn dNeg (eC (.int 1))) (eVar 1)) (vs := [1]) (e := [some (Rw.d ⟨x, y, z⟩), none]) (M := M) (f := Vl.d) (p := fun _ => true) (g := fun v => .int (vk v)) (xs := [x, y, z]) rfl
    (fun x _ acc => rfl) (fun x hx _ acc => hs x _ _) (by simp)
  rw [List.filter_eq_self.mpr (fun _ _ => rfl)] at hl
  simp only [List.map_cons, List.map_nil] at hl
  unfold b_law_key
  simp only [y_seq, y_seq_nx, y_seq_rt, y_seq_ex, y_seq_bk, y_seq_ct, y_if, y_if_t, y_if_f, y_if_x, y_set, y_set_ok, y_set_x, y_ret, y_ret_ok, y_ret_x, y_retN, y_do, y_do_ok, y_do_x, y_nil, y_raise0, y_raise_ok, y_toR_rt, y_toR_nx, y_toR_ex, y_fn, y_c, y_var, y_var_ok, y_un, y_un_ok, y_un_x, y_bin, y_bin_ok, y_bin_x, y_anil, y_cons, y_cons1, y_cons1x, y_cons2, y_cons2x, y_args, y_args_ok, y_args_x, y_tup, y_tup_ok, y_fro, y_fro_ok, y_lst, y_lst_ok, y_call, y_stat, y_call_ok, y_callk, y_callk1, y_callk2, y_mkF, y_mkF_ok, y_own1, y_own1_ok, y_prop, y_own2, y_val, y_val_ok, y_val_x, y_and, y_and_t, y_and_f, y_or, y_or_t, y_or_f, y_not, y_not_ok, y_yes, y_eand_t, y_eand_f, y_eor_t, y_eor_f, y_enot_ok, y_eif, y_eif_t, y_eif_f, y_for_v, y_iseq, y_iseq_t, y_iseq_f, y_iseq_r, y_rng, y_env0, y_try, y_try_nx, y_try_rt, y_try0, y_try0_nx, y_try0_rt, y_fv0, y_fv_nx, y_fv_ct, y_fv_rt, y_lc_v, y_step, y_step_ok, y_istr, y_istr_ok, y_eApp, y_eSl, y_ePopAt, y_eIns, y_eChain, y_eMake, y_eMeth, y_eMakeRK, y_eMakeK, y_eMakeD, y_eStar, y_eXFld, y_eXIsF, y_sPutF, y_sSetIx, y_sIncF, y_sUnp, y_sUnpL, y_sDelD, y_oNone, y_oSome, y_iRange2, y_iZip2, y_eDNew, y_eLenO, y_eOwnIn, y_eDGet1, y_eDGet2, y_eDPop2, y_sForItems, y_eCallRK, y_eCallR, y_eLenSet, y_bind_ok, y_bind_x, y_toS_ok, y_toS_x, z_raise, z_own2_ok, z_eand, z_eor, z_enot, z_rng_ok, z_for_l, o_add, o_sub, o_lt, o_le, o_gt, o_ge, o_neg, o_eqi, o_nei, o_is0, o_is1, o_is2, o_is3, o_is4, o_is5, o_is6, o_is7, o_nt0, o_nt1, o_nt2, o_nt3, o_nt4, o_nt5, o_nt6, o_ix0, o_ix1, o_ix2, o_ix3, o_ix4, o_ix5, o_fx0, o_fx1, o_fx2, o_fx3, o_fx4, o_lenT, o_lenF, o_asB, o_tupF, o_tupT, o_listF, o_listFT, o_listL, o_listLT, o_tg1, o_tg2, o_wipe1, o_wipe2, o_yes, o_slT, o_slF, o_putF, o_li, o_liF, o_lenR, o_tupR, o_lstFR, o_lstLR, o_try_x, o_try0_x, o_unb_rt, o_unb_nx, o_rev, o_mkF, o_mkL, z_env0, fcal1, fcal2, fcal3, fcal4, List.map_cons, List.map_nil, List.replicate, List.append_nil, Nat.reduceSub, List.cons_append, List.nil_append, List.length_cons, List.length_nil, Nat.reduceAdd, Nat.reduceLeDiff, List.getElem?_cons_zero, List.getElem?_cons_succ, List.set_cons_zero, List.set_cons_succ, Bool.not_true, Bool.not_false, decide_true, decide_false, ite_true, ite_false, reduceCtorEq, eq_self, and_self, true_and, and_true, false_and, and_false, Nat.reduceLT, Nat.reduceEqDiff, Nat.zero_add, Int.reduceLT, Int.ofNat_zero, Int.reduceGT, g_0, g_1, g_2, g_3, g_4, s_0, s_1, s_2, s_3, s_4, g_5, s_5, g_6, s_6, g_7, s_7, g_8, s_8, List.append_assoc, List.length_append, hl, keyD]
theorem keysL_run {m : List D → MH → Res D} (h : ∀ w M, m [Rw.d w] M = .ok (keyD w) M) : ∀ (ws : List Rw) (M : MH), keysL m (ws.map Rw.d) M = .ok (ws.map keyD) M
  | [], M => rfl
  | w :: ws, M => by rw [List.map_cons, keysL, h, Res.bind_ok, keysL_run h ws M, Res.bind_ok]; rfl
theorem toPs_keys {M : MH} : ∀ ws : List Rw, toPs M 4 (ws.map keyD) = some (ws.map keyP)
  | [] => by unfold toPs; rw [List.map_nil, toPas]; rfl
  | w :: ws => by
    rw [List.map_cons, toPs_cons, toPs_keys ws]
    rfl
theorem keys_ok (ws : List Rw) : keysOk (ws.map keyP) = true := by
  unfold keysOk alikeKB
  simp only [Bool.and_eq_true, Bool.or_eq_true, List.all_eq_true]
  refine ⟨⟨fun a ha b hb => ?_, .inl fun a ha => ?_⟩, fun a ha => ?_⟩
  · obtain ⟨u, _, rfl⟩ := List.mem_map.mp ha
    obtain ⟨v, _, rfl⟩ := List.mem_map.mp hb
    rfl
  · obtain ⟨u, _, rfl⟩ := List.mem_map.mp ha
    rfl
  · obtain ⟨u, _, rfl⟩ := List.mem_map.mp ha
    exact decide_eq_true (by show PyData.depth (keyP u) ≤ 60; exact (by decide : PyData.depth (.tuple [.int 0, .int 0, .int 0]) ≤ 60))
def srt (ws : List Rw) : List D := sortV (ws.map keyP) (ws.map Rw.d)
theorem srt_mem {ws : List Rw} {a : D} (h : a ∈ srt ws) : ∃ w : Rw, a = w.d := by
  unfold srt sortV at h
  obtain ⟨t, ht, rfl⟩ := List.mem_map.mp h
  have := List.mem_mergeSort.mp ht
  obtain ⟨w, _, e⟩ := List.mem_map.mp (List.of_mem_zip this).2
  exact ⟨w, e.symm⟩
theorem srt_len {ws : List Rw} : (srt ws).length = ws.length := by
  unfold srt sortV
  rw [List.length_map, List.length_mergeSort, List.length_zip, List.length_map, List.length_map, Nat.min_self]
theorem sort_run {mk m : List D → MH → Res D} (h : ∀ w M, m [Rw.d w] M = .ok (keyD w) M) {ws : List Rw} {x : D} {M : MH} (hx : listItems M x = some (ws.map Rw.d)) (hl : ws.length ≤ 100) : dSortK mk m x M = mk (srt ws) M := by
  unfold dSortK
  rw [hx]
  dsimp only
  rw [if_pos (by rw [List.length_map]; unfold big; omega), keysL_run h]
  dsimp only
  rw [toPs_keys]
  dsimp only
  rw [if_pos (keys_ok ws)]
  rfl
theorem sorted_run {ws : List Rw} {M : MH} (hl : ws.length ≤ 100) : m_sorted_rows [.fro (ws.map Rw.d)] M = .ok (.ref M.length) (M ++ [.lst (srt ws)]) := by
  have := sort_run (mk := mkL) (fun w M => rkey_run (w := w) (M := M)) (x := .fro (ws.map Rw.d)) (M := M) rfl hl
  unfold m_sorted_rows b_sorted_rows
  have h2 : mkL (srt ws) M = .ok (.ref M.length) (M ++ [.lst (srt ws)]) := by
    unfold mkL
    rfl
  simp only [y_seq, y_seq_nx, y_seq_rt, y_seq_ex, y_seq_bk, y_seq_ct, y_if, y_if_t, y_if_f, y_if_x, y_set, y_set_ok, y_set_x, y_ret, y_ret_ok, y_ret_x, y_retN, y_do, y_do_ok, y_do_x, y_nil, y_raise0, y_raise_ok, y_toR_rt, y_toR_nx, y_toR_ex, y_fn, y_c, y_var, y_var_ok, y_un, y_un_ok, y_un_x, y_bin, y_bin_ok, y_bin_x, y_anil, y_cons, y_cons1, y_cons1x, y_cons2, y_cons2x, y_args, y_args_ok, y_args_x, y_tup, y_tup_ok, y_fro, y_fro_ok, y_lst, y_lst_ok, y_call, y_stat, y_call_ok, y_callk, y_callk1, y_callk2, y_mkF, y_mkF_ok, y_own1, y_own1_ok, y_prop, y_own2, y_val, y_val_ok, y_val_x, y_and, y_and_t, y_and_f, y_or, y_or_t, y_or_f, y_not, y_not_ok, y_yes, y_eand_t, y_eand_f, y_eor_t, y_eor_f, y_enot_ok, y_eif, y_eif_t, y_eif_f, y_for_v, y_iseq, y_iseq_t, y_iseq_f, y_iseq_r, y_rng, y_env0, y_try, y_try_nx, y_try_rt, y_try0, y_try0_nx, y_try0_rt, y_fv0, y_fv_nx, y_fv_ct, y_fv_rt, y_lc_v, y_step, y_step_ok, y_istr, y_istr_ok, y_eApp, y_eSl, y_ePopAt, y_eIns, y_eChain, y_eMake, y_eMeth, y_eMakeRK, y_eMakeK, y_eMakeD, y_eStar, y_eXFld, y_eXIsF, y_sPutF, y_sSetIx, y_sIncF, y_sUnp, y_sUnpL, y_sDelD, y_oNone, y_oSome, y_iRange2, y_iZip2, y_eDNew, y_eLenO, y_eOwnIn, y_eDGet1, y_eDGet2, y_eDPop2, y_sForItems, y_eCallRK, y_eCallR, y_eLenSet, y_bind_ok, y_bind_x, y_toS_ok, y_toS_x, z_raise, z_own2_ok, z_eand, z_eor, z_enot, z_rng_ok, z_for_l, o_add, o_sub, o_lt, o_le, o_gt, o_ge, o_neg, o_eqi, o_nei, o_is0, o_is1, o_is2, o_is3, o_is4, o_is5, o_is6, o_is7, o_nt0, o_nt1, o_nt2, o_nt3, o_nt4, o_nt5, o_nt6, o_ix0, o_ix1, o_ix2, o_ix3, o_ix4, o_ix5, o_fx0, o_fx1, o_fx2, o_fx3, o_fx4, o_lenT, o_lenF, o_asB, o_tupF, o_tupT, o_listF, o_listFT, o_listL, o_listLT, o_tg1, o_tg2, o_wipe1, o_wipe2, o_yes, o_slT, o_slF, o_putF, o_li, o_liF, o_lenR, o_tupR, o_lstFR, o_lstLR, o_try_x, o_try0_x, o_unb_rt, o_unb_nx, o_rev, o_mkF, o_mkL, z_env0, fcal1, fcal2, fcal3, fcal4, List.map_cons, List.map_nil, List.replicate, List.append_nil, Nat.reduceSub, List.cons_append, List.nil_append, List.length_cons, List.length_nil, Nat.reduceAdd, Nat.reduceLeDiff, List.getElem?_cons_zero, List.getElem?_cons_succ, List.set_cons_zero, List.set_cons_succ, Bool.not_true, Bool.not_false, decide_true, decide_false, ite_true, ite_false, reduceCtorEq, eq_self, and_self, true_and, and_true, false_and, and_false, Nat.reduceLT, Nat.reduceEqDiff, Nat.zero_add, Int.reduceLT, Int.ofNat_zero, Int.reduceGT, this, h2]
theorem lsorted_run {ws : List Rw} {M : MH} (hl : ws.length ≤ 100) : m_law_sorted [.fro (ws.map Rw.d)] M = .ok (.fro (srt ws)) M := by
  have := sort_run (mk := mkF) (fun w M => lkey_run (w := w) (M := M)) (x := .fro (ws.map Rw.d)) (M := M) rfl hl
  unfold m_law_sorted b_law_sorted
  have h2 : mkF (srt ws) M = .ok (.fro (srt ws)) M := by
    unfold mkF
    rfl
  simp only [y_seq, y_seq_nx, y_seq_rt, y_seq_ex, y_seq_bk, y_seq_ct, y_if, y_if_t, y_if_f, y_if_x, y_set, y_set_ok, y_set_x, y_ret, y_ret_ok, y_ret_x, y_retN, y_do, y_do_ok, y_do_x, y_nil, y_raise0, y_raise_ok, y_toR_rt, y_toR_nx, y_toR_ex, y_fn, y_c, y_var, y_var_ok, y_un, y_un_ok, y_un_x, y_bin, y_bin_ok, y_bin_x, y_anil, y_cons, y_cons1, y_cons1x, y_cons2, y_cons2x, y_args, y_args_ok, y_args_x, y_tup, y_tup_ok, y_fro, y_fro_ok, y_lst, y_lst_ok, y_call, y_stat, y_call_ok, y_callk, y_callk1, y_callk2, y_mkF, y_mkF_ok, y_own1, y_own1_ok, y_prop, y_own2, y_val, y_val_ok, y_val_x, y_and, y_and_t, y_and_f, y_or, y_or_t, y_or_f, y_not, y_not_ok, y_yes, y_eand_t, y_eand_f, y_eor_t, y_eor_f, y_enot_ok, y_eif, y_eif_t, y_eif_f, y_for_v, y_iseq, y_iseq_t, y_iseq_f, y_iseq_r, y_rng, y_env0, y_try, y_try_nx, y_try_rt, y_try0, y_try0_nx, y_try0_rt, y_fv0, y_fv_nx, y_fv_ct, y_fv_rt, y_lc_v, y_step, y_step_ok, y_istr, y_istr_ok, y_eApp, y_eSl, y_ePopAt, y_eIns, y_eChain, y_eMake, y_eMeth, y_eMakeRK, y_eMakeK, y_eMakeD, y_eStar, y_eXFld, y_eXIsF, y_sPutF, y_sSetIx, y_sIncF, y_sUnp, y_sUnpL, y_sDelD, y_oNone, y_oSome, y_iRange2, y_iZip2, y_eDNew, y_eLenO, y_eOwnIn, y_eDGet1, y_eDGet2, y_eDPop2, y_sForItems, y_eCallRK, y_eCallR, y_eLenSet, y_bind_ok, y_bind_x, y_toS_ok, y_toS_x, z_raise, z_own2_ok, z_eand, z_eor, z_enot, z_rng_ok, z_for_l, o_add, o_sub, o_lt, o_le, o_gt, o_ge, o_neg, o_eqi, o_nei, o_is0, o_is1, o_is2, o_is3, o_is4, o_is5, o_is6, o_is7, o_nt0, o_nt1, o_nt2, o_nt3, o_nt4, o_nt5, o_nt6, o_ix0, o_ix1, o_ix2, o_ix3, o_ix4, o_ix5, o_fx0, o_fx1, o_fx2, o_fx3, o_fx4, o_lenT, o_lenF, o_asB, o_tupF, o_tupT, o_listF, o_listFT, o_listL, o_listLT, o_tg1, o_tg2, o_wipe1, o_wipe2, o_yes, o_slT, o_slF, o_putF, o_li, o_liF, o_lenR, o_tupR, o_lstFR, o_lstLR, o_try_x, o_try0_x, o_unb_rt, o_unb_nx, o_rev, o_mkF, o_mkL, z_env0, fcal1, fcal2, fcal3, fcal4, List.map_cons, List.map_nil, List.replicate, List.append_nil, Nat.reduceSub, List.cons_append, List.nil_append, List.length_cons, List.length_nil, Nat.reduceAdd, Nat.reduceLeDiff, List.getElem?_cons_zero, List.getElem?_cons_succ, List.set_cons_zero, List.set_cons_succ, Bool.not_true, Bool.not_false, decide_true, decide_false, ite_true, ite_false, reduceCtorEq, eq_self, and_self, true_and, and_true, false_and, and_false, Nat.reduceLT, Nat.reduceEqDiff, Nat.zero_add, Int.reduceLT, Int.ofNat_zero, Int.reduceGT, this, h2]
theorem alike_srt {ws : List Rw} {M : MH} {n : Nat} (hl : ws.length ≤ 100) (h : M[n]? = some (.lst (srt ws))) : alikeM isi 6 [.ref n, .fro (srt ws)] M = .ok (.bl true) M :=
  alike_same isib 6 _ _ (same_list (k := 5) (xs := srt ws) (by unfold listItems; dsimp only; rw [h]) rfl (by rw [srt_len]; omega) fun a ha => by
    obtain ⟨w, rfl⟩ := srt_mem ha
    exact (pd_row (k := 0) w).mono (by decide))
theorem alike_rws {ws : List Rw} {M : MH} (hl : ws.length ≤ 100) : alikeM isi 6 [.fro (ws.map Rw.d), .fro (ws.map Rw.d)] M = .ok (.bl true) M :=
  alike_same isib 6 _ _ (same_list (k := 5) (xs := ws.map Rw.d) rfl rfl (by rw [List.length_map]; omega) fun a ha => by
    obtain ⟨w, _, rfl⟩ := List.mem_map.mp ha
    exact (pd_row (k := 0) w).mono (by decide))
theorem alike_all {M : MH} {n : Nat} (h : M[n]? = some (.lst rowsD)) : alikeM isi 6 [.ref n, .fro rowsD] M = .ok (.bl true) M :=
  alike_same isib 6 _ _ (same_list (k := 5) (xs := rowsD) (by unfold listItems; dsimp only; rw [h]) rfl (by rw [rowsD_len]; decide) fun a ha => by
    rw [rowsD_R] at ha
    obtain ⟨w, _, rfl⟩ := List.mem_map.mp ha
    exact (pd_row (k := 0) w).mono (by decide))
/-! ### names -/
theorem isname_run {z : Str} {M : MH} (hz : z.length ≤ 1000) : m_is_name [.str z] M = .ok (.bl (nameOkB z)) M := by
  obtain ⟨G, e⟩ := name_run (M := M) isib (z := z) (by unfold big; omega)
  exact frzP_pd (k := 1) (G := G) e (.inr (.inl ⟨_, rfl⟩))
theorem lisname_run {z : Str} {M : MH} (hz : z.length ≤ 1000) (hs : PyData.strOk z = true) : m_law_is_name [.str z] M = .ok (.bl (nameOkB z)) M := by
  obtain ⟨G, e⟩ := lawName_run (M := M) (z := z) (by unfold big; omega) hs
  exact frzP_pd (k := 1) (G := G) e (.inr (.inl ⟨_, rfl⟩))
theorem cname_run {z : Str} {M : MH} (hz : z.length ≤ 1000) (hs : PyData.strOk z = true) : m_check_name [.str z] M = if nameOkB z = true then .ok .non M else .exc 1 ["name"] [.str z] M := by
  have h1 := isname_run (M := M) hz
  have x1 : xv_InvalidName [.str z] = [.str z] := rfl
  cases hn : nameOkB z with
  | true =>
    rw [hn] at h1
    refine frzP_pd (k := 1) (G := []) ?_ (.inl rfl)
    unfold b_check_name
    simp only [y_seq, y_seq_nx, y_seq_rt, y_seq_ex, y_seq_bk, y_seq_ct, y_if, y_if_t, y_if_f, y_if_x, y_set, y_set_ok, y_set_x, y_ret, y_ret_ok, y_ret_x, y_retN, y_do, y_do_ok, y_do_x, y_nil, y_raise0, y_raise_ok, y_toR_rt, y_toR_nx, y_toR_ex, y_fn, y_c, y_var, y_var_ok, y_un, y_un_ok, y_un_x, y_bin, y_bin_ok, y_bin_x, y_anil, y_cons, y_cons1, y_cons1x, y_cons2, y_cons2x, y_args, y_args_ok, y_args_x, y_tup, y_tup_ok, y_fro, y_fro_ok, y_lst, y_lst_ok, y_call, y_stat, y_call_ok, y_callk, y_callk1, y_callk2, y_mkF, y_mkF_ok, y_own1, y_own1_ok, y_prop, y_own2, y_val, y_val_ok, y_val_x, y_and, y_and_t, y_and_f, y_or, y_or_t, y_or_f, y_not, y_not_ok, y_yes, y_eand_t, y_eand_f, y_eor_t, y_eor_f, y_enot_ok, y_eif, y_eif_t, y_eif_f, y_for_v, y_iseq, y_iseq_t, y_iseq_f, y_iseq_r, y_rng, y_env0, y_try, y_try_nx, y_try_rt, y_try0, y_try0_nx, y_try0_rt, y_fv0, y_fv_nx, y_fv_ct, y_fv_rt, y_lc_v, y_step, y_step_ok, y_istr, y_istr_ok, y_eApp, y_eSl, y_ePopAt, y_eIns, y_eChain, y_eMake, y_eMeth, y_eMakeRK, y_eMakeK, y_eMakeD, y_eStar, y_eXFld, y_eXIsF, y_sPutF, y_sSetIx, y_sIncF, y_sUnp, y_sUnpL, y_sDelD, y_oNone, y_oSome, y_iRange2, y_iZip2, y_eDNew, y_eLenO, y_eOwnIn, y_eDGet1, y_eDGet2, y_eDPop2, y_sForItems, y_eCallRK, y_eCallR, y_eLenSet, y_bind_ok, y_bind_x, y_toS_ok, y_toS_x, z_raise, z_own2_ok, z_eand, z_eor, z_enot, z_rng_ok, z_for_l, o_add, o_sub, o_lt, o_le, o_gt, o_ge, o_neg, o_eqi, o_nei, o_is0, o_is1, o_is2, o_is3, o_is4, o_is5, o_is6, o_is7, o_nt0, o_nt1, o_nt2, o_nt3, o_nt4, o_nt5, o_nt6, o_ix0, o_ix1, o_ix2, o_ix3, o_ix4, o_ix5, o_fx0, o_fx1, o_fx2, o_fx3, o_fx4, o_lenT, o_lenF, o_asB, o_tupF, o_tupT, o_listF, o_listFT, o_listL, o_listLT, o_tg1, o_tg2, o_wipe1, o_wipe2, o_yes, o_slT, o_slF, o_putF, o_li, o_liF, o_lenR, o_tupR, o_lstFR, o_lstLR, o_try_x, o_try0_x, o_unb_rt, o_unb_nx, o_rev, o_mkF, o_mkL, z_env0, fcal1, fcal2, fcal3, fcal4, List.map_cons, List.map_nil, List.replicate, List.append_nil, Nat.reduceSub, List.cons_append, List.nil_append, List.length_cons, List.length_nil, Nat.reduceAdd, Nat.reduceLeDiff, List.getElem?_cons_zero, List.getElem?_cons_succ, List.set_cons_zero, List.set_cons_succ, Bool.not_true, Bool.not_false, decide_true, decide_false, ite_true, ite_false, reduceCtorEq, eq_self, and_self, true_and, and_true, false_and, and_false, Nat.reduceLT, Nat.reduceEqDiff, Nat.zero_add, Int.reduceLT, Int.ofNat_zero, Int.reduceGT, h1, Bool.false_eq_true]
  | false =>
    rw [hn] at h1
    rw [if_neg (by simp)]
    refine frzP_xpd (k := 1) (G := []) ?_ (fun x hx => by rw [List.mem_singleton.mp hx]; exact pd_str hs)
    unfold b_check_name
    simp only [y_seq, y_seq_nx, y_seq_rt, y_seq_ex, y_seq_bk, y_seq_ct, y_if, y_if_t, y_if_f, y_if_x, y_set, y_set_ok, y_set_x, y_ret, y_ret_ok, y_ret_x, y_retN, y_do, y_do_ok, y_do_x, y_nil, y_raise0, y_raise_ok, y_toR_rt, y_toR_nx, y_toR_ex, y_fn, y_c, y_var, y_var_ok, y_un, y_un_ok, y_un_x, y_bin, y_bin_ok, y_bin_x, y_anil, y_cons, y_cons1, y_cons1x, y_cons2, y_cons2x, y_args, y_args_ok, y_args_x, y_tup, y_tup_ok, y_fro, y_fro_ok, y_lst, y_lst_ok, y_call, y_stat, y_call_ok, y_callk, y_callk1, y_callk2, y_mkF, y_mkF_ok, y_own1, y_own1_ok, y_prop, y_own2, y_val, y_val_ok, y_val_x, y_and, y_and_t, y_and_f, y_or, y_or_t, y_or_f, y_not, y_not_ok, y_yes, y_eand_t, y_eand_f, y_eor_t, y_eor_f, y_enot_ok, y_eif, y_eif_t, y_eif_f, y_for_v, y_iseq, y_iseq_t, y_iseq_f, y_iseq_r, y_rng, y_env0, y_try, y_try_nx, y_try_rt, y_try0, y_try0_nx, y_try0_rt, y_fv0, y_fv_nx, y_fv_ct, y_fv_rt, y_lc_v, y_step, y_step_ok, y_istr, y_istr_ok, y_eApp, y_eSl, y_ePopAt, y_eIns, y_eChain, y_eMake, y_eMeth, y_eMakeRK, y_eMakeK, y_eMakeD, y_eStar, y_eXFld, y_eXIsF, y_sPutF, y_sSetIx, y_sIncF, y_sUnp, y_sUnpL, y_sDelD, y_oNone, y_oSome, y_iRange2, y_iZip2, y_eDNew, y_eLenO, y_eOwnIn, y_eDGet1, y_eDGet2, y_eDPop2, y_sForItems, y_eCallRK, y_eCallR, y_eLenSet, y_bind_ok, y_bind_x, y_toS_ok, y_toS_x, z_raise, z_own2_ok, z_eand, z_eor, z_enot, z_rng_ok, z_for_l, o_add, o_sub, o_lt, o_le, o_gt, o_ge, o_neg, o_eqi, o_nei, o_is0, o_is1, o_is2, o_is3, o_is4, o_is5, o_is6, o_is7, o_nt0, o_nt1, o_nt2, o_nt3, o_nt4, o_nt5, o_nt6, o_ix0, o_ix1, o_ix2, o_ix3, o_ix4, o_ix5, o_fx0, o_fx1, o_fx2, o_fx3, o_fx4, o_lenT, o_lenF, o_asB, o_tupF, o_tupT, o_listF, o_listFT, o_listL, o_listLT, o_tg1, o_tg2, o_wipe1, o_wipe2, o_yes, o_slT, o_slF, o_putF, o_li, o_liF, o_lenR, o_tupR, o_lstFR, o_lstLR, o_try_x, o_try0_x, o_unb_rt, o_unb_nx, o_rev, o_mkF, o_mkL, z_env0, fcal1, fcal2, fcal3, fcal4, List.map_cons, List.map_nil, List.replicate, List.append_nil, Nat.reduceSub, List.cons_append, List.nil_append, List.length_cons, List.length_nil, Nat.reduceAdd, Nat.reduceLeDiff, List.getElem?_cons_zero, List.getElem?_cons_succ, List.set_cons_zero, List.set_cons_succ, Bool.not_true, Bool.not_false, decide_true, decide_false, ite_true, ite_false, reduceCtorEq, eq_self, and_self, true_and, and_true, false_and, and_false, Nat.reduceLT, Nat.reduceEqDiff, Nat.zero_add, Int.reduceLT, Int.ofNat_zero, Int.reduceGT, h1, x1]
theorem ncheck_run {z : Str} {M : MH} (hz : z.length ≤ 1000) (hs : PyData.strOk z = true) : m_law_name_checked [.str z] M = .ok (.bl true) M := by
  refine frzP_pd (k := 1) (G := []) ?_ (.inr (.inl ⟨_, rfl⟩))
  rw [List.append_nil]
  have h1 := lisname_run (M := M) hz hs
  have h2 := isname_run (M := M) hz
  have h3 := cname_run (M := M) hz hs
  have a1 : ∀ b M, m_law_alike 6 [.bl b, .bl b] M = .ok (.bl true) M := fun b M => alike_same isib 6 _ _ (same_pd (.inr (.inl ⟨_, rfl⟩)))
  have a2 : ∀ M, m_law_alike 6 [.str z, .str z] M = .ok (.bl true) M := fun M => alike_same isib 6 _ _ (same_pd (pd_str hs))
  have c1 : ct_BookError 1 = some true := rfl
  have c2 : xis_InvalidName 1 = some true := rfl
  have c3 : xis_InvalidRow 1 = some false := rfl
  have c4 : xf_name 1 = true := rfl
  have f1 : ∀ x, fieldOf "name" ["name"] [x] = some x := fun _ => rfl
  unfold b_law_name_checked
  cases hn : nameOkB z with
  | true =>
    rw [hn] at h1 h2 h3
    rw [if_pos rfl] at h3
    simp only [y_seq, y_seq_nx, y_seq_rt, y_seq_ex, y_seq_bk, y_seq_ct, y_if, y_if_t, y_if_f, y_if_x, y_set, y_set_ok, y_set_x, y_ret, y_ret_ok, y_ret_x, y_retN, y_do, y_do_ok, y_do_x, y_nil, y_raise0, y_raise_ok, y_toR_rt, y_toR_nx, y_toR_ex, y_fn, y_c, y_var, y_var_ok, y_un, y_un_ok, y_un_x, y_bin, y_bin_ok, y_bin_x, y_anil, y_cons, y_cons1, y_cons1x, y_cons2, y_cons2x, y_args, y_args_ok, y_args_x, y_tup, y_tup_ok, y_fro, y_fro_ok, y_lst, y_lst_ok, y_call, y_stat, y_call_ok, y_callk, y_callk1, y_callk2, y_mkF, y_mkF_ok, y_own1, y_own1_ok, y_prop, y_own2, y_val, y_val_ok, y_val_x, y_and, y_and_t, y_and_f, y_or, y_or_t, y_or_f, y_not, y_not_ok, y_yes, y_eand_t, y_eand_f, y_eor_t, y_eor_f, y_enot_ok, y_eif, y_eif_t, y_eif_f, y_for_v, y_iseq, y_iseq_t, y_iseq_f, y_iseq_r, y_rng, y_env0, y_try, y_try_nx, y_try_rt, y_try0, y_try0_nx, y_try0_rt, y_fv0, y_fv_nx, y_fv_ct, y_fv_rt, y_lc_v, y_step, y_step_ok, y_istr, y_istr_ok, y_eApp, y_eSl, y_ePopAt, y_eIns, y_eChain, y_eMake, y_eMeth, y_eMakeRK, y_eMakeK, y_eMakeD, y_eStar, y_eXFld, y_eXIsF, y_sPutF, y_sSetIx, y_sIncF, y_sUnp, y_sUnpL, y_sDelD, y_oNone, y_oSome, y_iRange2, y_iZip2, y_eDNew, y_eLenO, y_eOwnIn, y_eDGet1, y_eDGet2, y_eDPop2, y_sForItems, y_eCallRK, y_eCallR, y_eLenSet, y_bind_ok, y_bind_x, y_toS_ok, y_toS_x, z_raise, z_own2_ok, z_eand, z_eor, z_enot, z_rng_ok, z_for_l, o_add, o_sub, o_lt, o_le, o_gt, o_ge, o_neg, o_eqi, o_nei, o_is0, o_is1, o_is2, o_is3, o_is4, o_is5, o_is6, o_is7, o_nt0, o_nt1, o_nt2, o_nt3, o_nt4, o_nt5, o_nt6, o_ix0, o_ix1, o_ix2, o_ix3, o_ix4, o_ix5, o_fx0, o_fx1, o_fx2, o_fx3, o_fx4, o_lenT, o_lenF, o_asB, o_tupF, o_tupT, o_listF, o_listFT, o_listL, o_listLT, o_tg1, o_tg2, o_wipe1, o_wipe2, o_yes, o_slT, o_slF, o_putF, o_li, o_liF, o_lenR, o_tupR, o_lstFR, o_lstLR, o_try_x, o_try0_x, o_unb_rt, o_unb_nx, o_rev, o_mkF, o_mkL, z_env0, fcal1, fcal2, fcal3, fcal4, List.map_cons, List.map_nil, List.replicate, List.append_nil, Nat.reduceSub, List.cons_append, List.nil_append, List.length_cons, List.length_nil, Nat.reduceAdd, Nat.reduceLeDiff, List.getElem?_cons_zero, List.getElem?_cons_succ, List.set_cons_zero, List.set_cons_succ, Bool.not_true, Bool.not_false, decide_true, decide_false, ite_true, ite_false, reduceCtorEq, eq_self, and_self, true_and, and_true, false_and, and_false, Nat.reduceLT, Nat.reduceEqDiff, Nat.zero_add, Int.reduceLT, Int.ofNat_zero, Int.reduceGT, h1, h2, h3, a1, Bool.false_eq_true]
  | false =>
    rw [hn] at h1 h2 h3
    rw [if_neg (by simp)] at h3
    simp only [y_seq, y_seq_nx, y_seq_rt, y_seq_ex, y_seq_bk, y_seq_ct, y_if, y_if_t, y_if_f, y_if_x, y_set, y_set_ok, y_set_x, y_ret, y_ret_ok, y_ret_x, y_retN, y_do, y_do_ok, y_do_x, y_nil, y_raise0, y_raise_ok, y_toR_rt, y_toR_nx, y_toR_ex, y_fn, y_c, y_var, y_var_ok, y_un, y_un_ok, y_un_x, y_bin, y_bin_ok, y_bin_x, y_anil, y_cons, y_cons1, y_cons1x, y_cons2, y_cons2x, y_args, y_args_ok, y_args_x, y_tup, y_tup_ok, y_fro, y_fro_ok, y_lst, y_lst_ok, y_call, y_stat, y_call_ok, y_callk, y_callk1, y_callk2, y_mkF, y_mkF_ok, y_own1, y_own1_ok, y_prop, y_own2, y_val, y_val_ok, y_val_x, y_and, y_and_t, y_and_f, y_or, y_or_t, y_or_f, y_not, y_not_ok, y_yes, y_eand_t, y_eand_f, y_eor_t, y_eor_f, y_enot_ok, y_eif, y_eif_t, y_eif_f, y_for_v, y_iseq, y_iseq_t, y_iseq_f, y_iseq_r, y_rng, y_env0, y_try, y_try_nx, y_try_rt, y_try0, y_try0_nx, y_try0_rt, y_fv0, y_fv_nx, y_fv_ct, y_fv_rt, y_lc_v, y_step, y_step_ok, y_istr, y_istr_ok, y_eApp, y_eSl, y_ePopAt, y_eIns, y_eChain, y_eMake, y_eMeth, y_eMakeRK, y_eMakeK, y_eMakeD, y_eStar, y_eXFld, y_eXIsF, y_sPutF, y_sSetIx, y_sIncF, y_sUnp, y_sUnpL, y_sDelD, y_oNone, y_oSome, y_iRange2, y_iZip2, y_eDNew, y_eLenO, y_eOwnIn, y_eDGet1, y_eDGet2, y_eDPop2, y_sForItems, y_eCallRK, y_eCallR, y_eLenSet, y_bind_ok, y_bind_x, y_toS_ok, y_toS_x, z_raise, z_own2_ok, z_eand, z_eor, z_enot, z_rng_ok, z_for_l, o_add, o_sub, o_lt, o_le, o_gt, o_ge, o_neg, o_eqi, o_nei, o_is0, o_is1, o_is2, o_is3, o_is4, o_is5, o_is6, o_is7, o_nt0, o_nt1, o_nt2, o_nt3, o_nt4, o_nt5, o_nt6, o_ix0, o_ix1, o_ix2, o_ix3, o_ix4, o_ix5, o_fx0, o_fx1, o_fx2, o_fx3, o_fx4, o_lenT, o_lenF, o_asB, o_tupF, o_tupT, o_listF, o_listFT, o_listL, o_listLT, o_tg1, o_tg2, o_wipe1, o_wipe2, o_yes, o_slT, o_slF, o_putF, o_li, o_liF, o_lenR, o_tupR, o_lstFR, o_lstLR, o_try_x, o_try0_x, o_unb_rt, o_unb_nx, o_rev, o_mkF, o_mkL, z_env0, fcal1, fcal2, fcal3, fcal4, List.map_cons, List.map_nil, List.replicate, List.append_nil, Nat.reduceSub, List.cons_append, List.nil_append, List.length_cons, List.length_nil, Nat.reduceAdd, Nat.reduceLeDiff, List.getElem?_cons_zero, List.getElem?_cons_succ, List.set_cons_zero, List.set_cons_succ, Bool.not_true, Bool.not_false, decide_true, decide_false, ite_true, ite_false, reduceCtorEq, eq_self, and_self, true_and, and_true, false_and, and_false, Nat.reduceLT, Nat.reduceEqDiff, Nat.zero_add, Int.reduceLT, Int.ofNat_zero, Int.reduceGT, h1, h2, h3, a1, a2, c1, c2, c3, c4, f1, Bool.false_eq_true]
theorem rcheck_run {ds : List D} {M : MH} {b : Bool} (h : ∀ d ∈ ds, Vt d) (hb : (decide (ds.length = 3) && ds.all valB) = b) : m_law_row_checked [.tup ds, .bl b] M = .ok (.bl true) M := by
  have h1 : m_check_row [.tup ds] M = _ := checkRow_run isib h
  rw [hb] at h1
  have c1 : ct_BookError 3 = some true := rfl
  have c2 : xis_InvalidName 3 = some false := rfl
  have c3 : xis_InvalidRow 3 = some true := rfl
  unfold m_law_row_checked b_law_row_checked
  cases b with
  | true =>
    rw [if_pos rfl] at h1
    simp only [y_seq, y_seq_nx, y_seq_rt, y_seq_ex, y_seq_bk, y_seq_ct, y_if, y_if_t, y_if_f, y_if_x, y_set, y_set_ok, y_set_x, y_ret, y_ret_ok, y_ret_x, y_retN, y_do, y_do_ok, y_do_x, y_nil, y_raise0, y_raise_ok, y_toR_rt, y_toR_nx, y_toR_ex, y_fn, y_c, y_var, y_var_ok, y_un, y_un_ok, y_un_x, y_bin, y_bin_ok, y_bin_x, y_anil, y_cons, y_cons1, y_cons1x, y_cons2, y_cons2x, y_args, y_args_ok, y_args_x, y_tup, y_tup_ok, y_fro, y_fro_ok, y_lst, y_lst_ok, y_call, y_stat, y_call_ok, y_callk, y_callk1, y_callk2, y_mkF, y_mkF_ok, y_own1, y_own1_ok, y_prop, y_own2, y_val, y_val_ok, y_val_x, y_and, y_and_t, y_and_f, y_or, y_or_t, y_or_f, y_not, y_not_ok, y_yes, y_eand_t, y_eand_f, y_eor_t, y_eor_f, y_enot_ok, y_eif, y_eif_t, y_eif_f, y_for_v, y_iseq, y_iseq_t, y_iseq_f, y_iseq_r, y_rng, y_env0, y_try, y_try_nx, y_try_rt, y_try0, y_try0_nx, y_try0_rt, y_fv0, y_fv_nx, y_fv_ct, y_fv_rt, y_lc_v, y_step, y_step_ok, y_istr, y_istr_ok, y_eApp, y_eSl, y_ePopAt, y_eIns, y_eChain, y_eMake, y_eMeth, y_eMakeRK, y_eMakeK, y_eMakeD, y_eStar, y_eXFld, y_eXIsF, y_sPutF, y_sSetIx, y_sIncF, y_sUnp, y_sUnpL, y_sDelD, y_oNone, y_oSome, y_iRange2, y_iZip2, y_eDNew, y_eLenO, y_eOwnIn, y_eDGet1, y_eDGet2, y_eDPop2, y_sForItems, y_eCallRK, y_eCallR, y_eLenSet, y_bind_ok, y_bind_x, y_toS_ok, y_toS_x, z_raise, z_own2_ok, z_eand, z_eor, z_enot, z_rng_ok, z_for_l, o_add, o_sub, o_lt, o_le, o_gt, o_ge, o_neg, o_eqi, o_nei, o_is0, o_is1, o_is2, o_is3, o_is4, o_is5, o_is6, o_is7, o_nt0, o_nt1, o_nt2, o_nt3, o_nt4, o_nt5, o_nt6, o_ix0, o_ix1, o_ix2, o_ix3, o_ix4, o_ix5, o_fx0, o_fx1, o_fx2, o_fx3, o_fx4, o_lenT, o_lenF, o_asB, o_tupF, o_tupT, o_listF, o_listFT, o_listL, o_listLT, o_tg1, o_tg2, o_wipe1, o_wipe2, o_yes, o_slT, o_slF, o_putF, o_li, o_liF, o_lenR, o_tupR, o_lstFR, o_lstLR, o_try_x, o_try0_x, o_unb_rt, o_unb_nx, o_rev, o_mkF, o_mkL, z_env0, fcal1, fcal2, fcal3, fcal4, List.map_cons, List.map_nil, List.replicate, List.append_nil, Nat.reduceSub, List.cons_append, List.nil_append, List.length_cons, List.length_nil, Nat.reduceAdd, Nat.reduceLeDiff, List.getElem?_cons_zero, List.getElem?_cons_succ, List.set_cons_zero, List.set_cons_succ, Bool.not_true, Bool.not_false, decide_true, decide_false, ite_true, ite_false, reduceCtorEq, eq_self, and_self, true_and, and_true, false_and, and_false, Nat.reduceLT, Nat.reduceEqDiff, Nat.zero_add, Int.reduceLT, Int.ofNat_zero, Int.reduceGT, h1, Bool.false_eq_true]
  | false =>
    rw [if_neg (by simp)] at h1
    simp only [y_seq, y_seq_nx, y_seq_rt, y_seq_ex, y_seq_bk, y_seq_ct, y_if, y_if_t, y_if_f, y_if_x, y_set, y_set_ok, y_set_x, y_ret, y_ret_ok, y_ret_x, y_retN, y_do, y_do_ok, y_do_x, y_nil, y_raise0, y_raise_ok, y_toR_rt, y_toR_nx, y_toR_ex, y_fn, y_c, y_var, y_var_ok, y_un, y_un_ok, y_un_x, y_bin, y_bin_ok, y_bin_x, y_anil, y_cons, y_cons1, y_cons1x, y_cons2, y_cons2x, y_args, y_args_ok, y_args_x, y_tup, y_tup_ok, y_fro, y_fro_ok, y_lst, y_lst_ok, y_call, y_stat, y_call_ok, y_callk, y_callk1, y_callk2, y_mkF, y_mkF_ok, y_own1, y_own1_ok, y_prop, y_own2, y_val, y_val_ok, y_val_x, y_and, y_and_t, y_and_f, y_or, y_or_t, y_or_f, y_not, y_not_ok, y_yes, y_eand_t, y_eand_f, y_eor_t, y_eor_f, y_enot_ok, y_eif, y_eif_t, y_eif_f, y_for_v, y_iseq, y_iseq_t, y_iseq_f, y_iseq_r, y_rng, y_env0, y_try, y_try_nx, y_try_rt, y_try0, y_try0_nx, y_try0_rt, y_fv0, y_fv_nx, y_fv_ct, y_fv_rt, y_lc_v, y_step, y_step_ok, y_istr, y_istr_ok, y_eApp, y_eSl, y_ePopAt, y_eIns, y_eChain, y_eMake, y_eMeth, y_eMakeRK, y_eMakeK, y_eMakeD, y_eStar, y_eXFld, y_eXIsF, y_sPutF, y_sSetIx, y_sIncF, y_sUnp, y_sUnpL, y_sDelD, y_oNone, y_oSome, y_iRange2, y_iZip2, y_eDNew, y_eLenO, y_eOwnIn, y_eDGet1, y_eDGet2, y_eDPop2, y_sForItems, y_eCallRK, y_eCallR, y_eLenSet, y_bind_ok, y_bind_x, y_toS_ok, y_toS_x, z_raise, z_own2_ok, z_eand, z_eor, z_enot, z_rng_ok, z_for_l, o_add, o_sub, o_lt, o_le, o_gt, o_ge, o_neg, o_eqi, o_nei, o_is0, o_is1, o_is2, o_is3, o_is4, o_is5, o_is6, o_is7, o_nt0, o_nt1, o_nt2, o_nt3, o_nt4, o_nt5, o_nt6, o_ix0, o_ix1, o_ix2, o_ix3, o_ix4, o_ix5, o_fx0, o_fx1, o_fx2, o_fx3, o_fx4, o_lenT, o_lenF, o_asB, o_tupF, o_tupT, o_listF, o_listFT, o_listL, o_listLT, o_tg1, o_tg2, o_wipe1, o_wipe2, o_yes, o_slT, o_slF, o_putF, o_li, o_liF, o_lenR, o_tupR, o_lstFR, o_lstLR, o_try_x, o_try0_x, o_unb_rt, o_unb_nx, o_rev, o_mkF, o_mkL, z_env0, fcal1, fcal2, fcal3, fcal4, List.map_cons, List.map_nil, List.replicate, List.append_nil, Nat.reduceSub, List.cons_append, List.nil_append, List.length_cons, List.length_nil, Nat.reduceAdd, Nat.reduceLeDiff, List.getElem?_cons_zero, List.getElem?_cons_succ, List.set_cons_zero, List.set_cons_succ, Bool.not_true, Bool.not_false, decide_true, decide_false, ite_true, ite_false, reduceCtorEq, eq_self, and_self, true_and, and_true, false_and, and_false, Nat.reduceLT, Nat.reduceEqDiff, Nat.zero_add, Int.reduceLT, Int.ofNat_zero, Int.reduceGT, h1, c1, c2, c3, Bool.false_eq_true]
end K01
namespace K01
open PySem L2 T2
/-! ### a tuple that is no row -/
def pA (w : Rw) : C3 → List D
  | .z => []
  | .o => [Vl.d w.x]
  | .t => [Vl.d w.x, Vl.d w.y]
def pB (w : Rw) : C3 → List D
  | .z => [Vl.d w.y, Vl.d w.z]
  | .o => [Vl.d w.z]
  | .t => []
def pC (w : Rw) : C3 → List D
  | .z => [Vl.d w.x, Vl.d w.y, Vl.d w.z]
  | .o => [Vl.d w.y, Vl.d w.z]
  | .t => [Vl.d w.z]
def pH (w : Rw) : C3 → List D
  | .z => []
  | .o => []
  | .t => [Vl.d w.x]
theorem at_ix {w : Rw} {c : C3} {M : MH} : dIxA w.d (.int c.i) M = .ok (Vl.d (w.at c)) M := by
  cases c
  · exact ixT0
  · exact ixT1
  · exact ixT2
theorem pu1 {w : Rw} {c : C3} {M : MH} : dSl mkF w.d none (some c.i) M = .ok (.tup (pA w c)) M := by cases c <;> kernel_rfl
theorem pu2 {w : Rw} {c : C3} {v : D} {M : MH} : dAdd (.tup (pA w c)) (.tup [v]) M = .ok (.tup (pA w c ++ [v])) M := by cases c <;> kernel_rfl
theorem pu3 {w : Rw} {c : C3} {M : MH} : dSl mkF w.d (some (c.i + 1)) none M = .ok (.tup (pB w c)) M := by cases c <;> kernel_rfl
theorem pu4 {w : Rw} {c : C3} {v : D} {M : MH} : dAdd (.tup (pA w c ++ [v])) (.tup (pB w c)) M = .ok (.tup (pA w c ++ [v] ++ pB w c)) M := by cases c <;> kernel_rfl
theorem pu5 {w : Rw} {c : C3} {M : MH} : dAdd (.tup (pA w c)) (.tup (pB w c)) M = .ok (.tup (pA w c ++ pB w c)) M := by cases c <;> kernel_rfl
theorem pu6 {w : Rw} {c : C3} {M : MH} : dSl mkF w.d (some c.i) none M = .ok (.tup (pC w c)) M := by cases c <;> kernel_rfl
theorem pu7 {w : Rw} {c : C3} {v : D} {M : MH} : dAdd (.tup (pA w c ++ [v])) (.tup (pC w c)) M = .ok (.tup (pA w c ++ [v] ++ pC w c)) M := by cases c <;> kernel_rfl
theorem pu8 {c : C3} {M : MH} : dDiv (.int c.i) (.int 2) M = .ok (.int (c.i / 2)) M := by cases c <;> kernel_rfl
theorem pu9 {w : Rw} {c : C3} {M : MH} : dSl mkF w.d none (some (c.i / 2)) M = .ok (.tup (pH w c)) M := by cases c <;> kernel_rfl
theorem puA {w : Rw} {M : MH} : dAdd w.d w.d M = .ok (.tup [Vl.d w.x, Vl.d w.y, Vl.d w.z, Vl.d w.x, Vl.d w.y, Vl.d w.z]) M := by kernel_rfl
theorem vt_vl (v : Vl) : Vt (Vl.d v) := by
  rcases v with _ | c
  · exact .inl rfl
  · exact .inr (.inl ⟨_, rfl⟩)
def Bad (ds : List D) : Prop := (∀ d ∈ ds, Vt d) ∧ (decide (ds.length = 3) && ds.all valB) = false
theorem bad_len {ds : List D} (h : ∀ d ∈ ds, ∃ v : Vl, d = Vl.d v) (hl : ds.length ≠ 3) : Bad ds := ⟨fun d hd => by
  obtain ⟨v, rfl⟩ := h d hd
  exact vt_vl v, by rw [decide_eq_false hl]; rfl⟩
theorem bad_val {a b : List D} {i : Int} (ha : ∀ d ∈ a, ∃ v : Vl, d = Vl.d v) (hb : ∀ d ∈ b, ∃ v : Vl, d = Vl.d v) (hi : i < 0 ∨ 2 < i) : Bad (a ++ [.int i] ++ b) := by
  refine ⟨fun d hd => ?_, ?_⟩
  · simp only [List.mem_append, List.mem_singleton] at hd
    rcases hd with (h | rfl) | h
    · obtain ⟨v, rfl⟩ := ha d h; exact vt_vl v
    · exact .inr (.inl ⟨_, rfl⟩)
    · obtain ⟨v, rfl⟩ := hb d h; exact vt_vl v
  · rw [Bool.and_eq_false_iff]
    refine .inr (List.all_eq_false.mpr ⟨.int i, by simp, ?_⟩)
    unfold valB
    simp only [Bool.and_eq_true, decide_eq_true_eq]
    omega
theorem pA_vl {w : Rw} {c : C3} : ∀ d ∈ pA w c, ∃ v : Vl, d = Vl.d v := by
  cases c <;> simp [pA] <;> (first | exact ⟨_, rfl⟩ | exact ⟨⟨_, rfl⟩, ⟨_, rfl⟩⟩ | exact ⟨⟨_, rfl⟩, ⟨_, rfl⟩, ⟨_, rfl⟩⟩)
theorem pB_vl {w : Rw} {c : C3} : ∀ d ∈ pB w c, ∃ v : Vl, d = Vl.d v := by
  cases c <;> simp [pB] <;> (first | exact ⟨_, rfl⟩ | exact ⟨⟨_, rfl⟩, ⟨_, rfl⟩⟩ | exact ⟨⟨_, rfl⟩, ⟨_, rfl⟩, ⟨_, rfl⟩⟩)
theorem pC_vl {w : Rw} {c : C3} : ∀ d ∈ pC w c, ∃ v : Vl, d = Vl.d v := by
  cases c <;> simp [pC] <;> (first | exact ⟨_, rfl⟩ | exact ⟨⟨_, rfl⟩, ⟨_, rfl⟩⟩ | exact ⟨⟨_, rfl⟩, ⟨_, rfl⟩, ⟨_, rfl⟩⟩)
theorem pH_vl {w : Rw} {c : C3} : ∀ d ∈ pH w c, ∃ v : Vl, d = Vl.d v := by
  cases c <;> simp [pH] <;> (first | exact ⟨_, rfl⟩ | exact ⟨⟨_, rfl⟩, ⟨_, rfl⟩⟩ | exact ⟨⟨_, rfl⟩, ⟨_, rfl⟩, ⟨_, rfl⟩⟩)
theorem badrow_run {s : Bx} {R : MH} {w : Rw} (hs : BxOk s) : ∃ (ds : List D) (s' : Bx), m_law_bad_row [.ref 0, w.d] (s.obj :: R) = .ok (.tup ds) (s'.obj :: R) ∧ BxOk s' ∧ Bad ds := by
  obtain ⟨r, s1, d1, x1, y1, h1⟩ := drawE (R := R) (n := 7) hs (by decide) (by decide)
  obtain ⟨r2, s2, d2, x2, y2, h2⟩ := drawE (R := R) (n := 3) h1 (by decide) (by decide)
  obtain ⟨c, rfl⟩ := c3_of x2 y2
  obtain ⟨r3, s3, d3, x3, y3, h3⟩ := drawE (R := R) (n := 1000) h2 (by decide) (by decide)
  have hr : r = 0 ∨ r = 1 ∨ r = 2 ∨ r = 3 ∨ r = 4 ∨ r = 5 ∨ r = 6 := by omega
  have app_vl : ∀ {a b : List D}, (∀ d ∈ a, ∃ v : Vl, d = Vl.d v) → (∀ d ∈ b, ∃ v : Vl, d = Vl.d v) → ∀ d ∈ a ++ b, ∃ v : Vl, d = Vl.d v := fun ha hb d hd => by
    rcases List.mem_append.mp hd with h | h
    · exact ha d h
    · exact hb d h
  have bad3 : Bad (pA w c ++ [.int (3 + r3)] ++ pB w c) := bad_val pA_vl pB_vl (by omega)
  have big : ∀ k, (k = 0 ∨ k = 6) → k = r → ∃ (ds : List D) (s' : Bx), m_law_bad_row [.ref 0, w.d] (s.obj :: R) = .ok (.tup ds) (s'.obj :: R) ∧ BxOk s' ∧ Bad ds := fun k hk e => by
    subst e
    refine ⟨_, s3, ?_, h3, bad3⟩
    unfold m_law_bad_row b_law_bad_row
    rcases hk with rfl | rfl
    · simp only [y_seq, y_seq_nx, y_seq_rt, y_seq_ex, y_seq_bk, y_seq_ct, y_if, y_if_t, y_if_f, y_if_x, y_set, y_set_ok, y_set_x, y_ret, y_ret_ok, y_ret_x, y_retN, y_do, y_do_ok, y_do_x, y_nil, y_raise0, y_raise_ok, y_toR_rt, y_toR_nx, y_toR_ex, y_fn, y_c, y_var, y_var_ok, y_un, y_un_ok, y_un_x, y_bin, y_bin_ok, y_bin_x, y_anil, y_cons, y_cons1, y_cons1x, y_cons2, y_cons2x, y_args, y_args_ok, y_args_x, y_tup, y_tup_ok, y_fro, y_fro_ok, y_lst, y_lst_ok, y_call, y_stat, y_call_ok, y_callk, y_callk1, y_callk2, y_mkF, y_mkF_ok, y_own1, y_own1_ok, y_prop, y_own2, y_val, y_val_ok, y_val_x, y_and, y_and_t, y_and_f, y_or, y_or_t, y_or_f, y_not, y_not_ok, y_yes, y_eand_t, y_eand_f, y_eor_t, y_eor_f, y_enot_ok, y_eif, y_eif_t, y_eif_f, y_for_v, y_iseq, y_iseq_t, y_iseq_f, y_iseq_r, y_rng, y_env0, y_try, y_try_nx, y_try_rt, y_try0, y_try0_nx, y_try0_rt, y_fv0, y_fv_nx, y_fv_ct, y_fv_rt, y_lc_v, y_step, y_step_ok, y_istr, y_istr_ok, y_eApp, y_eSl, y_ePopAt, y_eIns, y_eChain, y_eMake, y_eMeth, y_eMakeRK, y_eMakeK, y_eMakeD, y_eStar, y_eXFld, y_eXIsF, y_sPutF, y_sSetIx, y_sIncF, y_sUnp, y_sUnpL, y_sDelD, y_oNone, y_oSome, y_iRange2, y_iZip2, y_eDNew, y_eLenO, y_eOwnIn, y_eDGet1, y_eDGet2, y_eDPop2, y_sForItems, y_eCallRK, y_eCallR, y_eLenSet, y_bind_ok, y_bind_x, y_toS_ok, y_toS_x, z_raise, z_own2_ok, z_eand, z_eor, z_enot, z_rng_ok, z_for_l, o_add, o_sub, o_lt, o_le, o_gt, o_ge, o_neg, o_eqi, o_nei, o_is0, o_is1, o_is2, o_is3, o_is4, o_is5, o_is6, o_is7, o_nt0, o_nt1, o_nt2, o_nt3, o_nt4, o_nt5, o_nt6, o_ix0, o_ix1, o_ix2, o_ix3, o_ix4, o_ix5, o_fx0, o_fx1, o_fx2, o_fx3, o_fx4, o_lenT, o_lenF, o_asB, o_tupF, o_tupT, o_listF, o_listFT, o_listL, o_listLT, o_tg1, o_tg2, o_wipe1, o_wipe2, o_yes, o_slT, o_slF, o_putF, o_li, o_liF, o_lenR, o_tupR, o_lstFR, o_lstLR, o_try_x, o_try0_x, o_unb_rt, o_unb_nx, o_rev, o_mkF, o_mkL, z_env0, fcal1, fcal2, fcal3, fcal4, List.map_cons, List.map_nil, List.replicate, List.append_nil, Nat.reduceSub, List.cons_append, List.nil_append, List.length_cons, List.length_nil, Nat.reduceAdd, Nat.reduceLeDiff, List.getElem?_cons_zero, List.getElem?_cons_succ, List.set_cons_zero, List.set_cons_succ, Bool.not_true, Bool.not_false, decide_true, decide_false, ite_true, ite_false, reduceCtorEq, eq_self, and_self, true_and, and_true, false_and, and_false, Nat.reduceLT, Nat.reduceEqDiff, Nat.zero_add, Int.reduceLT, Int.ofNat_zero, Int.reduceGT, draw_is, d1, d2, d3, pu1, pu2, pu3, pu4, Int.reduceEq, Bool.false_eq_true]
    · simp only [y_seq, y_seq_nx, y_seq_rt, y_seq_ex, y_seq_bk, y_seq_ct, y_if, y_if_t, y_if_f, y_if_x, y_set, y_set_ok, y_set_x, y_ret, y_ret_ok, y_ret_x, y_retN, y_do, y_do_ok, y_do_x, y_nil, y_raise0, y_raise_ok, y_toR_rt, y_toR_nx, y_toR_ex, y_fn, y_c, y_var, y_var_ok, y_un, y_un_ok, y_un_x, y_bin, y_bin_ok, y_bin_x, y_anil, y_cons, y_cons1, y_cons1x, y_cons2, y_cons2x, y_args, y_args_ok, y_args_x, y_tup, y_tup_ok, y_fro, y_fro_ok, y_lst, y_lst_ok, y_call, y_stat, y_call_ok, y_callk, y_callk1, y_callk2, y_mkF, y_mkF_ok, y_own1, y_own1_ok, y_prop, y_own2, y_val, y_val_ok, y_val_x, y_and, y_and_t, y_and_f, y_or, y_or_t, y_or_f, y_not, y_not_ok, y_yes, y_eand_t, y_eand_f, y_eor_t, y_eor_f, y_enot_ok, y_eif, y_eif_t, y_eif_f, y_for_v, y_iseq, y_iseq_t, y_iseq_f, y_iseq_r, y_rng, y_env0, y_try, y_try_nx, y_try_rt, y_try0, y_try0_nx, y_try0_rt, y_fv0, y_fv_nx, y_fv_ct, y_fv_rt, y_lc_v, y_step, y_step_ok, y_istr, y_istr_ok, y_eApp, y_eSl, y_ePopAt, y_eIns, y_eChain, y_eMake, y_eMeth, y_eMakeRK, y_eMakeK, y_eMakeD, y_eStar, y_eXFld, y_eXIsF, y_sPutF, y_sSetIx, y_sIncF, y_sUnp, y_sUnpL, y_sDelD, y_oNone, y_oSome, y_iRange2, y_iZip2, y_eDNew, y_eLenO, y_eOwnIn, y_eDGet1, y_eDGet2, y_eDPop2, y_sForItems, y_eCallRK, y_eCallR, y_eLenSet, y_bind_ok, y_bind_x, y_toS_ok, y_toS_x, z_raise, z_own2_ok, z_eand, z_eor, z_enot, z_rng_ok, z_for_l, o_add, o_sub, o_lt, o_le, o_gt, o_ge, o_neg, o_eqi, o_nei, o_is0, o_is1, o_is2, o_is3, o_is4, o_is5, o_is6, o_is7, o_nt0, o_nt1, o_nt2, o_nt3, o_nt4, o_nt5, o_nt6, o_ix0, o_ix1, o_ix2, o_ix3, o_ix4, o_ix5, o_fx0, o_fx1, o_fx2, o_fx3, o_fx4, o_lenT, o_lenF, o_asB, o_tupF, o_tupT, o_listF, o_listFT, o_listL, o_listLT, o_tg1, o_tg2, o_wipe1, o_wipe2, o_yes, o_slT, o_slF, o_putF, o_li, o_liF, o_lenR, o_tupR, o_lstFR, o_lstLR, o_try_x, o_try0_x, o_unb_rt, o_unb_nx, o_rev, o_mkF, o_mkL, z_env0, fcal1, fcal2, fcal3, fcal4, List.map_cons, List.map_nil, List.replicate, List.append_nil, Nat.reduceSub, List.cons_append, List.nil_append, List.length_cons, List.length_nil, Nat.reduceAdd, Nat.reduceLeDiff, List.getElem?_cons_zero, List.getElem?_cons_succ, List.set_cons_zero, List.set_cons_succ, Bool.not_true, Bool.not_false, decide_true, decide_false, ite_true, ite_false, reduceCtorEq, eq_self, and_self, true_and, and_true, false_and, and_false, Nat.reduceLT, Nat.reduceEqDiff, Nat.zero_add, Int.reduceLT, Int.ofNat_zero, Int.reduceGT, draw_is, d1, d2, d3, pu1, pu2, pu3, pu4, Int.reduceEq, Bool.false_eq_true]
  rcases hr with rfl | rfl | rfl | rfl | rfl | rfl | rfl
  · exact big 0 (.inl rfl) rfl
  · refine ⟨_, s2, ?_, h2, bad_len (ds := pA w c ++ pB w c) (app_vl pA_vl pB_vl) (by cases c <;> simp [pA, pB])⟩
    unfold m_law_bad_row b_law_bad_row
    simp only [y_seq, y_seq_nx, y_seq_rt, y_seq_ex, y_seq_bk, y_seq_ct, y_if, y_if_t, y_if_f, y_if_x, y_set, y_set_ok, y_set_x, y_ret, y_ret_ok, y_ret_x, y_retN, y_do, y_do_ok, y_do_x, y_nil, y_raise0, y_raise_ok, y_toR_rt, y_toR_nx, y_toR_ex, y_fn, y_c, y_var, y_var_ok, y_un, y_un_ok, y_un_x, y_bin, y_bin_ok, y_bin_x, y_anil, y_cons, y_cons1, y_cons1x, y_cons2, y_cons2x, y_args, y_args_ok, y_args_x, y_tup, y_tup_ok, y_fro, y_fro_ok, y_lst, y_lst_ok, y_call, y_stat, y_call_ok, y_callk, y_callk1, y_callk2, y_mkF, y_mkF_ok, y_own1, y_own1_ok, y_prop, y_own2, y_val, y_val_ok, y_val_x, y_and, y_and_t, y_and_f, y_or, y_or_t, y_or_f, y_not, y_not_ok, y_yes, y_eand_t, y_eand_f, y_eor_t, y_eor_f, y_enot_ok, y_eif, y_eif_t, y_eif_f, y_for_v, y_iseq, y_iseq_t, y_iseq_f, y_iseq_r, y_rng, y_env0, y_try, y_try_nx, y_try_rt, y_try0, y_try0_nx, y_try0_rt, y_fv0, y_fv_nx, y_fv_ct, y_fv_rt, y_lc_v, y_step, y_step_ok, y_istr, y_istr_ok, y_eApp, y_eSl, y_ePopAt, y_eIns, y_eChain, y_eMake, y_eMeth, y_eMakeRK, y_eMakeK, y_eMakeD, y_eStar, y_eXFld, y_eXIsF, y_sPutF, y_sSetIx, y_sIncF, y_sUnp, y_sUnpL, y_sDelD, y_oNone, y_oSome, y_iRange2, y_iZip2, y_eDNew, y_eLenO, y_eOwnIn, y_eDGet1, y_eDGet2, y_eDPop2, y_sForItems, y_eCallRK, y_eCallR, y_eLenSet, y_bind_ok, y_bind_x, y_toS_ok, y_toS_x, z_raise, z_own2_ok, z_eand, z_eor, z_enot, z_rng_ok, z_for_l, o_add, o_sub, o_lt, o_le, o_gt, o_ge, o_neg, o_eqi, o_nei, o_is0, o_is1, o_is2, o_is3, o_is4, o_is5, o_is6, o_is7, o_nt0, o_nt1, o_nt2, o_nt3, o_nt4, o_nt5, o_nt6, o_ix0, o_ix1, o_ix2, o_ix3, o_ix4, o_ix5, o_fx0, o_fx1, o_fx2, o_fx3, o_fx4, o_lenT, o_lenF, o_asB, o_tupF, o_tupT, o_listF, o_listFT, o_listL, o_listLT, o_tg1, o_tg2, o_wipe1, o_wipe2, o_yes, o_slT, o_slF, o_putF, o_li, o_liF, o_lenR, o_tupR, o_lstFR, o_lstLR, o_try_x, o_try0_x, o_unb_rt, o_unb_nx, o_rev, o_mkF, o_mkL, z_env0, fcal1, fcal2, fcal3, fcal4, List.map_cons, List.map_nil, List.replicate, List.append_nil, Nat.reduceSub, List.cons_append, List.nil_append, List.length_cons, List.length_nil, Nat.reduceAdd, Nat.reduceLeDiff, List.getElem?_cons_zero, List.getElem?_cons_succ, List.set_cons_zero, List.set_cons_succ, Bool.not_true, Bool.not_false, decide_true, decide_false, ite_true, ite_false, reduceCtorEq, eq_self, and_self, true_and, and_true, false_and, and_false, Nat.reduceLT, Nat.reduceEqDiff, Nat.zero_add, Int.reduceLT, Int.ofNat_zero, Int.reduceGT, draw_is, d1, d2, d3, pu1, pu3, pu5, Int.reduceEq, Bool.false_eq_true]
  · refine ⟨_, s2, ?_, h2, bad_len (ds := pA w c ++ [Vl.d (w.at c)] ++ pC w c) (app_vl (app_vl pA_vl fun d hd => ⟨_, List.mem_singleton.mp hd⟩) pC_vl) (by cases c <;> simp [pA, pC])⟩
    unfold m_law_bad_row b_law_bad_row
    simp only [y_seq, y_seq_nx, y_seq_rt, y_seq_ex, y_seq_bk, y_seq_ct, y_if, y_if_t, y_if_f, y_if_x, y_set, y_set_ok, y_set_x, y_ret, y_ret_ok, y_ret_x, y_retN, y_do, y_do_ok, y_do_x, y_nil, y_raise0, y_raise_ok, y_toR_rt, y_toR_nx, y_toR_ex, y_fn, y_c, y_var, y_var_ok, y_un, y_un_ok, y_un_x, y_bin, y_bin_ok, y_bin_x, y_anil, y_cons, y_cons1, y_cons1x, y_cons2, y_cons2x, y_args, y_args_ok, y_args_x, y_tup, y_tup_ok, y_fro, y_fro_ok, y_lst, y_lst_ok, y_call, y_stat, y_call_ok, y_callk, y_callk1, y_callk2, y_mkF, y_mkF_ok, y_own1, y_own1_ok, y_prop, y_own2, y_val, y_val_ok, y_val_x, y_and, y_and_t, y_and_f, y_or, y_or_t, y_or_f, y_not, y_not_ok, y_yes, y_eand_t, y_eand_f, y_eor_t, y_eor_f, y_enot_ok, y_eif, y_eif_t, y_eif_f, y_for_v, y_iseq, y_iseq_t, y_iseq_f, y_iseq_r, y_rng, y_env0, y_try, y_try_nx, y_try_rt, y_try0, y_try0_nx, y_try0_rt, y_fv0, y_fv_nx, y_fv_ct, y_fv_rt, y_lc_v, y_step, y_step_ok, y_istr, y_istr_ok, y_eApp, y_eSl, y_ePopAt, y_eIns, y_eChain, y_eMake, y_eMeth, y_eMakeRK, y_eMakeK, y_eMakeD, y_eStar, y_eXFld, y_eXIsF, y_sPutF, y_sSetIx, y_sIncF, y_sUnp, y_sUnpL, y_sDelD, y_oNone, y_oSome, y_iRange2, y_iZip2, y_eDNew, y_eLenO, y_eOwnIn, y_eDGet1, y_eDGet2, y_eDPop2, y_sForItems, y_eCallRK, y_eCallR, y_eLenSet, y_bind_ok, y_bind_x, y_toS_ok, y_toS_x, z_raise, z_own2_ok, z_eand, z_eor, z_enot, z_rng_ok, z_for_l, o_add, o_sub, o_lt, o_le, o_gt, o_ge, o_neg, o_eqi, o_nei, o_is0, o_is1, o_is2, o_is3, o_is4, o_is5, o_is6, o_is7, o_nt0, o_nt1, o_nt2, o_nt3, o_nt4, o_nt5, o_nt6, o_ix0, o_ix1, o_ix2, o_ix3, o_ix4, o_ix5, o_fx0, o_fx1, o_fx2, o_fx3, o_fx4, o_lenT, o_lenF, o_asB, o_tupF, o_tupT, o_listF, o_listFT, o_listL, o_listLT, o_tg1, o_tg2, o_wipe1, o_wipe2, o_yes, o_slT, o_slF, o_putF, o_li, o_liF, o_lenR, o_tupR, o_lstFR, o_lstLR, o_try_x, o_try0_x, o_unb_rt, o_unb_nx, o_rev, o_mkF, o_mkL, z_env0, fcal1, fcal2, fcal3, fcal4, List.map_cons, List.map_nil, List.replicate, List.append_nil, Nat.reduceSub, List.cons_append, List.nil_append, List.length_cons, List.length_nil, Nat.reduceAdd, Nat.reduceLeDiff, List.getElem?_cons_zero, List.getElem?_cons_succ, List.set_cons_zero, List.set_cons_succ, Bool.not_true, Bool.not_false, decide_true, decide_false, ite_true, ite_false, reduceCtorEq, eq_self, and_self, true_and, and_true, false_and, and_false, Nat.reduceLT, Nat.reduceEqDiff, Nat.zero_add, Int.reduceLT, Int.ofNat_zero, Int.reduceGT, draw_is, d1, d2, d3, pu1, pu2, pu6, pu7, at_ix, Int.reduceEq, Bool.false_eq_true]
  · refine ⟨_, s3, ?_, h3, bad_val (a := pA w c) (b := pB w c) (i := -1 - r3) pA_vl pB_vl (by omega)⟩
    unfold m_law_bad_row b_law_bad_row
    simp only [y_seq, y_seq_nx, y_seq_rt, y_seq_ex, y_seq_bk, y_seq_ct, y_if, y_if_t, y_if_f, y_if_x, y_set, y_set_ok, y_set_x, y_ret, y_ret_ok, y_ret_x, y_retN, y_do, y_do_ok, y_do_x, y_nil, y_raise0, y_raise_ok, y_toR_rt, y_toR_nx, y_toR_ex, y_fn, y_c, y_var, y_var_ok, y_un, y_un_ok, y_un_x, y_bin, y_bin_ok, y_bin_x, y_anil, y_cons, y_cons1, y_cons1x, y_cons2, y_cons2x, y_args, y_args_ok, y_args_x, y_tup, y_tup_ok, y_fro, y_fro_ok, y_lst, y_lst_ok, y_call, y_stat, y_call_ok, y_callk, y_callk1, y_callk2, y_mkF, y_mkF_ok, y_own1, y_own1_ok, y_prop, y_own2, y_val, y_val_ok, y_val_x, y_and, y_and_t, y_and_f, y_or, y_or_t, y_or_f, y_not, y_not_ok, y_yes, y_eand_t, y_eand_f, y_eor_t, y_eor_f, y_enot_ok, y_eif, y_eif_t, y_eif_f, y_for_v, y_iseq, y_iseq_t, y_iseq_f, y_iseq_r, y_rng, y_env0, y_try, y_try_nx, y_try_rt, y_try0, y_try0_nx, y_try0_rt, y_fv0, y_fv_nx, y_fv_ct, y_fv_rt, y_lc_v, y_step, y_step_ok, y_istr, y_istr_ok, y_eApp, y_eSl, y_ePopAt, y_eIns, y_eChain, y_eMake, y_eMeth, y_eMakeRK, y_eMakeK, y_eMakeD, y_eStar, y_eXFld, y_eXIsF, y_sPutF, y_sSetIx, y_sIncF, y_sUnp, y_sUnpL, y_sDelD, y_oNone, y_oSome, y_iRange2, y_iZip2, y_eDNew, y_eLenO, y_eOwnIn, y_eDGet1, y_eDGet2, y_eDPop2, y_sForItems, y_eCallRK, y_eCallR, y_eLenSet, y_bind_ok, y_bind_x, y_toS_ok, y_toS_x, z_raise, z_own2_ok, z_eand, z_eor, z_enot, z_rng_ok, z_for_l, o_add, o_sub, o_lt, o_le, o_gt, o_ge, o_neg, o_eqi, o_nei, o_is0, o_is1, o_is2, o_is3, o_is4, o_is5, o_is6, o_is7, o_nt0, o_nt1, o_nt2, o_nt3, o_nt4, o_nt5, o_nt6, o_ix0, o_ix1, o_ix2, o_ix3, o_ix4, o_ix5, o_fx0, o_fx1, o_fx2, o_fx3, o_fx4, o_lenT, o_lenF, o_asB, o_tupF, o_tupT, o_listF, o_listFT, o_listL, o_listLT, o_tg1, o_tg2, o_wipe1, o_wipe2, o_yes, o_slT, o_slF, o_putF, o_li, o_liF, o_lenR, o_tupR, o_lstFR, o_lstLR, o_try_x, o_try0_x, o_unb_rt, o_unb_nx, o_rev, o_mkF, o_mkL, z_env0, fcal1, fcal2, fcal3, fcal4, List.map_cons, List.map_nil, List.replicate, List.append_nil, Nat.reduceSub, List.cons_append, List.nil_append, List.length_cons, List.length_nil, Nat.reduceAdd, Nat.reduceLeDiff, List.getElem?_cons_zero, List.getElem?_cons_succ, List.set_cons_zero, List.set_cons_succ, Bool.not_true, Bool.not_false, decide_true, decide_false, ite_true, ite_false, reduceCtorEq, eq_self, and_self, true_and, and_true, false_and, and_false, Nat.reduceLT, Nat.reduceEqDiff, Nat.zero_add, Int.reduceLT, Int.ofNat_zero, Int.reduceGT, draw_is, d1, d2, d3, pu1, pu2, pu3, pu4, Int.reduceEq, Bool.false_eq_true]
  · refine ⟨_, s2, ?_, h2, bad_len (ds := pH w c) pH_vl (by cases c <;> simp [pH])⟩
    unfold m_law_bad_row b_law_bad_row
    simp only [y_seq, y_seq_nx, y_seq_rt, y_seq_ex, y_seq_bk, y_seq_ct, y_if, y_if_t, y_if_f, y_if_x, y_set, y_set_ok, y_set_x, y_ret, y_ret_ok, y_ret_x, y_retN, y_do, y_do_ok, y_do_x, y_nil, y_raise0, y_raise_ok, y_toR_rt, y_toR_nx, y_toR_ex, y_fn, y_c, y_var, y_var_ok, y_un, y_un_ok, y_un_x, y_bin, y_bin_ok, y_bin_x, y_anil, y_cons, y_cons1, y_cons1x, y_cons2, y_cons2x, y_args, y_args_ok, y_args_x, y_tup, y_tup_ok, y_fro, y_fro_ok, y_lst, y_lst_ok, y_call, y_stat, y_call_ok, y_callk, y_callk1, y_callk2, y_mkF, y_mkF_ok, y_own1, y_own1_ok, y_prop, y_own2, y_val, y_val_ok, y_val_x, y_and, y_and_t, y_and_f, y_or, y_or_t, y_or_f, y_not, y_not_ok, y_yes, y_eand_t, y_eand_f, y_eor_t, y_eor_f, y_enot_ok, y_eif, y_eif_t, y_eif_f, y_for_v, y_iseq, y_iseq_t, y_iseq_f, y_iseq_r, y_rng, y_env0, y_try, y_try_nx, y_try_rt, y_try0, y_try0_nx, y_try0_rt, y_fv0, y_fv_nx, y_fv_ct, y_fv_rt, y_lc_v, y_step, y_step_ok, y_istr, y_istr_ok, y_eApp, y_eSl, y_ePopAt, y_eIns, y_eChain, y_eMake, y_eMeth, y_eMakeRK, y_eMakeK, y_eMakeD, y_eStar, y_eXFld, y_eXIsF, y_sPutF, y_sSetIx, y_sIncF, y_sUnp, y_sUnpL, y_sDelD, y_oNone, y_oSome, y_iRange2, y_iZip2, y_eDNew, y_eLenO, y_eOwnIn, y_eDGet1, y_eDGet2, y_eDPop2, y_sForItems, y_eCallRK, y_eCallR, y_eLenSet, y_bind_ok, y_bind_x, y_toS_ok, y_toS_x, z_raise, z_own2_ok, z_eand, z_eor, z_enot, z_rng_ok, z_for_l, o_add, o_sub, o_lt, o_le, o_gt, o_ge, o_neg, o_eqi, o_nei, o_is0, o_is1, o_is2, o_is3, o_is4, o_is5, o_is6, o_is7, o_nt0, o_nt1, o_nt2, o_nt3, o_nt4, o_nt5, o_nt6, o_ix0, o_ix1, o_ix2, o_ix3, o_ix4, o_ix5, o_fx0, o_fx1, o_fx2, o_fx3, o_fx4, o_lenT, o_lenF, o_asB, o_tupF, o_tupT, o_listF, o_listFT, o_listL, o_listLT, o_tg1, o_tg2, o_wipe1, o_wipe2, o_yes, o_slT, o_slF, o_putF, o_li, o_liF, o_lenR, o_tupR, o_lstFR, o_lstLR, o_try_x, o_try0_x, o_unb_rt, o_unb_nx, o_rev, o_mkF, o_mkL, z_env0, fcal1, fcal2, fcal3, fcal4, List.map_cons, List.map_nil, List.replicate, List.append_nil, Nat.reduceSub, List.cons_append, List.nil_append, List.length_cons, List.length_nil, Nat.reduceAdd, Nat.reduceLeDiff, List.getElem?_cons_zero, List.getElem?_cons_succ, List.set_cons_zero, List.set_cons_succ, Bool.not_true, Bool.not_false, decide_true, decide_false, ite_true, ite_false, reduceCtorEq, eq_self, and_self, true_and, and_true, false_and, and_false, Nat.reduceLT, Nat.reduceEqDiff, Nat.zero_add, Int.reduceLT, Int.ofNat_zero, Int.reduceGT, draw_is, d1, d2, d3, pu8, pu9, Int.reduceEq, Bool.false_eq_true]
  · refine ⟨_, s2, ?_, h2, bad_len (ds := [Vl.d w.x, Vl.d w.y, Vl.d w.z, Vl.d w.x, Vl.d w.y, Vl.d w.z]) (fun d hd => by simp at hd; rcases hd with rfl | rfl | rfl | rfl | rfl | rfl <;> exact ⟨_, rfl⟩) (by simp)⟩
    unfold m_law_bad_row b_law_bad_row
    simp only [y_seq, y_seq_nx, y_seq_rt, y_seq_ex, y_seq_bk, y_seq_ct, y_if, y_if_t, y_if_f, y_if_x, y_set, y_set_ok, y_set_x, y_ret, y_ret_ok, y_ret_x, y_retN, y_do, y_do_ok, y_do_x, y_nil, y_raise0, y_raise_ok, y_toR_rt, y_toR_nx, y_toR_ex, y_fn, y_c, y_var, y_var_ok, y_un, y_un_ok, y_un_x, y_bin, y_bin_ok, y_bin_x, y_anil, y_cons, y_cons1, y_cons1x, y_cons2, y_cons2x, y_args, y_args_ok, y_args_x, y_tup, y_tup_ok, y_fro, y_fro_ok, y_lst, y_lst_ok, y_call, y_stat, y_call_ok, y_callk, y_callk1, y_callk2, y_mkF, y_mkF_ok, y_own1, y_own1_ok, y_prop, y_own2, y_val, y_val_ok, y_val_x, y_and, y_and_t, y_and_f, y_or, y_or_t, y_or_f, y_not, y_not_ok, y_yes, y_eand_t, y_eand_f, y_eor_t, y_eor_f, y_enot_ok, y_eif, y_eif_t, y_eif_f, y_for_v, y_iseq, y_iseq_t, y_iseq_f, y_iseq_r, y_rng, y_env0, y_try, y_try_nx, y_try_rt, y_try0, y_try0_nx, y_try0_rt, y_fv0, y_fv_nx, y_fv_ct, y_fv_rt, y_lc_v, y_step, y_step_ok, y_istr, y_istr_ok, y_eApp, y_eSl, y_ePopAt, y_eIns, y_eChain, y_eMake, y_eMeth, y_eMakeRK, y_eMakeK, y_eMakeD, y_eStar, y_eXFld, y_eXIsF, y_sPutF, y_sSetIx, y_sIncF, y_sUnp, y_sUnpL, y_sDelD, y_oNone, y_oSome, y_iRange2, y_iZip2, y_eDNew, y_eLenO, y_eOwnIn, y_eDGet1, y_eDGet2, y_eDPop2, y_sForItems, y_eCallRK, y_eCallR, y_eLenSet, y_bind_ok, y_bind_x, y_toS_ok, y_toS_x, z_raise, z_own2_ok, z_eand, z_eor, z_enot, z_rng_ok, z_for_l, o_add, o_sub, o_lt, o_le, o_gt, o_ge, o_neg, o_eqi, o_nei, o_is0, o_is1, o_is2, o_is3, o_is4, o_is5, o_is6, o_is7, o_nt0, o_nt1, o_nt2, o_nt3, o_nt4, o_nt5, o_nt6, o_ix0, o_ix1, o_ix2, o_ix3, o_ix4, o_ix5, o_fx0, o_fx1, o_fx2, o_fx3, o_fx4, o_lenT, o_lenF, o_asB, o_tupF, o_tupT, o_listF, o_listFT, o_listL, o_listLT, o_tg1, o_tg2, o_wipe1, o_wipe2, o_yes, o_slT, o_slF, o_putF, o_li, o_liF, o_lenR, o_tupR, o_lstFR, o_lstLR, o_try_x, o_try0_x, o_unb_rt, o_unb_nx, o_rev, o_mkF, o_mkL, z_env0, fcal1, fcal2, fcal3, fcal4, List.map_cons, List.map_nil, List.replicate, List.append_nil, Nat.reduceSub, List.cons_append, List.nil_append, List.length_cons, List.length_nil, Nat.reduceAdd, Nat.reduceLeDiff, List.getElem?_cons_zero, List.getElem?_cons_succ, List.set_cons_zero, List.set_cons_succ, Bool.not_true, Bool.not_false, decide_true, decide_false, ite_true, ite_false, reduceCtorEq, eq_self, and_self, true_and, and_true, false_and, and_false, Nat.reduceLT, Nat.reduceEqDiff, Nat.zero_add, Int.reduceLT, Int.ofNat_zero, Int.reduceGT, draw_is, d1, d2, d3, puA, Int.reduceEq, Bool.false_eq_true]
  · exact big 6 (.inr rfl) rfl
/-! ### a string -/
def abcS : Str := "abcdefghijklmnopqrstuvwxyz"
def sgnS : Str := " !\"#$&'()*+,-./0123456789:;<=>?@ABCDEFGHIJKLMNOPQRSTUVWXYZ[\\]^_`{|}~"
theorem ok_of {z : Str} (h : ∀ c ∈ z.cps.toList, c < 1114112) : PyData.strOk z = true := by
  unfold PyData.strOk
  rw [Array.all_eq_true]
  intro i hi
  exact decide_eq_true (h z.cps[i] (by simp))
theorem ok_lt {z : Str} (h : PyData.strOk z = true) : ∀ c ∈ z.cps.toList, c < 1114112 := fun c hc => by
  unfold PyData.strOk at h
  rw [Array.all_eq_true] at h
  obtain ⟨i, hi, e⟩ := List.mem_iff_getElem.mp hc
  have := h i (by simpa using hi)
  rw [← e]
  simpa using this
theorem ok_app {a b : Str} (ha : PyData.strOk a = true) (hb : PyData.strOk b = true) : PyData.strOk (a ++ b) = true := ok_of fun c hc => by
  have hc : c ∈ (a.cps ++ b.cps).toList := hc
  rw [Array.toList_append] at hc
  rcases List.mem_append.mp hc with h | h
  · exact ok_lt ha c h
  · exact ok_lt hb c h
theorem ok_cut {z : Str} {lo hi : Option Int} (h : PyData.strOk z = true) : PyData.strOk (cutS z lo hi) = true := ok_of fun c hc => by
  unfold cutS at hc
  simp only at hc
  exact ok_lt h c (List.mem_of_mem_drop (List.mem_of_mem_take hc))
theorem cut_len {z : Str} {lo hi : Option Int} : (cutS z lo hi).length ≤ z.length := by
  show (cutS z lo hi).cps.size ≤ z.cps.size
  unfold cutS
  simp
  omega
theorem ok_rep {z : Str} {k : Int} (h : PyData.strOk z = true) : PyData.strOk (repS z k) = true := ok_of fun c hc => ok_lt h c (by simpa using repS_mem (by simpa using hc))
def sE (z : Str) (a4 : Option D) : Env2 := [some (.ref 0), some (.str abcS), some (.str sgnS), some (.str z), a4, none, none]
theorem st_loop {R : MH} : ∀ (xs : List D) (s : Bx) (z : Str) (a4 : Option D), BxOk s → Low z → z.length + xs.length ≤ 20 →
    ∃ s' z' b4, forV (tgName 4) lp_law_string_1 xs (sE z a4) (s.obj :: R) = .nx (sE z' b4) (s'.obj :: R) ∧ BxOk s' ∧ Low z' ∧ z'.length = z.length + xs.length
  | [], s, z, a4, hs, hz, _ => ⟨s, z, a4, rfl, hs, hz, rfl⟩
  | x :: xs, s, z, a4, hs, hz, hl => by
    simp only [List.length_cons] at hl
    obtain ⟨r, s1, e1, r0, r1, h1⟩ := drawE (R := R) (n := 26) hs (by decide) (by decide)
    obtain ⟨c, ec, hc⟩ := ix_abc (M := s1.obj :: R) r0 r1
    have one : (⟨#[c]⟩ : Str).length = 1 := rfl
    have ea := add_str (a := z) (b := ⟨#[c]⟩) (M := s1.obj :: R) (by omega)
    obtain ⟨s2, z2, b4, e2, h2, hz2, hl2⟩ := st_loop (R := R) xs s1 (z ++ ⟨#[c]⟩) (some x) h1 (hz.app (low_one hc)) (by rw [app_len]; omega)
    refine ⟨s2, z2, b4, ?_, h2, hz2, by rw [hl2, app_len, List.length_cons]; omega⟩
    have eb : lp_law_string_1 (sE z (some x)) (s.obj :: R) = .nx (sE (z ++ ⟨#[c]⟩) (some x)) (s1.obj :: R) := by
      have ec : dIxA (.str abcS) (.int r) (s1.obj :: R) = .ok (.str ⟨#[c]⟩) (s1.obj :: R) := ec
      unfold lp_law_string_1
      simp only [y_seq, y_seq_nx, y_seq_rt, y_seq_ex, y_seq_bk, y_seq_ct, y_if, y_if_t, y_if_f, y_if_x, y_set, y_set_ok, y_set_x, y_ret, y_ret_ok, y_ret_x, y_retN, y_do, y_do_ok, y_do_x, y_nil, y_raise0, y_raise_ok, y_toR_rt, y_toR_nx, y_toR_ex, y_fn, y_c, y_var, y_var_ok, y_un, y_un_ok, y_un_x, y_bin, y_bin_ok, y_bin_x, y_anil, y_cons, y_cons1, y_cons1x, y_cons2, y_cons2x, y_args, y_args_ok, y_args_x, y_tup, y_tup_ok, y_fro, y_fro_ok, y_lst, y_lst_ok, y_call, y_stat, y_call_ok, y_callk, y_callk1, y_callk2, y_mkF, y_mkF_ok, y_own1, y_own1_ok, y_prop, y_own2, y_val, y_val_ok, y_val_x, y_and, y_and_t, y_and_f, y_or, y_or_t, y_or_f, y_not, y_not_ok, y_yes, y_eand_t, y_eand_f, y_eor_t, y_eor_f, y_enot_ok, y_eif, y_eif_t, y_eif_f, y_for_v, y_iseq, y_iseq_t, y_iseq_f, y_iseq_r, y_rng, y_env0, y_try, y_try_nx, y_try_rt, y_try0, y_try0_nx, y_try0_rt, y_fv0, y_fv_nx, y_fv_ct, y_fv_rt, y_lc_v, y_step, y_step_ok, y_istr, y_istr_ok, y_eApp, y_eSl, y_ePopAt, y_eIns, y_eChain, y_eMake, y_eMeth, y_eMakeRK, y_eMakeK, y_eMakeD, y_eStar, y_eXFld, y_eXIsF, y_sPutF, y_sSetIx, y_sIncF, y_sUnp, y_sUnpL, y_sDelD, y_oNone, y_oSome, y_iRange2, y_iZip2, y_eDNew, y_eLenO, y_eOwnIn, y_eDGet1, y_eDGet2, y_eDPop2, y_sForItems, y_eCallRK, y_eCallR, y_eLenSet, y_bind_ok, y_bind_x, y_toS_ok, y_toS_x, z_raise, z_own2_ok, z_eand, z_eor, z_enot, z_rng_ok, z_for_l, o_add, o_sub, o_lt, o_le, o_gt, o_ge, o_neg, o_eqi, o_nei, o_is0, o_is1, o_is2, o_is3, o_is4, o_is5, o_is6, o_is7, o_nt0, o_nt1, o_nt2, o_nt3, o_nt4, o_nt5, o_nt6, o_ix0, o_ix1, o_ix2, o_ix3, o_ix4, o_ix5, o_fx0, o_fx1, o_fx2, o_fx3, o_fx4, o_lenT, o_lenF, o_asB, o_tupF, o_tupT, o_listF, o_listFT, o_listL, o_listLT, o_tg1, o_tg2, o_wipe1, o_wipe2, o_yes, o_slT, o_slF, o_putF, o_li, o_liF, o_lenR, o_tupR, o_lstFR, o_lstLR, o_try_x, o_try0_x, o_unb_rt, o_unb_nx, o_rev, o_mkF, o_mkL, z_env0, fcal1, fcal2, fcal3, fcal4, List.map_cons, List.map_nil, List.replicate, List.append_nil, Nat.reduceSub, List.cons_append, List.nil_append, List.length_cons, List.length_nil, Nat.reduceAdd, Nat.reduceLeDiff, List.getElem?_cons_zero, List.getElem?_cons_succ, List.set_cons_zero, List.set_cons_succ, Bool.not_true, Bool.not_false, decide_true, decide_false, ite_true, ite_false, reduceCtorEq, eq_self, and_self, true_and, and_true, false_and, and_false, Nat.reduceLT, Nat.reduceEqDiff, Nat.zero_add, Int.reduceLT, Int.ofNat_zero, Int.reduceGT, sE, draw_is, e1, ec, ea]
    rw [forV, show tgName 4 x (sE z a4) = some (sE z (some x)) from rfl]
    dsimp only
    rw [eb]
    exact e2
theorem string_run {s : Bx} {R : MH} (hs : BxOk s) : ∃ (z : Str) (s' : Bx), m_law_string [.ref 0] (s.obj :: R) = .ok (.str z) (s'.obj :: R) ∧ BxOk s' ∧ PyData.strOk z = true ∧ z.length ≤ 500 := by
  obtain ⟨r, s1, d1, x1, y1, h1⟩ := drawE (R := R) (n := 11) hs (by decide) (by decide)
  obtain ⟨s2, z, b4, e2, h2, hz, hl⟩ := st_loop (R := R) (rangeD 0 r.toNat) s1 "" none h1 low_nil (by rw [rangeD_len, nil_len]; omega)
  rw [rangeD_len, nil_len] at hl
  obtain ⟨k, s3, d3, x3, y3, h3⟩ := drawE (R := R) (n := 7) h2 (by decide) (by decide)
  obtain ⟨p, s4, d4, x4, y4, h4⟩ := drawE (R := R) (n := (z.length : Int) + 1) h3 (by omega) (by omega)
  obtain ⟨q, s5, d5, x5, y5, h5⟩ := drawE (R := R) (n := 68) h4 (by decide) (by decide)
  obtain ⟨dm, s6, e6, hm, h6⟩ := pick_run (R := R) (ds := [D.str "on", .str "set", .str "new", .str "one", .str "sets", .str "ne", .str "onset", .str "newt"]) h3 (fun s => fro_seq s) (by decide) (by decide)
  have y1' : r < 1000000 := by omega
  have hzl : z.length ≤ 20 := by omega
  have nl : ("a" : Str).length = 1 := by decide +kernel
  have ad := fun M => add_str (a := z) (b := "a") (M := M) (by omega)
  have mu : ∀ M, dMulS (.str (z ++ ("a" : Str))) (.int 7) M = .ok (.str (repS (z ++ ("a" : Str)) 7)) M := fun M => by
    unfold dMulS
    dsimp only
    rw [if_pos ⟨by decide, by decide, by rw [app_len]; omega, by rw [app_len]; omega⟩]
  have ln : ∀ M, dLen [.str z] M = .ok (.int z.length) M := fun M => by
    show (if z.length ≤ big then Res.ok (D.int z.length) M else .bad) = _
    rw [if_pos (by unfold big; omega)]
  have lsg : ∀ M, dLen [.str sgnS] M = .ok (.int 68) M := fun M => by kernel_rfl
  have c1 : ∀ M, dSl mkF (.str z) none (some p) M = .ok (.str (cutS z none (some p))) M := fun M => by
    unfold dSl
    dsimp only
    rw [if_pos (by unfold big; omega)]
  have c2 : ∀ M, dSl mkF (.str z) (some (p + 1)) none M = .ok (.str (cutS z (some (p + 1)) none)) M := fun M => by
    unfold dSl
    dsimp only
    rw [if_pos (by unfold big; omega)]
  have sgl : sgnS.cps.toList.length = 68 := by decide +kernel
  obtain ⟨c, hc, hcm⟩ := atI_of (l := sgnS.cps.toList) x5 (by omega)
  have ix : ∀ M, dIxA (.str sgnS) (.int q) M = .ok (.str ⟨#[c]⟩) M := fun M => by
    show dIx (.str sgnS) (.int q) M = _
    unfold dIx
    dsimp only
    rw [if_pos (by unfold big; decide +kernel), hc]
  have hco : PyData.strOk ⟨#[c]⟩ = true := ok_of fun d hd => by
    have : d = c := by simpa using hd
    rw [this]
    exact (by decide +kernel : ∀ c ∈ sgnS.cps.toList, c < 1114112) c hcm
  have one : (⟨#[c]⟩ : Str).length = 1 := rfl
  have k1 := cut_len (z := z) (lo := none) (hi := some p)
  have k2 := cut_len (z := z) (lo := some (p + 1)) (hi := none)
  have a1 := fun M => add_str (a := cutS z none (some p)) (b := ⟨#[c]⟩) (M := M) (by omega)
  have a2 := fun M => add_str (a := cutS z none (some p) ++ (⟨#[c]⟩ : Str)) (b := cutS z (some (p + 1)) none) (M := M) (by rw [app_len]; omega)
  unfold sE at e2
  have go : ∀ b, (sSeq (sSet 1 (eC (.str "abcdefghijklmnopqrstuvwxyz")))
    (sSeq (sSet 2 (eC (.str " !\"#$&'()*+,-./0123456789:;<=>?@ABCDEFGHIJKLMNOPQRSTUVWXYZ[\\]^_`{|}~")))
    (sSeq (sSet 3 (eC (.str "")))
    (sSeq (sForI (iRange1 (eCall 2 m_law_draw (eCons (eVar 0) (eCons (eC (.int 11)) (eNil))))) (tgName 4) lp_law_string_1)
    (sSeq (sSet 5 (eCall 2 m_law_draw (eCons (eVar 0) (eCons (eC (.int 7)) (eNil))))) b))))) (env0 7 [.ref 0]) (s.obj :: R) = b [some (.ref 0), some (.str abcS), some (.str sgnS), some (.str z), b4, some (.int k), none] (s3.obj :: R) := fun b => by
    have w1 : D.str ("abcdefghijklmnopqrstuvwxyz" : Str) = .str abcS := rfl
    have w2 : D.str (" !\"#$&'()*+,-./0123456789:;<=>?@ABCDEFGHIJKLMNOPQRSTUVWXYZ[\\]^_`{|}~" : Str) = .str sgnS := rfl
    rw [w1, w2]
    simp only [y_seq, y_seq_nx, y_seq_rt, y_seq_ex, y_seq_bk, y_seq_ct, y_if, y_if_t, y_if_f, y_if_x, y_set, y_set_ok, y_set_x, y_ret, y_ret_ok, y_ret_x, y_retN, y_do, y_do_ok, y_do_x, y_nil, y_raise0, y_raise_ok, y_toR_rt, y_toR_nx, y_toR_ex, y_fn, y_c, y_var, y_var_ok, y_un, y_un_ok, y_un_x, y_bin, y_bin_ok, y_bin_x, y_anil, y_cons, y_cons1, y_cons1x, y_cons2, y_cons2x, y_args, y_args_ok, y_args_x, y_tup, y_tup_ok, y_fro, y_fro_ok, y_lst, y_lst_ok, y_call, y_stat, y_call_ok, y_callk, y_callk1, y_callk2, y_mkF, y_mkF_ok, y_own1, y_own1_ok, y_prop, y_own2, y_val, y_val_ok, y_val_x, y_and, y_and_t, y_and_f, y_or, y_or_t, y_or_f, y_not, y_not_ok, y_yes, y_eand_t, y_eand_f, y_eor_t, y_eor_f, y_enot_ok, y_eif, y_eif_t, y_eif_f, y_for_v, y_iseq, y_iseq_t, y_iseq_f, y_iseq_r, y_rng, y_env0, y_try, y_try_nx, y_try_rt, y_try0, y_try0_nx, y_try0_rt, y_fv0, y_fv_nx, y_fv_ct, y_fv_rt, y_lc_v, y_step, y_step_ok, y_istr, y_istr_ok, y_eApp, y_eSl, y_ePopAt, y_eIns, y_eChain, y_eMake, y_eMeth, y_eMakeRK, y_eMakeK, y_eMakeD, y_eStar, y_eXFld, y_eXIsF, y_sPutF, y_sSetIx, y_sIncF, y_sUnp, y_sUnpL, y_sDelD, y_oNone, y_oSome, y_iRange2, y_iZip2, y_eDNew, y_eLenO, y_eOwnIn, y_eDGet1, y_eDGet2, y_eDPop2, y_sForItems, y_eCallRK, y_eCallR, y_eLenSet, y_bind_ok, y_bind_x, y_toS_ok, y_toS_x, z_raise, z_own2_ok, z_eand, z_eor, z_enot, z_rng_ok, z_for_l, o_add, o_sub, o_lt, o_le, o_gt, o_ge, o_neg, o_eqi, o_nei, o_is0, o_is1, o_is2, o_is3, o_is4, o_is5, o_is6, o_is7, o_nt0, o_nt1, o_nt2, o_nt3, o_nt4, o_nt5, o_nt6, o_ix0, o_ix1, o_ix2, o_ix3, o_ix4, o_ix5, o_fx0, o_fx1, o_fx2, o_fx3, o_fx4, o_lenT, o_lenF, o_asB, o_tupF, o_tupT, o_listF, o_listFT, o_listL, o_listLT, o_tg1, o_tg2, o_wipe1, o_wipe2, o_yes, o_slT, o_slF, o_putF, o_li, o_liF, o_lenR, o_tupR, o_lstFR, o_lstLR, o_try_x, o_try0_x, o_unb_rt, o_unb_nx, o_rev, o_mkF, o_mkL, z_env0, fcal1, fcal2, fcal3, fcal4, List.map_cons, List.map_nil, List.replicate, List.append_nil, Nat.reduceSub, List.cons_append, List.nil_append, List.length_cons, List.length_nil, Nat.reduceAdd, Nat.reduceLeDiff, List.getElem?_cons_zero, List.getElem?_cons_succ, List.set_cons_zero, List.set_cons_succ, Bool.not_true, Bool.not_false, decide_true, decide_false, ite_true, ite_false, reduceCtorEq, eq_self, and_self, true_and, and_true, false_and, and_false, Nat.reduceLT, Nat.reduceEqDiff, Nat.zero_add, Int.reduceLT, Int.ofNat_zero, Int.reduceGT, z_for, draw_is, d1, x1, y1', e2, d3]
  have hk : k = 4 ∨ k = 5 ∨ k = 6 ∨ (k ≠ 4 ∧ k ≠ 5 ∧ k ≠ 6) := by omega
  rcases hk with rfl | rfl | rfl | ⟨n4, n5, n6⟩
  · refine ⟨repS (z ++ ("a" : Str)) 7, s3, ?_, h3, ok_rep (ok_app hz.ok (by decide +kernel)), by rw [repS_len, app_len, nl]; show (z.length + 1) * 7 ≤ 500; omega⟩
    unfold m_law_string b_law_string
    rw [z_fn, go]
    simp only [y_seq, y_seq_nx, y_seq_rt, y_seq_ex, y_seq_bk, y_seq_ct, y_if, y_if_t, y_if_f, y_if_x, y_set, y_set_ok, y_set_x, y_ret, y_ret_ok, y_ret_x, y_retN, y_do, y_do_ok, y_do_x, y_nil, y_raise0, y_raise_ok, y_toR_rt, y_toR_nx, y_toR_ex, y_fn, y_c, y_var, y_var_ok, y_un, y_un_ok, y_un_x, y_bin, y_bin_ok, y_bin_x, y_anil, y_cons, y_cons1, y_cons1x, y_cons2, y_cons2x, y_args, y_args_ok, y_args_x, y_tup, y_tup_ok, y_fro, y_fro_ok, y_lst, y_lst_ok, y_call, y_stat, y_call_ok, y_callk, y_callk1, y_callk2, y_mkF, y_mkF_ok, y_own1, y_own1_ok, y_prop, y_own2, y_val, y_val_ok, y_val_x, y_and, y_and_t, y_and_f, y_or, y_or_t, y_or_f, y_not, y_not_ok, y_yes, y_eand_t, y_eand_f, y_eor_t, y_eor_f, y_enot_ok, y_eif, y_eif_t, y_eif_f, y_for_v, y_iseq, y_iseq_t, y_iseq_f, y_iseq_r, y_rng, y_env0, y_try, y_try_nx, y_try_rt, y_try0, y_try0_nx, y_try0_rt, y_fv0, y_fv_nx, y_fv_ct, y_fv_rt, y_lc_v, y_step, y_step_ok, y_istr, y_istr_ok, y_eApp, y_eSl, y_ePopAt, y_eIns, y_eChain, y_eMake, y_eMeth, y_eMakeRK, y_eMakeK, y_eMakeD, y_eStar, y_eXFld, y_eXIsF, y_sPutF, y_sSetIx, y_sIncF, y_sUnp, y_sUnpL, y_sDelD, y_oNone, y_oSome, y_iRange2, y_iZip2, y_eDNew, y_eLenO, y_eOwnIn, y_eDGet1, y_eDGet2, y_eDPop2, y_sForItems, y_eCallRK, y_eCallR, y_eLenSet, y_bind_ok, y_bind_x, y_toS_ok, y_toS_x, z_raise, z_own2_ok, z_eand, z_eor, z_enot, z_rng_ok, z_for_l, o_add, o_sub, o_lt, o_le, o_gt, o_ge, o_neg, o_eqi, o_nei, o_is0, o_is1, o_is2, o_is3, o_is4, o_is5, o_is6, o_is7, o_nt0, o_nt1, o_nt2, o_nt3, o_nt4, o_nt5, o_nt6, o_ix0, o_ix1, o_ix2, o_ix3, o_ix4, o_ix5, o_fx0, o_fx1, o_fx2, o_fx3, o_fx4, o_lenT, o_lenF, o_asB, o_tupF, o_tupT, o_listF, o_listFT, o_listL, o_listLT, o_tg1, o_tg2, o_wipe1, o_wipe2, o_yes, o_slT, o_slF, o_putF, o_li, o_liF, o_lenR, o_tupR, o_lstFR, o_lstLR, o_try_x, o_try0_x, o_unb_rt, o_unb_nx, o_rev, o_mkF, o_mkL, z_env0, fcal1, fcal2, fcal3, fcal4, List.map_cons, List.map_nil, List.replicate, List.append_nil, Nat.reduceSub, List.cons_append, List.nil_append, List.length_cons, List.length_nil, Nat.reduceAdd, Nat.reduceLeDiff, List.getElem?_cons_zero, List.getElem?_cons_succ, List.set_cons_zero, List.set_cons_succ, Bool.not_true, Bool.not_false, decide_true, decide_false, ite_true, ite_false, reduceCtorEq, eq_self, and_self, true_and, and_true, false_and, and_false, Nat.reduceLT, Nat.reduceEqDiff, Nat.zero_add, Int.reduceLT, Int.ofNat_zero, Int.reduceGT, ad, mu, Int.reduceEq, Bool.false_eq_true]
  · have hdm : ∃ z : Str, dm = .str z ∧ PyData.strOk z = true ∧ z.length ≤ 500 := by
      simp only [List.mem_cons, List.not_mem_nil, or_false] at hm
      rcases hm with rfl | rfl | rfl | rfl | rfl | rfl | rfl | rfl <;> exact ⟨_, rfl, by decide +kernel, by decide +kernel⟩
    obtain ⟨y, rfl, hy, hyl⟩ := hdm
    refine ⟨y, s6, ?_, h6, hy, hyl⟩
    unfold m_law_string b_law_string
    rw [z_fn, go]
    simp only [y_seq, y_seq_nx, y_seq_rt, y_seq_ex, y_seq_bk, y_seq_ct, y_if, y_if_t, y_if_f, y_if_x, y_set, y_set_ok, y_set_x, y_ret, y_ret_ok, y_ret_x, y_retN, y_do, y_do_ok, y_do_x, y_nil, y_raise0, y_raise_ok, y_toR_rt, y_toR_nx, y_toR_ex, y_fn, y_c, y_var, y_var_ok, y_un, y_un_ok, y_un_x, y_bin, y_bin_ok, y_bin_x, y_anil, y_cons, y_cons1, y_cons1x, y_cons2, y_cons2x, y_args, y_args_ok, y_args_x, y_tup, y_tup_ok, y_fro, y_fro_ok, y_lst, y_lst_ok, y_call, y_stat, y_call_ok, y_callk, y_callk1, y_callk2, y_mkF, y_mkF_ok, y_own1, y_own1_ok, y_prop, y_own2, y_val, y_val_ok, y_val_x, y_and, y_and_t, y_and_f, y_or, y_or_t, y_or_f, y_not, y_not_ok, y_yes, y_eand_t, y_eand_f, y_eor_t, y_eor_f, y_enot_ok, y_eif, y_eif_t, y_eif_f, y_for_v, y_iseq, y_iseq_t, y_iseq_f, y_iseq_r, y_rng, y_env0, y_try, y_try_nx, y_try_rt, y_try0, y_try0_nx, y_try0_rt, y_fv0, y_fv_nx, y_fv_ct, y_fv_rt, y_lc_v, y_step, y_step_ok, y_istr, y_istr_ok, y_eApp, y_eSl, y_ePopAt, y_eIns, y_eChain, y_eMake, y_eMeth, y_eMakeRK, y_eMakeK, y_eMakeD, y_eStar, y_eXFld, y_eXIsF, y_sPutF, y_sSetIx, y_sIncF, y_sUnp, y_sUnpL, y_sDelD, y_oNone, y_oSome, y_iRange2, y_iZip2, y_eDNew, y_eLenO, y_eOwnIn, y_eDGet1, y_eDGet2, y_eDPop2, y_sForItems, y_eCallRK, y_eCallR, y_eLenSet, y_bind_ok, y_bind_x, y_toS_ok, y_toS_x, z_raise, z_own2_ok, z_eand, z_eor, z_enot, z_rng_ok, z_for_l, o_add, o_sub, o_lt, o_le, o_gt, o_ge, o_neg, o_eqi, o_nei, o_is0, o_is1, o_is2, o_is3, o_is4, o_is5, o_is6, o_is7, o_nt0, o_nt1, o_nt2, o_nt3, o_nt4, o_nt5, o_nt6, o_ix0, o_ix1, o_ix2, o_ix3, o_ix4, o_ix5, o_fx0, o_fx1, o_fx2, o_fx3, o_fx4, o_lenT, o_lenF, o_asB, o_tupF, o_tupT, o_listF, o_listFT, o_listL, o_listLT, o_tg1, o_tg2, o_wipe1, o_wipe2, o_yes, o_slT, o_slF, o_putF, o_li, o_liF, o_lenR, o_tupR, o_lstFR, o_lstLR, o_try_x, o_try0_x, o_unb_rt, o_unb_nx, o_rev, o_mkF, o_mkL, z_env0, fcal1, fcal2, fcal3, fcal4, List.map_cons, List.map_nil, List.replicate, List.append_nil, Nat.reduceSub, List.cons_append, List.nil_append, List.length_cons, List.length_nil, Nat.reduceAdd, Nat.reduceLeDiff, List.getElem?_cons_zero, List.getElem?_cons_succ, List.set_cons_zero, List.set_cons_succ, Bool.not_true, Bool.not_false, decide_true, decide_false, ite_true, ite_false, reduceCtorEq, eq_self, and_self, true_and, and_true, false_and, and_false, Nat.reduceLT, Nat.reduceEqDiff, Nat.zero_add, Int.reduceLT, Int.ofNat_zero, Int.reduceGT, pick_is, e6, Int.reduceEq, Bool.false_eq_true]
  · refine ⟨cutS z none (some p) ++ (⟨#[c]⟩ : Str) ++ cutS z (some (p + 1)) none, s5, ?_, h5, ok_app (ok_app (ok_cut hz.ok) hco) (ok_cut hz.ok), by rw [app_len, app_len]; omega⟩
    unfold m_law_string b_law_string
    rw [z_fn, go]
    simp only [y_seq, y_seq_nx, y_seq_rt, y_seq_ex, y_seq_bk, y_seq_ct, y_if, y_if_t, y_if_f, y_if_x, y_set, y_set_ok, y_set_x, y_ret, y_ret_ok, y_ret_x, y_retN, y_do, y_do_ok, y_do_x, y_nil, y_raise0, y_raise_ok, y_toR_rt, y_toR_nx, y_toR_ex, y_fn, y_c, y_var, y_var_ok, y_un, y_un_ok, y_un_x, y_bin, y_bin_ok, y_bin_x, y_anil, y_cons, y_cons1, y_cons1x, y_cons2, y_cons2x, y_args, y_args_ok, y_args_x, y_tup, y_tup_ok, y_fro, y_fro_ok, y_lst, y_lst_ok, y_call, y_stat, y_call_ok, y_callk, y_callk1, y_callk2, y_mkF, y_mkF_ok, y_own1, y_own1_ok, y_prop, y_own2, y_val, y_val_ok, y_val_x, y_and, y_and_t, y_and_f, y_or, y_or_t, y_or_f, y_not, y_not_ok, y_yes, y_eand_t, y_eand_f, y_eor_t, y_eor_f, y_enot_ok, y_eif, y_eif_t, y_eif_f, y_for_v, y_iseq, y_iseq_t, y_iseq_f, y_iseq_r, y_rng, y_env0, y_try, y_try_nx, y_try_rt, y_try0, y_try0_nx, y_try0_rt, y_fv0, y_fv_nx, y_fv_ct, y_fv_rt, y_lc_v, y_step, y_step_ok, y_istr, y_istr_ok, y_eApp, y_eSl, y_ePopAt, y_eIns, y_eChain, y_eMake, y_eMeth, y_eMakeRK, y_eMakeK, y_eMakeD, y_eStar, y_eXFld, y_eXIsF, y_sPutF, y_sSetIx, y_sIncF, y_sUnp, y_sUnpL, y_sDelD, y_oNone, y_oSome, y_iRange2, y_iZip2, y_eDNew, y_eLenO, y_eOwnIn, y_eDGet1, y_eDGet2, y_eDPop2, y_sForItems, y_eCallRK, y_eCallR, y_eLenSet, y_bind_ok, y_bind_x, y_toS_ok, y_toS_x, z_raise, z_own2_ok, z_eand, z_eor, z_enot, z_rng_ok, z_for_l, o_add, o_sub, o_lt, o_le, o_gt, o_ge, o_neg, o_eqi, o_nei, o_is0, o_is1, o_is2, o_is3, o_is4, o_is5, o_is6, o_is7, o_nt0, o_nt1, o_nt2, o_nt3, o_nt4, o_nt5, o_nt6, o_ix0, o_ix1, o_ix2, o_ix3, o_ix4, o_ix5, o_fx0, o_fx1, o_fx2, o_fx3, o_fx4, o_lenT, o_lenF, o_asB, o_tupF, o_tupT, o_listF, o_listFT, o_listL, o_listLT, o_tg1, o_tg2, o_wipe1, o_wipe2, o_yes, o_slT, o_slF, o_putF, o_li, o_liF, o_lenR, o_tupR, o_lstFR, o_lstLR, o_try_x, o_try0_x, o_unb_rt, o_unb_nx, o_rev, o_mkF, o_mkL, z_env0, fcal1, fcal2, fcal3, fcal4, List.map_cons, List.map_nil, List.replicate, List.append_nil, Nat.reduceSub, List.cons_append, List.nil_append, List.length_cons, List.length_nil, Nat.reduceAdd, Nat.reduceLeDiff, List.getElem?_cons_zero, List.getElem?_cons_succ, List.set_cons_zero, List.set_cons_succ, Bool.not_true, Bool.not_false, decide_true, decide_false, ite_true, ite_false, reduceCtorEq, eq_self, and_self, true_and, and_true, false_and, and_false, Nat.reduceLT, Nat.reduceEqDiff, Nat.zero_add, Int.reduceLT, Int.ofNat_zero, Int.reduceGT, draw_is, ln, d4, c1, c2, lsg, d5, ix, a1, a2, Int.reduceEq, Bool.false_eq_true]
  · refine ⟨z, s3, ?_, h3, hz.ok, by omega⟩
    unfold m_law_string b_law_string
    rw [z_fn, go]
    simp only [y_seq, y_seq_nx, y_seq_rt, y_seq_ex, y_seq_bk, y_seq_ct, y_if, y_if_t, y_if_f, y_if_x, y_set, y_set_ok, y_set_x, y_ret, y_ret_ok, y_ret_x, y_retN, y_do, y_do_ok, y_do_x, y_nil, y_raise0, y_raise_ok, y_toR_rt, y_toR_nx, y_toR_ex, y_fn, y_c, y_var, y_var_ok, y_un, y_un_ok, y_un_x, y_bin, y_bin_ok, y_bin_x, y_anil, y_cons, y_cons1, y_cons1x, y_cons2, y_cons2x, y_args, y_args_ok, y_args_x, y_tup, y_tup_ok, y_fro, y_fro_ok, y_lst, y_lst_ok, y_call, y_stat, y_call_ok, y_callk, y_callk1, y_callk2, y_mkF, y_mkF_ok, y_own1, y_own1_ok, y_prop, y_own2, y_val, y_val_ok, y_val_x, y_and, y_and_t, y_and_f, y_or, y_or_t, y_or_f, y_not, y_not_ok, y_yes, y_eand_t, y_eand_f, y_eor_t, y_eor_f, y_enot_ok, y_eif, y_eif_t, y_eif_f, y_for_v, y_iseq, y_iseq_t, y_iseq_f, y_iseq_r, y_rng, y_env0, y_try, y_try_nx, y_try_rt, y_try0, y_try0_nx, y_try0_rt, y_fv0, y_fv_nx, y_fv_ct, y_fv_rt, y_lc_v, y_step, y_step_ok, y_istr, y_istr_ok, y_eApp, y_eSl, y_ePopAt, y_eIns, y_eChain, y_eMake, y_eMeth, y_eMakeRK, y_eMakeK, y_eMakeD, y_eStar, y_eXFld, y_eXIsF, y_sPutF, y_sSetIx, y_sIncF, y_sUnp, y_sUnpL, y_sDelD, y_oNone, y_oSome, y_iRange2, y_iZip2, y_eDNew, y_eLenO, y_eOwnIn, y_eDGet1, y_eDGet2, y_eDPop2, y_sForItems, y_eCallRK, y_eCallR, y_eLenSet, y_bind_ok, y_bind_x, y_toS_ok, y_toS_x, z_raise, z_own2_ok, z_eand, z_eor, z_enot, z_rng_ok, z_for_l, o_add, o_sub, o_lt, o_le, o_gt, o_ge, o_neg, o_eqi, o_nei, o_is0, o_is1, o_is2, o_is3, o_is4, o_is5, o_is6, o_is7, o_nt0, o_nt1, o_nt2, o_nt3, o_nt4, o_nt5, o_nt6, o_ix0, o_ix1, o_ix2, o_ix3, o_ix4, o_ix5, o_fx0, o_fx1, o_fx2, o_fx3, o_fx4, o_lenT, o_lenF, o_asB, o_tupF, o_tupT, o_listF, o_listFT, o_listL, o_listLT, o_tg1, o_tg2, o_wipe1, o_wipe2, o_yes, o_slT, o_slF, o_putF, o_li, o_liF, o_lenR, o_tupR, o_lstFR, o_lstLR, o_try_x, o_try0_x, o_unb_rt, o_unb_nx, o_rev, o_mkF, o_mkL, z_env0, fcal1, fcal2, fcal3, fcal4, List.map_cons, List.map_nil, List.replicate, List.append_nil, Nat.reduceSub, List.cons_append, List.nil_append, List.length_cons, List.length_nil, Nat.reduceAdd, Nat.reduceLeDiff, List.getElem?_cons_zero, List.getElem?_cons_succ, List.set_cons_zero, List.set_cons_succ, Bool.not_true, Bool.not_false, decide_true, decide_false, ite_true, ite_false, reduceCtorEq, eq_self, and_self, true_and, and_true, false_and, and_false, Nat.reduceLT, Nat.reduceEqDiff, Nat.zero_add, Int.reduceLT, Int.ofNat_zero, Int.reduceGT, n4, n5, n6, Bool.false_eq_true]
/-! ### rows, equal ones too -/
def wE (R : MH) (a2 a3 : Option D) : Env2 := [some (.ref 0), some (.ref (R.length + 1)), a2, a3]
theorem rw_body {s : Bx} {R : MH} {ws : List Rw} {a2 a3 : Option D} (hs : BxOk s) (hl : ws.length ≤ 100) : ∃ (w : Rw) (s' : Bx), lp_law_rows_1 (wE R a2 a3) (s.obj :: (R ++ [.lst (ws.map Rw.d)])) = .nx (wE R a2 (some w.d)) (s'.obj :: (R ++ [.lst (ws.map Rw.d ++ [w.d])])) ∧ BxOk s' := by
  obtain ⟨w, s1, e1, h1⟩ := row_run (R := R ++ [.lst (ws.map Rw.d)]) hs
  have bg : ws.length < big := by unfold big; omega
  have sq : ∀ s : Bx, SeqOf (s.obj :: (R ++ [.lst (ws.map Rw.d)])) "list" (.ref (R.length + 1)) (ws.map Rw.d) := fun s => ref_seq (by simp) s
  have ln : ∀ s : Bx, dLen [.ref (R.length + 1)] (s.obj :: (R ++ [.lst (ws.map Rw.d)])) = .ok (.int ws.length) (s.obj :: (R ++ [.lst (ws.map Rw.d)])) := fun s => by
    have := (sq s).len
    rw [List.length_map] at this
    exact this
  cases ws with
  | nil =>
    refine ⟨w, s1, ?_, h1⟩
    have e1 : rowM [D.ref 0] (s.obj :: (R ++ [MO.lst []])) = .ok w.d (s1.obj :: (R ++ [MO.lst []])) := e1
    have ln : ∀ s : Bx, dLen [.ref (R.length + 1)] (s.obj :: (R ++ [MO.lst []])) = .ok (.int 0) (s.obj :: (R ++ [MO.lst []])) := ln
    unfold lp_law_rows_1
    simp only [y_seq, y_seq_nx, y_seq_rt, y_seq_ex, y_seq_bk, y_seq_ct, y_if, y_if_t, y_if_f, y_if_x, y_set, y_set_ok, y_set_x, y_ret, y_ret_ok, y_ret_x, y_retN, y_do, y_do_ok, y_do_x, y_nil, y_raise0, y_raise_ok, y_toR_rt, y_toR_nx, y_toR_ex, y_fn, y_c, y_var, y_var_ok, y_un, y_un_ok, y_un_x, y_bin, y_bin_ok, y_bin_x, y_anil, y_cons, y_cons1, y_cons1x, y_cons2, y_cons2x, y_args, y_args_ok, y_args_x, y_tup, y_tup_ok, y_fro, y_fro_ok, y_lst, y_lst_ok, y_call, y_stat, y_call_ok, y_callk, y_callk1, y_callk2, y_mkF, y_mkF_ok, y_own1, y_own1_ok, y_prop, y_own2, y_val, y_val_ok, y_val_x, y_and, y_and_t, y_and_f, y_or, y_or_t, y_or_f, y_not, y_not_ok, y_yes, y_eand_t, y_eand_f, y_eor_t, y_eor_f, y_enot_ok, y_eif, y_eif_t, y_eif_f, y_for_v, y_iseq, y_iseq_t, y_iseq_f, y_iseq_r, y_rng, y_env0, y_try, y_try_nx, y_try_rt, y_try0, y_try0_nx, y_try0_rt, y_fv0, y_fv_nx, y_fv_ct, y_fv_rt, y_lc_v, y_step, y_step_ok, y_istr, y_istr_ok, y_eApp, y_eSl, y_ePopAt, y_eIns, y_eChain, y_eMake, y_eMeth, y_eMakeRK, y_eMakeK, y_eMakeD, y_eStar, y_eXFld, y_eXIsF, y_sPutF, y_sSetIx, y_sIncF, y_sUnp, y_sUnpL, y_sDelD, y_oNone, y_oSome, y_iRange2, y_iZip2, y_eDNew, y_eLenO, y_eOwnIn, y_eDGet1, y_eDGet2, y_eDPop2, y_sForItems, y_eCallRK, y_eCallR, y_eLenSet, y_bind_ok, y_bind_x, y_toS_ok, y_toS_x, z_raise, z_own2_ok, z_eand, z_eor, z_enot, z_rng_ok, z_for_l, o_add, o_sub, o_lt, o_le, o_gt, o_ge, o_neg, o_eqi, o_nei, o_is0, o_is1, o_is2, o_is3, o_is4, o_is5, o_is6, o_is7, o_nt0, o_nt1, o_nt2, o_nt3, o_nt4, o_nt5, o_nt6, o_ix0, o_ix1, o_ix2, o_ix3, o_ix4, o_ix5, o_fx0, o_fx1, o_fx2, o_fx3, o_fx4, o_lenT, o_lenF, o_asB, o_tupF, o_tupT, o_listF, o_listFT, o_listL, o_listLT, o_tg1, o_tg2, o_wipe1, o_wipe2, o_yes, o_slT, o_slF, o_putF, o_li, o_liF, o_lenR, o_tupR, o_lstFR, o_lstLR, o_try_x, o_try0_x, o_unb_rt, o_unb_nx, o_rev, o_mkF, o_mkL, z_env0, fcal1, fcal2, fcal3, fcal4, List.map_cons, List.map_nil, List.replicate, List.append_nil, Nat.reduceSub, List.cons_append, List.nil_append, List.length_cons, List.length_nil, Nat.reduceAdd, Nat.reduceLeDiff, List.getElem?_cons_zero, List.getElem?_cons_succ, List.set_cons_zero, List.set_cons_succ, Bool.not_true, Bool.not_false, decide_true, decide_false, ite_true, ite_false, reduceCtorEq, eq_self, and_self, true_and, and_true, false_and, and_false, Nat.reduceLT, Nat.reduceEqDiff, Nat.zero_add, Int.reduceLT, Int.ofNat_zero, Int.reduceGT, g_0, g_1, g_2, g_3, g_4, s_0, s_1, s_2, s_3, s_4, g_5, s_5, g_6, s_6, g_7, s_7, g_8, s_8, List.append_assoc, List.length_append, wE, lrow_is, e1, ln, Bool.false_eq_true, Int.lt_irrefl, gt_iff_lt, big_0]
  | cons w0 ws =>
    obtain ⟨r, s2, d2, x2, y2, h2⟩ := drawE (R := R ++ [.lst ((w0 :: ws).map Rw.d)]) (n := 4) h1 (by decide) (by decide)
    have pos : (0 : Int) < ((w0 :: ws).length : Nat) := by rw [List.length_cons]; omega
    by_cases hr : r = 0
    · subst hr
      obtain ⟨q, s3, d3, x3, y3, h3⟩ := drawE (R := R ++ [.lst ((w0 :: ws).map Rw.d)]) (n := ((w0 :: ws).length : Nat)) h2 pos (by omega)
      have hq : q.toNat < (w0 :: ws).length := by omega
      have ix := (sq s3).ix (j := q.toNat) (a := ((w0 :: ws)[q.toNat]).d) (by rw [List.getElem?_map, List.getElem?_eq_getElem hq]; rfl)
      rw [show ((q.toNat : Nat) : Int) = q by omega] at ix
      refine ⟨(w0 :: ws)[q.toNat], s3, ?_, h3⟩
      generalize hW : w0 :: ws = W at *
      generalize W[q.toNat] = v at *
      have hbg : (W.map Rw.d).length < big := by rw [List.length_map]; exact bg
      unfold lp_law_rows_1
      simp only [y_seq, y_seq_nx, y_seq_rt, y_seq_ex, y_seq_bk, y_seq_ct, y_if, y_if_t, y_if_f, y_if_x, y_set, y_set_ok, y_set_x, y_ret, y_ret_ok, y_ret_x, y_retN, y_do, y_do_ok, y_do_x, y_nil, y_raise0, y_raise_ok, y_toR_rt, y_toR_nx, y_toR_ex, y_fn, y_c, y_var, y_var_ok, y_un, y_un_ok, y_un_x, y_bin, y_bin_ok, y_bin_x, y_anil, y_cons, y_cons1, y_cons1x, y_cons2, y_cons2x, y_args, y_args_ok, y_args_x, y_tup, y_tup_ok, y_fro, y_fro_ok, y_lst, y_lst_ok, y_call, y_stat, y_call_ok, y_callk, y_callk1, y_callk2, y_mkF, y_mkF_ok, y_own1, y_own1_ok, y_prop, y_own2, y_val, y_val_ok, y_val_x, y_and, y_and_t, y_and_f, y_or, y_or_t, y_or_f, y_not, y_not_ok, y_yes, y_eand_t, y_eand_f, y_eor_t, y_eor_f, y_enot_ok, y_eif, y_eif_t, y_eif_f, y_for_v, y_iseq, y_iseq_t, y_iseq_f, y_iseq_r, y_rng, y_env0, y_try, y_try_nx, y_try_rt, y_try0, y_try0_nx, y_try0_rt, y_fv0, y_fv_nx, y_fv_ct, y_fv_rt, y_lc_v, y_step, y_step_ok, y_istr, y_istr_ok, y_eApp, y_eSl, y_ePopAt, y_eIns, y_eChain, y_eMake, y_eMeth, y_eMakeRK, y_eMakeK, y_eMakeD, y_eStar, y_eXFld, y_eXIsF, y_sPutF, y_sSetIx, y_sIncF, y_sUnp, y_sUnpL, y_sDelD, y_oNone, y_oSome, y_iRange2, y_iZip2, y_eDNew, y_eLenO, y_eOwnIn, y_eDGet1, y_eDGet2, y_eDPop2, y_sForItems, y_eCallRK, y_eCallR, y_eLenSet, y_bind_ok, y_bind_x, y_toS_ok, y_toS_x, z_raise, z_own2_ok, z_eand, z_eor, z_enot, z_rng_ok, z_for_l, o_add, o_sub, o_lt, o_le, o_gt, o_ge, o_neg, o_eqi, o_nei, o_is0, o_is1, o_is2, o_is3, o_is4, o_is5, o_is6, o_is7, o_nt0, o_nt1, o_nt2, o_nt3, o_nt4, o_nt5, o_nt6, o_ix0, o_ix1, o_ix2, o_ix3, o_ix4, o_ix5, o_fx0, o_fx1, o_fx2, o_fx3, o_fx4, o_lenT, o_lenF, o_asB, o_tupF, o_tupT, o_listF, o_listFT, o_listL, o_listLT, o_tg1, o_tg2, o_wipe1, o_wipe2, o_yes, o_slT, o_slF, o_putF, o_li, o_liF, o_lenR, o_tupR, o_lstFR, o_lstLR, o_try_x, o_try0_x, o_unb_rt, o_unb_nx, o_rev, o_mkF, o_mkL, z_env0, fcal1, fcal2, fcal3, fcal4, List.map_cons, List.map_nil, List.replicate, List.append_nil, Nat.reduceSub, List.cons_append, List.nil_append, List.length_cons, List.length_nil, Nat.reduceAdd, Nat.reduceLeDiff, List.getElem?_cons_zero, List.getElem?_cons_succ, List.set_cons_zero, List.set_cons_succ, Bool.not_true, Bool.not_false, decide_true, decide_false, ite_true, ite_false, reduceCtorEq, eq_self, and_self, true_and, and_true, false_and, and_false, Nat.reduceLT, Nat.reduceEqDiff, Nat.zero_add, Int.reduceLT, Int.ofNat_zero, Int.reduceGT, g_0, g_1, g_2, g_3, g_4, s_0, s_1, s_2, s_3, s_4, g_5, s_5, g_6, s_6, g_7, s_7, g_8, s_8, List.append_assoc, List.length_append, wE, lrow_is, e1, ln, pos, draw_is, d2, d3, ix, hbg, Bool.false_eq_true, gt_iff_lt]
    · refine ⟨w, s2, ?_, h2⟩
      generalize hW : w0 :: ws = W at *
      have hbg : (W.map Rw.d).length < big := by rw [List.length_map]; exact bg
      unfold lp_law_rows_1
      simp only [y_seq, y_seq_nx, y_seq_rt, y_seq_ex, y_seq_bk, y_seq_ct, y_if, y_if_t, y_if_f, y_if_x, y_set, y_set_ok, y_set_x, y_ret, y_ret_ok, y_ret_x, y_retN, y_do, y_do_ok, y_do_x, y_nil, y_raise0, y_raise_ok, y_toR_rt, y_toR_nx, y_toR_ex, y_fn, y_c, y_var, y_var_ok, y_un, y_un_ok, y_un_x, y_bin, y_bin_ok, y_bin_x, y_anil, y_cons, y_cons1, y_cons1x, y_cons2, y_cons2x, y_args, y_args_ok, y_args_x, y_tup, y_tup_ok, y_fro, y_fro_ok, y_lst, y_lst_ok, y_call, y_stat, y_call_ok, y_callk, y_callk1, y_callk2, y_mkF, y_mkF_ok, y_own1, y_own1_ok, y_prop, y_own2, y_val, y_val_ok, y_val_x, y_and, y_and_t, y_and_f, y_or, y_or_t, y_or_f, y_not, y_not_ok, y_yes, y_eand_t, y_eand_f, y_eor_t, y_eor_f, y_enot_ok, y_eif, y_eif_t, y_eif_f, y_for_v, y_iseq, y_iseq_t, y_iseq_f, y_iseq_r, y_rng, y_env0, y_try, y_try_nx, y_try_rt, y_try0, y_try0_nx, y_try0_rt, y_fv0, y_fv_nx, y_fv_ct, y_fv_rt, y_lc_v, y_step, y_step_ok, y_istr, y_istr_ok, y_eApp, y_eSl, y_ePopAt, y_eIns, y_eChain, y_eMake, y_eMeth, y_eMakeRK, y_eMakeK, y_eMakeD, y_eStar, y_eXFld, y_eXIsF, y_sPutF, y_sSetIx, y_sIncF, y_sUnp, y_sUnpL, y_sDelD, y_oNone, y_oSome, y_iRange2, y_iZip2, y_eDNew, y_eLenO, y_eOwnIn, y_eDGet1, y_eDGet2, y_eDPop2, y_sForItems, y_eCallRK, y_eCallR, y_eLenSet, y_bind_ok, y_bind_x, y_toS_ok, y_toS_x, z_raise, z_own2_ok, z_eand, z_eor, z_enot, z_rng_ok, z_for_l, o_add, o_sub, o_lt, o_le, o_gt, o_ge, o_neg, o_eqi, o_nei, o_is0, o_is1, o_is2, o_is3, o_is4, o_is5, o_is6, o_is7, o_nt0, o_nt1, o_nt2, o_nt3, o_nt4, o_nt5, o_nt6, o_ix0, o_ix1, o_ix2, o_ix3, o_ix4, o_ix5, o_fx0, o_fx1, o_fx2, o_fx3, o_fx4, o_lenT, o_lenF, o_asB, o_tupF, o_tupT, o_listF, o_listFT, o_listL, o_listLT, o_tg1, o_tg2, o_wipe1, o_wipe2, o_yes, o_slT, o_slF, o_putF, o_li, o_liF, o_lenR, o_tupR, o_lstFR, o_lstLR, o_try_x, o_try0_x, o_unb_rt, o_unb_nx, o_rev, o_mkF, o_mkL, z_env0, fcal1, fcal2, fcal3, fcal4, List.map_cons, List.map_nil, List.replicate, List.append_nil, Nat.reduceSub, List.cons_append, List.nil_append, List.length_cons, List.length_nil, Nat.reduceAdd, Nat.reduceLeDiff, List.getElem?_cons_zero, List.getElem?_cons_succ, List.set_cons_zero, List.set_cons_succ, Bool.not_true, Bool.not_false, decide_true, decide_false, ite_true, ite_false, reduceCtorEq, eq_self, and_self, true_and, and_true, false_and, and_false, Nat.reduceLT, Nat.reduceEqDiff, Nat.zero_add, Int.reduceLT, Int.ofNat_zero, Int.reduceGT, g_0, g_1, g_2, g_3, g_4, s_0, s_1, s_2, s_3, s_4, g_5, s_5, g_6, s_6, g_7, s_7, g_8, s_8, List.append_assoc, List.length_append, wE, lrow_is, e1, ln, pos, draw_is, d2, hr, hbg, Bool.false_eq_true, gt_iff_lt]
theorem rw_loop {R : MH} : ∀ (xs : List D) (s : Bx) (ws : List Rw) (a2 a3 : Option D), BxOk s → ws.length + xs.length ≤ 50 → ∃ (ws' : List Rw) (s' : Bx) (b2 b3 : Option D), forV (tgName 2) lp_law_rows_1 xs (wE R a2 a3) (s.obj :: (R ++ [.lst (ws.map Rw.d)])) = .nx (wE R b2 b3) (s'.obj :: (R ++ [.lst (ws'.map Rw.d)])) ∧ BxOk s' ∧ ws'.length = ws.length + xs.length
  | [], s, ws, a2, a3, hs, _ => ⟨ws, s, a2, a3, rfl, hs, rfl⟩
  | x :: xs, s, ws, a2, a3, hs, hl => by
    simp only [List.length_cons] at hl
    obtain ⟨w, s1, e1, h1⟩ := rw_body (R := R) (ws := ws) (a2 := some x) (a3 := a3) hs (by omega)
    obtain ⟨ws', s2, b2, b3, e2, h2, h3⟩ := rw_loop (R := R) xs s1 (ws ++ [w]) (some x) (some w.d) h1 (by simp; omega)
    refine ⟨ws', s2, b2, b3, ?_, h2, by rw [h3]; simp; omega⟩
    rw [List.map_append, List.map_cons, List.map_nil] at e2
    rw [forV, show tgName 2 x (wE R a2 a3) = some (wE R (some x) a3) from rfl]
    dsimp only
    rw [e1]
    exact e2
theorem rows_run {s : Bx} {R : MH} (hs : BxOk s) : ∃ (ws : List Rw) (s' : Bx), m_law_rows [.ref 0] (s.obj :: R) = .ok (.fro (ws.map Rw.d)) (s'.obj :: R) ∧ BxOk s' ∧ ws.length ≤ 13 := by
  obtain ⟨r, s1, d1, x1, y1, h1⟩ := drawE (R := R ++ [.lst []]) (n := 13) hs (by decide) (by decide)
  have y1' : r < 1000000 := by omega
  obtain ⟨ws, s2, b2, b3, e2, h2, hl⟩ := rw_loop (R := R) (rangeD 0 r.toNat) s1 [] none none h1 (by rw [rangeD_len]; simp; omega)
  rw [rangeD_len] at hl
  refine ⟨ws, s2, ?_, h2, by simp at hl; omega⟩
  unfold wE at e2
  rw [List.map_nil] at e2
  have hraw : fnB 4 b_law_rows [.ref 0] (s.obj :: R) = .ok (.ref (R.length + 1)) (s2.obj :: (R ++ [.lst (ws.map Rw.d)])) := by
    unfold b_law_rows
    simp only [y_seq, y_seq_nx, y_seq_rt, y_seq_ex, y_seq_bk, y_seq_ct, y_if, y_if_t, y_if_f, y_if_x, y_set, y_set_ok, y_set_x, y_ret, y_ret_ok, y_ret_x, y_retN, y_do, y_do_ok, y_do_x, y_nil, y_raise0, y_raise_ok, y_toR_rt, y_toR_nx, y_toR_ex, y_fn, y_c, y_var, y_var_ok, y_un, y_un_ok, y_un_x, y_bin, y_bin_ok, y_bin_x, y_anil, y_cons, y_cons1, y_cons1x, y_cons2, y_cons2x, y_args, y_args_ok, y_args_x, y_tup, y_tup_ok, y_fro, y_fro_ok, y_lst, y_lst_ok, y_call, y_stat, y_call_ok, y_callk, y_callk1, y_callk2, y_mkF, y_mkF_ok, y_own1, y_own1_ok, y_prop, y_own2, y_val, y_val_ok, y_val_x, y_and, y_and_t, y_and_f, y_or, y_or_t, y_or_f, y_not, y_not_ok, y_yes, y_eand_t, y_eand_f, y_eor_t, y_eor_f, y_enot_ok, y_eif, y_eif_t, y_eif_f, y_for_v, y_iseq, y_iseq_t, y_iseq_f, y_iseq_r, y_rng, y_env0, y_try, y_try_nx, y_try_rt, y_try0, y_try0_nx, y_try0_rt, y_fv0, y_fv_nx, y_fv_ct, y_fv_rt, y_lc_v, y_step, y_step_ok, y_istr, y_istr_ok, y_eApp, y_eSl, y_ePopAt, y_eIns, y_eChain, y_eMake, y_eMeth, y_eMakeRK, y_eMakeK, y_eMakeD, y_eStar, y_eXFld, y_eXIsF, y_sPutF, y_sSetIx, y_sIncF, y_sUnp, y_sUnpL, y_sDelD, y_oNone, y_oSome, y_iRange2, y_iZip2, y_eDNew, y_eLenO, y_eOwnIn, y_eDGet1, y_eDGet2, y_eDPop2, y_sForItems, y_eCallRK, y_eCallR, y_eLenSet, y_bind_ok, y_bind_x, y_toS_ok, y_toS_x, z_raise, z_own2_ok, z_eand, z_eor, z_enot, z_rng_ok, z_for_l, o_add, o_sub, o_lt, o_le, o_gt, o_ge, o_neg, o_eqi, o_nei, o_is0, o_is1, o_is2, o_is3, o_is4, o_is5, o_is6, o_is7, o_nt0, o_nt1, o_nt2, o_nt3, o_nt4, o_nt5, o_nt6, o_ix0, o_ix1, o_ix2, o_ix3, o_ix4, o_ix5, o_fx0, o_fx1, o_fx2, o_fx3, o_fx4, o_lenT, o_lenF, o_asB, o_tupF, o_tupT, o_listF, o_listFT, o_listL, o_listLT, o_tg1, o_tg2, o_wipe1, o_wipe2, o_yes, o_slT, o_slF, o_putF, o_li, o_liF, o_lenR, o_tupR, o_lstFR, o_lstLR, o_try_x, o_try0_x, o_unb_rt, o_unb_nx, o_rev, o_mkF, o_mkL, z_env0, fcal1, fcal2, fcal3, fcal4, List.map_cons, List.map_nil, List.replicate, List.append_nil, Nat.reduceSub, List.cons_append, List.nil_append, List.length_cons, List.length_nil, Nat.reduceAdd, Nat.reduceLeDiff, List.getElem?_cons_zero, List.getElem?_cons_succ, List.set_cons_zero, List.set_cons_succ, Bool.not_true, Bool.not_false, decide_true, decide_false, ite_true, ite_false, reduceCtorEq, eq_self, and_self, true_and, and_true, false_and, and_false, Nat.reduceLT, Nat.reduceEqDiff, Nat.zero_add, Int.reduceLT, Int.ofNat_zero, Int.reduceGT, z_for, draw_is, d1, x1, y1', e2]
  exact frz_ok hraw box_low (fz_new (k := 3) (p := R.length + 1) (by omega) (by rw [List.getElem?_cons_succ]; simp) fun a ha => by
    obtain ⟨w, _, rfl⟩ := List.mem_map.mp ha
    exact pd_row w)
end K01
namespace K01
open PySem L2 T2
theorem ne_emp0 {n : Nat} {M : MH} (h : M[n]? = some (.lst [])) : dNe (.ref n) (.fro []) M = .ok (.bl false) M := by
  unfold dNe
  rw [toP_ref, h, toP_fro]
  rfl
theorem pd_alt {w : Rw} {c : C3} {v : Vl} : Pd 5 (.tup (pA w c ++ [Vl.d v] ++ pB w c)) := by
  cases c
  · exact pd_3 (pd_vl v) (pd_vl w.y) (pd_vl w.z)
  · exact pd_3 (pd_vl w.x) (pd_vl v) (pd_vl w.z)
  · exact pd_3 (pd_vl w.x) (pd_vl w.y) (pd_vl v)
theorem altered_run {w : Rw} {c : C3} {v : Vl} {M : MH} : m_altered [w.d, .int c.i, Vl.d v] M = .ok (.tup (pA w c ++ [Vl.d v] ++ pB w c)) M := by
  unfold m_altered b_altered
  simp only [y_seq, y_seq_nx, y_seq_rt, y_seq_ex, y_seq_bk, y_seq_ct, y_if, y_if_t, y_if_f, y_if_x, y_set, y_set_ok, y_set_x, y_ret, y_ret_ok, y_ret_x, y_retN, y_do, y_do_ok, y_do_x, y_nil, y_raise0, y_raise_ok, y_toR_rt, y_toR_nx, y_toR_ex, y_fn, y_c, y_var, y_var_ok, y_un, y_un_ok, y_un_x, y_bin, y_bin_ok, y_bin_x, y_anil, y_cons, y_cons1, y_cons1x, y_cons2, y_cons2x, y_args, y_args_ok, y_args_x, y_tup, y_tup_ok, y_fro, y_fro_ok, y_lst, y_lst_ok, y_call, y_stat, y_call_ok, y_callk, y_callk1, y_callk2, y_mkF, y_mkF_ok, y_own1, y_own1_ok, y_prop, y_own2, y_val, y_val_ok, y_val_x, y_and, y_and_t, y_and_f, y_or, y_or_t, y_or_f, y_not, y_not_ok, y_yes, y_eand_t, y_eand_f, y_eor_t, y_eor_f, y_enot_ok, y_eif, y_eif_t, y_eif_f, y_for_v, y_iseq, y_iseq_t, y_iseq_f, y_iseq_r, y_rng, y_env0, y_try, y_try_nx, y_try_rt, y_try0, y_try0_nx, y_try0_rt, y_fv0, y_fv_nx, y_fv_ct, y_fv_rt, y_lc_v, y_step, y_step_ok, y_istr, y_istr_ok, y_eApp, y_eSl, y_ePopAt, y_eIns, y_eChain, y_eMake, y_eMeth, y_eMakeRK, y_eMakeK, y_eMakeD, y_eStar, y_eXFld, y_eXIsF, y_sPutF, y_sSetIx, y_sIncF, y_sUnp, y_sUnpL, y_sDelD, y_oNone, y_oSome, y_iRange2, y_iZip2, y_eDNew, y_eLenO, y_eOwnIn, y_eDGet1, y_eDGet2, y_eDPop2, y_sForItems, y_eCallRK, y_eCallR, y_eLenSet, y_bind_ok, y_bind_x, y_toS_ok, y_toS_x, z_raise, z_own2_ok, z_eand, z_eor, z_enot, z_rng_ok, z_for_l, o_add, o_sub, o_lt, o_le, o_gt, o_ge, o_neg, o_eqi, o_nei, o_is0, o_is1, o_is2, o_is3, o_is4, o_is5, o_is6, o_is7, o_nt0, o_nt1, o_nt2, o_nt3, o_nt4, o_nt5, o_nt6, o_ix0, o_ix1, o_ix2, o_ix3, o_ix4, o_ix5, o_fx0, o_fx1, o_fx2, o_fx3, o_fx4, o_lenT, o_lenF, o_asB, o_tupF, o_tupT, o_listF, o_listFT, o_listL, o_listLT, o_tg1, o_tg2, o_wipe1, o_wipe2, o_yes, o_slT, o_slF, o_putF, o_li, o_liF, o_lenR, o_tupR, o_lstFR, o_lstLR, o_try_x, o_try0_x, o_unb_rt, o_unb_nx, o_rev, o_mkF, o_mkL, z_env0, fcal1, fcal2, fcal3, fcal4, List.map_cons, List.map_nil, List.replicate, List.append_nil, Nat.reduceSub, List.cons_append, List.nil_append, List.length_cons, List.length_nil, Nat.reduceAdd, Nat.reduceLeDiff, List.getElem?_cons_zero, List.getElem?_cons_succ, List.set_cons_zero, List.set_cons_succ, Bool.not_true, Bool.not_false, decide_true, decide_false, ite_true, ite_false, reduceCtorEq, eq_self, and_self, true_and, and_true, false_and, and_false, Nat.reduceLT, Nat.reduceEqDiff, Nat.zero_add, Int.reduceLT, Int.ofNat_zero, Int.reduceGT, pu1, pu2, pu3, pu4]
theorem law_true (ns : List Int) (hl : ns.length ≤ 63) : ∃ M', m_law [.fro (ns.map D.int)] [] = .ok (.bl true) M' := by
  have ebox := box_run hl
  obtain ⟨w, s1, e1, h1⟩ := row_run (s := ⟨ns, 0, 0, 0, 0⟩) (R := []) ⟨Int.le_refl _⟩
  obtain ⟨r, s2, d2, x2, y2, h2⟩ := drawE (R := []) (n := 3) h1 (by decide) (by decide)
  obtain ⟨c, rfl⟩ := c3_of x2 y2
  obtain ⟨dv, s3, e3, hv, h3⟩ := pick_run (R := []) (ds := [D.non, .int 0, .int 1, .int 2]) h2 (fun s => fro_seq s) (by decide) (by decide)
  obtain ⟨v, rfl⟩ : ∃ v : Vl, dv = Vl.d v := by
    simp only [List.mem_cons, List.not_mem_nil, or_false] at hv
    rcases hv with rfl | rfl | rfl | rfl
    · exact ⟨none, rfl⟩
    · exact ⟨some .z, rfl⟩
    · exact ⟨some .o, rfl⟩
    · exact ⟨some .t, rfl⟩
  obtain ⟨bd, s4, e4, h4, hbad⟩ := badrow_run (R := []) (w := w) h3
  obtain ⟨z, s5, e5, h5, hz, hzl⟩ := string_run (R := []) h4
  obtain ⟨ws, s6, e6, h6, hwl⟩ := rows_run (R := []) h5
  have ev : ∀ M, m_law_every [] M = .ok (.fro (rowsR.map Rw.d)) M := fun M => by
    rw [← rowsD_R]
    exact every_run
  have hE : ∀ e M, eListRows e M = .ok (.ref M.length) (M ++ [.lst rowsD]) := fun _ _ => rfl
  have al1 : m_law_alike 6 [.ref 1, .fro (rowsR.map Rw.d)] [s6.obj, .lst rowsD] = .ok (.bl true) [s6.obj, .lst rowsD] := by
    rw [← rowsD_R]; exact alike_all rfl
  have al2 : m_law_alike 6 [.ref 2, .fro (rowsR.map Rw.d)] [s6.obj, .lst rowsD, .lst rowsD] = .ok (.bl true) [s6.obj, .lst rowsD, .lst rowsD] := by
    rw [← rowsD_R]; exact alike_all rfl
  have av : ∀ M, m_law_alike 6 [c_VALUES, .tup [.non, .int 0, .int 1, .int 2]] M = .ok (.bl true) M := fun M => alike_same isib 6 _ _ (same_pd (x := .tup [.non, .int 0, .int 1, .int 2]) (pd_tup (by simp) fun a ha => by
    simp only [List.mem_cons, List.not_mem_nil, or_false] at ha
    rcases ha with rfl | rfl | rfl | rfl
    · exact pd_vl none
    · exact pd_int
    · exact pd_int
    · exact pd_int))
  have af : ∀ M, m_law_alike 6 [c_FREE, .tup [.non, .non, .non]] M = .ok (.bl true) M := fun M => alike_same isib 6 _ _ (same_pd (x := .tup [.non, .non, .non]) (pd_3 (pd_vl none) (pd_vl none) (pd_vl none)))
  have hfor : ∀ w c v b z ws, sForI (iRange1 (eC (.int 2))) (tgName 9) lp_law_1 [some (.fro (ns.map D.int)), some (.ref 0), some w, some c, some v, some b, some z, some ws, some (.fro (rowsR.map Rw.d)), none, none, none, none, none] [s6.obj] = .nx [some (.fro (ns.map D.int)), some (.ref 0), some w, some c, some v, some b, some z, some ws, some (.fro (rowsR.map Rw.d)), some (.int 1), none, none, none, none] [s6.obj, .lst rowsD, .lst rowsD] := fun w c v b z ws => by
    have hi : ∀ e M, iRange1 (eC (.int 2)) e M = .ok (.vals [.int 0, .int 1]) M := fun _ _ => rfl
    have b1 : ∀ a9, lp_law_1 [some (.fro (ns.map D.int)), some (.ref 0), some w, some c, some v, some b, some z, some ws, some (.fro (rowsR.map Rw.d)), a9, none, none, none, none] [s6.obj] = .nx [some (.fro (ns.map D.int)), some (.ref 0), some w, some c, some v, some b, some z, some ws, some (.fro (rowsR.map Rw.d)), a9, none, none, none, none] [s6.obj, .lst rowsD] := fun a9 => by
      unfold lp_law_1
      simp only [y_seq, y_seq_nx, y_seq_rt, y_seq_ex, y_seq_bk, y_seq_ct, y_if, y_if_t, y_if_f, y_if_x, y_set, y_set_ok, y_set_x, y_ret, y_ret_ok, y_ret_x, y_retN, y_do, y_do_ok, y_do_x, y_nil, y_raise0, y_raise_ok, y_toR_rt, y_toR_nx, y_toR_ex, y_fn, y_c, y_var, y_var_ok, y_un, y_un_ok, y_un_x, y_bin, y_bin_ok, y_bin_x, y_anil, y_cons, y_cons1, y_cons1x, y_cons2, y_cons2x, y_args, y_args_ok, y_args_x, y_tup, y_tup_ok, y_fro, y_fro_ok, y_lst, y_lst_ok, y_call, y_stat, y_call_ok, y_callk, y_callk1, y_callk2, y_mkF, y_mkF_ok, y_own1, y_own1_ok, y_prop, y_own2, y_val, y_val_ok, y_val_x, y_and, y_and_t, y_and_f, y_or, y_or_t, y_or_f, y_not, y_not_ok, y_yes, y_eand_t, y_eand_f, y_eor_t, y_eor_f, y_enot_ok, y_eif, y_eif_t, y_eif_f, y_for_v, y_iseq, y_iseq_t, y_iseq_f, y_iseq_r, y_rng, y_env0, y_try, y_try_nx, y_try_rt, y_try0, y_try0_nx, y_try0_rt, y_fv0, y_fv_nx, y_fv_ct, y_fv_rt, y_lc_v, y_step, y_step_ok, y_istr, y_istr_ok, y_eApp, y_eSl, y_ePopAt, y_eIns, y_eChain, y_eMake, y_eMeth, y_eMakeRK, y_eMakeK, y_eMakeD, y_eStar, y_eXFld, y_eXIsF, y_sPutF, y_sSetIx, y_sIncF, y_sUnp, y_sUnpL, y_sDelD, y_oNone, y_oSome, y_iRange2, y_iZip2, y_eDNew, y_eLenO, y_eOwnIn, y_eDGet1, y_eDGet2, y_eDPop2, y_sForItems, y_eCallRK, y_eCallR, y_eLenSet, y_bind_ok, y_bind_x, y_toS_ok, y_toS_x, z_raise, z_own2_ok, z_eand, z_eor, z_enot, z_rng_ok, z_for_l, o_add, o_sub, o_lt, o_le, o_gt, o_ge, o_neg, o_eqi, o_nei, o_is0, o_is1, o_is2, o_is3, o_is4, o_is5, o_is6, o_is7, o_nt0, o_nt1, o_nt2, o_nt3, o_nt4, o_nt5, o_nt6, o_ix0, o_ix1, o_ix2, o_ix3, o_ix4, o_ix5, o_fx0, o_fx1, o_fx2, o_fx3, o_fx4, o_lenT, o_lenF, o_asB, o_tupF, o_tupT, o_listF, o_listFT, o_listL, o_listLT, o_tg1, o_tg2, o_wipe1, o_wipe2, o_yes, o_slT, o_slF, o_putF, o_li, o_liF, o_lenR, o_tupR, o_lstFR, o_lstLR, o_try_x, o_try0_x, o_unb_rt, o_unb_nx, o_rev, o_mkF, o_mkL, z_env0, fcal1, fcal2, fcal3, fcal4, List.map_cons, List.map_nil, List.replicate, List.append_nil, Nat.reduceSub, List.cons_append, List.nil_append, List.length_cons, List.length_nil, Nat.reduceAdd, Nat.reduceLeDiff, List.getElem?_cons_zero, List.getElem?_cons_succ, List.set_cons_zero, List.set_cons_succ, Bool.not_true, Bool.not_false, decide_true, decide_false, ite_true, ite_false, reduceCtorEq, eq_self, and_self, true_and, and_true, false_and, and_false, Nat.reduceLT, Nat.reduceEqDiff, Nat.zero_add, Int.reduceLT, Int.ofNat_zero, Int.reduceGT, hE, al1, Bool.false_eq_true]
    have b2 : ∀ a9, lp_law_1 [some (.fro (ns.map D.int)), some (.ref 0), some w, some c, some v, some b, some z, some ws, some (.fro (rowsR.map Rw.d)), a9, none, none, none, none] [s6.obj, .lst rowsD] = .nx [some (.fro (ns.map D.int)), some (.ref 0), some w, some c, some v, some b, some z, some ws, some (.fro (rowsR.map Rw.d)), a9, none, none, none, none] [s6.obj, .lst rowsD, .lst rowsD] := fun a9 => by
      unfold lp_law_1
      simp only [y_seq, y_seq_nx, y_seq_rt, y_seq_ex, y_seq_bk, y_seq_ct, y_if, y_if_t, y_if_f, y_if_x, y_set, y_set_ok, y_set_x, y_ret, y_ret_ok, y_ret_x, y_retN, y_do, y_do_ok, y_do_x, y_nil, y_raise0, y_raise_ok, y_toR_rt, y_toR_nx, y_toR_ex, y_fn, y_c, y_var, y_var_ok, y_un, y_un_ok, y_un_x, y_bin, y_bin_ok, y_bin_x, y_anil, y_cons, y_cons1, y_cons1x, y_cons2, y_cons2x, y_args, y_args_ok, y_args_x, y_tup, y_tup_ok, y_fro, y_fro_ok, y_lst, y_lst_ok, y_call, y_stat, y_call_ok, y_callk, y_callk1, y_callk2, y_mkF, y_mkF_ok, y_own1, y_own1_ok, y_prop, y_own2, y_val, y_val_ok, y_val_x, y_and, y_and_t, y_and_f, y_or, y_or_t, y_or_f, y_not, y_not_ok, y_yes, y_eand_t, y_eand_f, y_eor_t, y_eor_f, y_enot_ok, y_eif, y_eif_t, y_eif_f, y_for_v, y_iseq, y_iseq_t, y_iseq_f, y_iseq_r, y_rng, y_env0, y_try, y_try_nx, y_try_rt, y_try0, y_try0_nx, y_try0_rt, y_fv0, y_fv_nx, y_fv_ct, y_fv_rt, y_lc_v, y_step, y_step_ok, y_istr, y_istr_ok, y_eApp, y_eSl, y_ePopAt, y_eIns, y_eChain, y_eMake, y_eMeth, y_eMakeRK, y_eMakeK, y_eMakeD, y_eStar, y_eXFld, y_eXIsF, y_sPutF, y_sSetIx, y_sIncF, y_sUnp, y_sUnpL, y_sDelD, y_oNone, y_oSome, y_iRange2, y_iZip2, y_eDNew, y_eLenO, y_eOwnIn, y_eDGet1, y_eDGet2, y_eDPop2, y_sForItems, y_eCallRK, y_eCallR, y_eLenSet, y_bind_ok, y_bind_x, y_toS_ok, y_toS_x, z_raise, z_own2_ok, z_eand, z_eor, z_enot, z_rng_ok, z_for_l, o_add, o_sub, o_lt, o_le, o_gt, o_ge, o_neg, o_eqi, o_nei, o_is0, o_is1, o_is2, o_is3, o_is4, o_is5, o_is6, o_is7, o_nt0, o_nt1, o_nt2, o_nt3, o_nt4, o_nt5, o_nt6, o_ix0, o_ix1, o_ix2, o_ix3, o_ix4, o_ix5, o_fx0, o_fx1, o_fx2, o_fx3, o_fx4, o_lenT, o_lenF, o_asB, o_tupF, o_tupT, o_listF, o_listFT, o_listL, o_listLT, o_tg1, o_tg2, o_wipe1, o_wipe2, o_yes, o_slT, o_slF, o_putF, o_li, o_liF, o_lenR, o_tupR, o_lstFR, o_lstLR, o_try_x, o_try0_x, o_unb_rt, o_unb_nx, o_rev, o_mkF, o_mkL, z_env0, fcal1, fcal2, fcal3, fcal4, List.map_cons, List.map_nil, List.replicate, List.append_nil, Nat.reduceSub, List.cons_append, List.nil_append, List.length_cons, List.length_nil, Nat.reduceAdd, Nat.reduceLeDiff, List.getElem?_cons_zero, List.getElem?_cons_succ, List.set_cons_zero, List.set_cons_succ, Bool.not_true, Bool.not_false, decide_true, decide_false, ite_true, ite_false, reduceCtorEq, eq_self, and_self, true_and, and_true, false_and, and_false, Nat.reduceLT, Nat.reduceEqDiff, Nat.zero_add, Int.reduceLT, Int.ofNat_zero, Int.reduceGT, hE, al2, Bool.false_eq_true]
    rw [z_for, hi]
    simp only [y_seq, y_seq_nx, y_seq_rt, y_seq_ex, y_seq_bk, y_seq_ct, y_if, y_if_t, y_if_f, y_if_x, y_set, y_set_ok, y_set_x, y_ret, y_ret_ok, y_ret_x, y_retN, y_do, y_do_ok, y_do_x, y_nil, y_raise0, y_raise_ok, y_toR_rt, y_toR_nx, y_toR_ex, y_fn, y_c, y_var, y_var_ok, y_un, y_un_ok, y_un_x, y_bin, y_bin_ok, y_bin_x, y_anil, y_cons, y_cons1, y_cons1x, y_cons2, y_cons2x, y_args, y_args_ok, y_args_x, y_tup, y_tup_ok, y_fro, y_fro_ok, y_lst, y_lst_ok, y_call, y_stat, y_call_ok, y_callk, y_callk1, y_callk2, y_mkF, y_mkF_ok, y_own1, y_own1_ok, y_prop, y_own2, y_val, y_val_ok, y_val_x, y_and, y_and_t, y_and_f, y_or, y_or_t, y_or_f, y_not, y_not_ok, y_yes, y_eand_t, y_eand_f, y_eor_t, y_eor_f, y_enot_ok, y_eif, y_eif_t, y_eif_f, y_for_v, y_iseq, y_iseq_t, y_iseq_f, y_iseq_r, y_rng, y_env0, y_try, y_try_nx, y_try_rt, y_try0, y_try0_nx, y_try0_rt, y_fv0, y_fv_nx, y_fv_ct, y_fv_rt, y_lc_v, y_step, y_step_ok, y_istr, y_istr_ok, y_eApp, y_eSl, y_ePopAt, y_eIns, y_eChain, y_eMake, y_eMeth, y_eMakeRK, y_eMakeK, y_eMakeD, y_eStar, y_eXFld, y_eXIsF, y_sPutF, y_sSetIx, y_sIncF, y_sUnp, y_sUnpL, y_sDelD, y_oNone, y_oSome, y_iRange2, y_iZip2, y_eDNew, y_eLenO, y_eOwnIn, y_eDGet1, y_eDGet2, y_eDPop2, y_sForItems, y_eCallRK, y_eCallR, y_eLenSet, y_bind_ok, y_bind_x, y_toS_ok, y_toS_x, z_raise, z_own2_ok, z_eand, z_eor, z_enot, z_rng_ok, z_for_l, o_add, o_sub, o_lt, o_le, o_gt, o_ge, o_neg, o_eqi, o_nei, o_is0, o_is1, o_is2, o_is3, o_is4, o_is5, o_is6, o_is7, o_nt0, o_nt1, o_nt2, o_nt3, o_nt4, o_nt5, o_nt6, o_ix0, o_ix1, o_ix2, o_ix3, o_ix4, o_ix5, o_fx0, o_fx1, o_fx2, o_fx3, o_fx4, o_lenT, o_lenF, o_asB, o_tupF, o_tupT, o_listF, o_listFT, o_listL, o_listLT, o_tg1, o_tg2, o_wipe1, o_wipe2, o_yes, o_slT, o_slF, o_putF, o_li, o_liF, o_lenR, o_tupR, o_lstFR, o_lstLR, o_try_x, o_try0_x, o_unb_rt, o_unb_nx, o_rev, o_mkF, o_mkL, z_env0, fcal1, fcal2, fcal3, fcal4, List.map_cons, List.map_nil, List.replicate, List.append_nil, Nat.reduceSub, List.cons_append, List.nil_append, List.length_cons, List.length_nil, Nat.reduceAdd, Nat.reduceLeDiff, List.getElem?_cons_zero, List.getElem?_cons_succ, List.set_cons_zero, List.set_cons_succ, Bool.not_true, Bool.not_false, decide_true, decide_false, ite_true, ite_false, reduceCtorEq, eq_self, and_self, true_and, and_true, false_and, and_false, Nat.reduceLT, Nat.reduceEqDiff, Nat.zero_add, Int.reduceLT, Int.ofNat_zero, Int.reduceGT, z_fv, b1, b2]
  have hrc : ∀ (w : Rw) M, m_law_row_checked [w.d, .bl true] M = .ok (.bl true) M := fun w M => rcheck_run (ds := [Vl.d w.x, Vl.d w.y, Vl.d w.z]) (fun d hd => by
      simp only [List.mem_cons, List.not_mem_nil, or_false] at hd
      rcases hd with rfl | rfl | rfl <;> exact vt_vl _) (by
    obtain ⟨x, y, z⟩ := w
    rcases x with _ | _ | _ | _ <;> rcases y with _ | _ | _ | _ <;> rcases z with _ | _ | _ | _ <;> rfl)
  have hrb : ∀ M, m_law_row_checked [.tup bd, .bl false] M = .ok (.bl true) M := fun M => rcheck_run hbad.1 hbad.2
  have hnc : ∀ M, m_law_name_checked [.str z] M = .ok (.bl true) M := fun M => ncheck_run (by omega) hz
  have hlc1 : ∀ w c v b z ws a9 M, eLc (iSeq (eVar 8)) (tgName 10) (bNot (bVal (eCall 2 m_law_row_checked (eCons (eVar 10) (eCons (eC (.bl true)) (eNil)))))) (eVar 10) [10] [some (.fro (ns.map D.int)), some (.ref 0), some w, some c, some v, some b, some z, some ws, some (.fro (rowsR.map Rw.d)), a9, none, none, none, none] M = .ok (.ref M.length) (M ++ [.lst []]) := fun w c v b z ws a9 M => by
    have h := lc_ifm (it := iSeq (eVar 8)) (i := 10) (tt := bNot (bVal (eCall 2 m_law_row_checked (eCons (eVar 10) (eCons (eC (.bl true)) (eNil)))))) (m := eVar 10) (vs := [10]) (e := [some (.fro (ns.map D.int)), some (.ref 0), some w, some c, some v, some b, some z, some ws, some (.fro (rowsR.map Rw.d)), a9, none, none, none, none]) (M := M) (f := Rw.d) (p := fun _ => false) (g := Rw.d) (xs := rowsR) rfl
      (fun x _ acc => by simp only [y_seq, y_seq_nx, y_seq_rt, y_seq_ex, y_seq_bk, y_seq_ct, y_if, y_if_t, y_if_f, y_if_x, y_set, y_set_ok, y_set_x, y_ret, y_ret_ok, y_ret_x, y_retN, y_do, y_do_ok, y_do_x, y_nil, y_raise0, y_raise_ok, y_toR_rt, y_toR_nx, y_toR_ex, y_fn, y_c, y_var, y_var_ok, y_un, y_un_ok, y_un_x, y_bin, y_bin_ok, y_bin_x, y_anil, y_cons, y_cons1, y_cons1x, y_cons2, y_cons2x, y_args, y_args_ok, y_args_x, y_tup, y_tup_ok, y_fro, y_fro_ok, y_lst, y_lst_ok, y_call, y_stat, y_call_ok, y_callk, y_callk1, y_callk2, y_mkF, y_mkF_ok, y_own1, y_own1_ok, y_prop, y_own2, y_val, y_val_ok, y_val_x, y_and, y_and_t, y_and_f, y_or, y_or_t, y_or_f, y_not, y_not_ok, y_yes, y_eand_t, y_eand_f, y_eor_t, y_eor_f, y_enot_ok, y_eif, y_eif_t, y_eif_f, y_for_v, y_iseq, y_iseq_t, y_iseq_f, y_iseq_r, y_rng, y_env0, y_try, y_try_nx, y_try_rt, y_try0, y_try0_nx, y_try0_rt, y_fv0, y_fv_nx, y_fv_ct, y_fv_rt, y_lc_v, y_step, y_step_ok, y_istr, y_istr_ok, y_eApp, y_eSl, y_ePopAt, y_eIns, y_eChain, y_eMake, y_eMeth, y_eMakeRK, y_eMakeK, y_eMakeD, y_eStar, y_eXFld, y_eXIsF, y_sPutF, y_sSetIx, y_sIncF, y_sUnp, y_sUnpL, y_sDelD, y_oNone, y_oSome, y_iRange2, y_iZip2, y_eDNew, y_eLenO, y_eOwnIn, y_eDGet1, y_eDGet2, y_eDPop2, y_sForItems, y_eCallRK, y_eCallR, y_eLenSet, y_bind_ok, y_bind_x, y_toS_ok, y_toS_x, z_raise, z_own2_ok, z_eand, z_eor, z_enot, z_rng_ok, z_for_l, o_add, o_sub, o_lt, o_le, o_gt, o_ge, o_neg, o_eqi, o_nei, o_is0, o_is1, o_is2, o_is3, o_is4, o_is5, o_is6, o_is7, o_nt0, o_nt1, o_nt2, o_nt3, o_nt4, o_nt5, o_nt6, o_ix0, o_ix1, o_ix2, o_ix3, o_ix4, o_ix5, o_fx0, o_fx1, o_fx2, o_fx3, o_fx4, o_lenT, o_lenF, o_asB, o_tupF, o_tupT, o_listF, o_listFT, o_listL, o_listLT, o_tg1, o_tg2, o_wipe1, o_wipe2, o_yes, o_slT, o_slF, o_putF, o_li, o_liF, o_lenR, o_tupR, o_lstFR, o_lstLR, o_try_x, o_try0_x, o_unb_rt, o_unb_nx, o_rev, o_mkF, o_mkL, z_env0, fcal1, fcal2, fcal3, fcal4, List.map_cons, List.map_nil, List.replicate, List.append_nil, Nat.reduceSub, List.cons_append, List.nil_append, List.length_cons, List.length_nil, Nat.reduceAdd, Nat.reduceLeDiff, List.getElem?_cons_zero, List.getElem?_cons_succ, List.set_cons_zero, List.set_cons_succ, Bool.not_true, Bool.not_false, decide_true, decide_false, ite_true, ite_false, reduceCtorEq, eq_self, and_self, true_and, and_true, false_and, and_false, Nat.reduceLT, Nat.reduceEqDiff, Nat.zero_add, Int.reduceLT, Int.ofNat_zero, Int.reduceGT, hrc]) (fun x _ hp _ => absurd hp (by simp)) (by rw [rowsR_len]; decide)
    rw [List.filter_eq_nil_iff.mpr (fun _ _ => by simp)] at h
    exact h
  have hnames : ∀ y ∈ ["on", "set", "new", "news", "se", "onn"], ∀ M, m_law_name_checked [.str (Str.ofString y)] M = .ok (.bl true) M := fun y hy M => by
    simp only [List.mem_cons, List.not_mem_nil, or_false] at hy
    rcases hy with rfl | rfl | rfl | rfl | rfl | rfl <;> exact ncheck_run (by decide +kernel) (by decide +kernel)
  have hlc2 : ∀ w c v b z ws a9 M, eLc (iSeq (eFro (eCons (eC (.str "on")) (eCons (eC (.str "set")) (eCons (eC (.str "new")) (eCons (eC (.str "news")) (eCons (eC (.str "se")) (eCons (eC (.str "onn")) (eNil))))))))) (tgName 11) (bNot (bVal (eCall 1 m_law_name_checked (eCons (eVar 11) (eNil))))) (eVar 11) [11] [some (.fro (ns.map D.int)), some (.ref 0), some w, some c, some v, some b, some z, some ws, some (.fro (rowsR.map Rw.d)), a9, none, none, none, none] M = .ok (.ref M.length) (M ++ [.lst []]) := fun w c v b z ws a9 M => by
    have h := lc_ifm (it := iSeq (eFro (eCons (eC (.str "on")) (eCons (eC (.str "set")) (eCons (eC (.str "new")) (eCons (eC (.str "news")) (eCons (eC (.str "se")) (eCons (eC (.str "onn")) (eNil))))))))) (i := 11) (tt := bNot (bVal (eCall 1 m_law_name_checked (eCons (eVar 11) (eNil))))) (m := eVar 11) (vs := [11]) (e := [some (.fro (ns.map D.int)), some (.ref 0), some w, some c, some v, some b, some z, some ws, some (.fro (rowsR.map Rw.d)), a9, none, none, none, none]) (M := M) (f := fun y : String => D.str (Str.ofString y)) (p := fun _ => false) (g := fun y : String => D.str (Str.ofString y)) (xs := ["on", "set", "new", "news", "se", "onn"]) rfl
      (fun x hx acc => by
        have := hnames x hx
        simp only [y_seq, y_seq_nx, y_seq_rt, y_seq_ex, y_seq_bk, y_seq_ct, y_if, y_if_t, y_if_f, y_if_x, y_set, y_set_ok, y_set_x, y_ret, y_ret_ok, y_ret_x, y_retN, y_do, y_do_ok, y_do_x, y_nil, y_raise0, y_raise_ok, y_toR_rt, y_toR_nx, y_toR_ex, y_fn, y_c, y_var, y_var_ok, y_un, y_un_ok, y_un_x, y_bin, y_bin_ok, y_bin_x, y_anil, y_cons, y_cons1, y_cons1x, y_cons2, y_cons2x, y_args, y_args_ok, y_args_x, y_tup, y_tup_ok, y_fro, y_fro_ok, y_lst, y_lst_ok, y_call, y_stat, y_call_ok, y_callk, y_callk1, y_callk2, y_mkF, y_mkF_ok, y_own1, y_own1_ok, y_prop, y_own2, y_val, y_val_ok, y_val_x, y_and, y_and_t, y_and_f, y_or, y_or_t, y_or_f, y_not, y_not_ok, y_yes, y_eand_t, y_eand_f, y_eor_t, y_eor_f, y_enot_ok, y_eif, y_eif_t, y_eif_f, y_for_v, y_iseq, y_iseq_t, y_iseq_f, y_iseq_r, y_rng, y_env0, y_try, y_try_nx, y_try_rt, y_try0, y_try0_nx, y_try0_rt, y_fv0, y_fv_nx, y_fv_ct, y_fv_rt, y_lc_v, y_step, y_step_ok, y_istr, y_istr_ok, y_eApp, y_eSl, y_ePopAt, y_eIns, y_eChain, y_eMake, y_eMeth, y_eMakeRK, y_eMakeK, y_eMakeD, y_eStar, y_eXFld, y_eXIsF, y_sPutF, y_sSetIx, y_sIncF, y_sUnp, y_sUnpL, y_sDelD, y_oNone, y_oSome, y_iRange2, y_iZip2, y_eDNew, y_eLenO, y_eOwnIn, y_eDGet1, y_eDGet2, y_eDPop2, y_sForItems, y_eCallRK, y_eCallR, y_eLenSet, y_bind_ok, y_bind_x, y_toS_ok, y_toS_x, z_raise, z_own2_ok, z_eand, z_eor, z_enot, z_rng_ok, z_for_l, o_add, o_sub, o_lt, o_le, o_gt, o_ge, o_neg, o_eqi, o_nei, o_is0, o_is1, o_is2, o_is3, o_is4, o_is5, o_is6, o_is7, o_nt0, o_nt1, o_nt2, o_nt3, o_nt4, o_nt5, o_nt6, o_ix0, o_ix1, o_ix2, o_ix3, o_ix4, o_ix5, o_fx0, o_fx1, o_fx2, o_fx3, o_fx4, o_lenT, o_lenF, o_asB, o_tupF, o_tupT, o_listF, o_listFT, o_listL, o_listLT, o_tg1, o_tg2, o_wipe1, o_wipe2, o_yes, o_slT, o_slF, o_putF, o_li, o_liF, o_lenR, o_tupR, o_lstFR, o_lstLR, o_try_x, o_try0_x, o_unb_rt, o_unb_nx, o_rev, o_mkF, o_mkL, z_env0, fcal1, fcal2, fcal3, fcal4, List.map_cons, List.map_nil, List.replicate, List.append_nil, Nat.reduceSub, List.cons_append, List.nil_append, List.length_cons, List.length_nil, Nat.reduceAdd, Nat.reduceLeDiff, List.getElem?_cons_zero, List.getElem?_cons_succ, List.set_cons_zero, List.set_cons_succ, Bool.not_true, Bool.not_false, decide_true, decide_false, ite_true, ite_false, reduceCtorEq, eq_self, and_self, true_and, and_true, false_and, and_false, Nat.reduceLT, Nat.reduceEqDiff, Nat.zero_add, Int.reduceLT, Int.ofNat_zero, Int.reduceGT, this]) (fun x _ hp _ => absurd hp (by simp)) (by decide)
    rw [List.filter_eq_nil_iff.mpr (fun _ _ => by simp)] at h
    exact h
  have n1 : dNe (.ref 3) (.fro []) [s6.obj, .lst rowsD, .lst rowsD, .lst []] = .ok (.bl false) [s6.obj, .lst rowsD, .lst rowsD, .lst []] := ne_emp0 rfl
  have n2 : dNe (.ref 4) (.fro []) [s6.obj, .lst rowsD, .lst rowsD, .lst [], .lst []] = .ok (.bl false) [s6.obj, .lst rowsD, .lst rowsD, .lst [], .lst []] := ne_emp0 rfl
  have so := fun M => sorted_run (ws := ws) (M := M) (by omega)
  have ls := fun M => lsorted_run (ws := ws) (M := M) (by omega)
  have dl : ∀ M, dListF [.fro (ws.map Rw.d)] M = .ok (.fro (ws.map Rw.d)) M := fun M => rfl
  have k1 : m_law_alike 6 [.ref 5, .fro (srt ws)] [s6.obj, .lst rowsD, .lst rowsD, .lst [], .lst [], .lst (srt ws)] = .ok (.bl true) [s6.obj, .lst rowsD, .lst rowsD, .lst [], .lst [], .lst (srt ws)] := alike_srt (by omega) rfl
  have k2 : m_law_alike 6 [.ref 6, .fro (srt ws)] [s6.obj, .lst rowsD, .lst rowsD, .lst [], .lst [], .lst (srt ws ++ [w.d]), .lst (srt ws)] = .ok (.bl true) [s6.obj, .lst rowsD, .lst rowsD, .lst [], .lst [], .lst (srt ws ++ [w.d]), .lst (srt ws)] := alike_srt (by omega) rfl
  have k3 : ∀ M, m_law_alike 6 [.fro (ws.map Rw.d), .fro (ws.map Rw.d)] M = .ok (.bl true) M := fun M => alike_rws (by omega)
  have k4 : ∀ M, m_law_alike 6 [.tup (pA w c ++ [Vl.d v] ++ pB w c), .tup (pA w c ++ [Vl.d v] ++ pB w c)] M = .ok (.bl true) M := fun M => alike_same isib 6 _ _ (same_pd (pd_alt.mono (by decide)))
  have k5 : ∀ M, m_law_alike 6 [keyD w, keyD w] M = .ok (.bl true) M := fun M => alike_same isib 6 _ _ (same_pd (pd_key (k := 4) w))
  have bg : (srt ws).length < big := by rw [srt_len]; unfold big; omega
  refine ⟨[s6.obj, .lst rowsD, .lst rowsD, .lst [], .lst [], .lst (srt ws ++ [w.d]), .lst (srt ws)], ?_⟩
  unfold m_law b_law
  simp only [y_seq, y_seq_nx, y_seq_rt, y_seq_ex, y_seq_bk, y_seq_ct, y_if, y_if_t, y_if_f, y_if_x, y_set, y_set_ok, y_set_x, y_ret, y_ret_ok, y_ret_x, y_retN, y_do, y_do_ok, y_do_x, y_nil, y_raise0, y_raise_ok, y_toR_rt, y_toR_nx, y_toR_ex, y_fn, y_c, y_var, y_var_ok, y_un, y_un_ok, y_un_x, y_bin, y_bin_ok, y_bin_x, y_anil, y_cons, y_cons1, y_cons1x, y_cons2, y_cons2x, y_args, y_args_ok, y_args_x, y_tup, y_tup_ok, y_fro, y_fro_ok, y_lst, y_lst_ok, y_call, y_stat, y_call_ok, y_callk, y_callk1, y_callk2, y_mkF, y_mkF_ok, y_own1, y_own1_ok, y_prop, y_own2, y_val, y_val_ok, y_val_x, y_and, y_and_t, y_and_f, y_or, y_or_t, y_or_f, y_not, y_not_ok, y_yes, y_eand_t, y_eand_f, y_eor_t, y_eor_f, y_enot_ok, y_eif, y_eif_t, y_eif_f, y_for_v, y_iseq, y_iseq_t, y_iseq_f, y_iseq_r, y_rng, y_env0, y_try, y_try_nx, y_try_rt, y_try0, y_try0_nx, y_try0_rt, y_fv0, y_fv_nx, y_fv_ct, y_fv_rt, y_lc_v, y_step, y_step_ok, y_istr, y_istr_ok, y_eApp, y_eSl, y_ePopAt, y_eIns, y_eChain, y_eMake, y_eMeth, y_eMakeRK, y_eMakeK, y_eMakeD, y_eStar, y_eXFld, y_eXIsF, y_sPutF, y_sSetIx, y_sIncF, y_sUnp, y_sUnpL, y_sDelD, y_oNone, y_oSome, y_iRange2, y_iZip2, y_eDNew, y_eLenO, y_eOwnIn, y_eDGet1, y_eDGet2, y_eDPop2, y_sForItems, y_eCallRK, y_eCallR, y_eLenSet, y_bind_ok, y_bind_x, y_toS_ok, y_toS_x, z_raise, z_own2_ok, z_eand, z_eor, z_enot, z_rng_ok, z_for_l, o_add, o_sub, o_lt, o_le, o_gt, o_ge, o_neg, o_eqi, o_nei, o_is0, o_is1, o_is2, o_is3, o_is4, o_is5, o_is6, o_is7, o_nt0, o_nt1, o_nt2, o_nt3, o_nt4, o_nt5, o_nt6, o_ix0, o_ix1, o_ix2, o_ix3, o_ix4, o_ix5, o_fx0, o_fx1, o_fx2, o_fx3, o_fx4, o_lenT, o_lenF, o_asB, o_tupF, o_tupT, o_listF, o_listFT, o_listL, o_listLT, o_tg1, o_tg2, o_wipe1, o_wipe2, o_yes, o_slT, o_slF, o_putF, o_li, o_liF, o_lenR, o_tupR, o_lstFR, o_lstLR, o_try_x, o_try0_x, o_unb_rt, o_unb_nx, o_rev, o_mkF, o_mkL, z_env0, fcal1, fcal2, fcal3, fcal4, List.map_cons, List.map_nil, List.replicate, List.append_nil, Nat.reduceSub, List.cons_append, List.nil_append, List.length_cons, List.length_nil, Nat.reduceAdd, Nat.reduceLeDiff, List.getElem?_cons_zero, List.getElem?_cons_succ, List.set_cons_zero, List.set_cons_succ, Bool.not_true, Bool.not_false, decide_true, decide_false, ite_true, ite_false, reduceCtorEq, eq_self, and_self, true_and, and_true, false_and, and_false, Nat.reduceLT, Nat.reduceEqDiff, Nat.zero_add, Int.reduceLT, Int.ofNat_zero, Int.reduceGT, box_is, ebox, lrow_is, e1, draw_is, d2, pick_is, e3, e4, e5, e6, ev, av, af, hfor, hlc1, hlc2, n1, n2, hrc, hrb, hnc, so, ls, dl, k1, k2, k3, k4, k5, bg, altered_run, rkey_run, lkey_run, pu1, pu2, pu3, pu4, Bool.false_eq_true]
theorem law_sp {K : PySem.W.Frag} {ad : Nat → Addr} {vs : List V} {H : Hp} {Q : VK} {E : L2.XK} (hs : spLaw K vs H Q E) : spD ⟨K, ad⟩ 1 m_law vs H Q E := sp_of_true law_true hs
end K01
namespace K01
open PySem L2 T2
theorem walk {l : PySem.W.OpenLaw} {q : Program} {loose : List Str} {XP : (Str → Option Value) → Heap → Prop} {YP : World → Heap → Prop} {d : DefRec} {K : Params → PySem.W.Frag} (hn : l.most = some 63) (hdf : d.params.defaults = [])
    (hY : ∀ (w : World) (h : Heap), YP w h → (K w.params).In h)
    (F : ∀ (w : World) (mg : Str → Option Value) (fa : Addr) (h : Heap), (K w.params).In h → h.Ns mainGlobals mg → mg d.name = some (.ref fa) →
      ∃ fd : FuncData, (∀ (s : Shared) (u : Value), BindsTo s fd ⟨[u], []⟩ [("_law_script", u)]) ∧ ∀ base : Heap, (K w.params).In base → base.Ns mainGlobals mg → ∃ ad : Nat → Addr, FnOk l.prog w (K w.params) mg base (L2N.CX l.prog w) 15 fa fd ["_law_script"] (spD ⟨K w.params, ad⟩ 1 m_law)) :
    PySem.W.WalkO q loose XP YP l.row.toRowW d [] (fun f vs => PySem.call f vs) :=
  L2.walk_of (n := 63) (k := 15) (x := "_law_script") (CX := fun w => L2N.CX l.prog w) (sp := fun w => spLaw (K w.params)) hn (by decide) hdf ⟨rfl, by decide, by decide⟩ hY (fun w mg fa h KI GN hmg => (F w mg fa h KI GN hmg).imp fun fd hF => ⟨hF.1, fun base b1 b2 => (hF.2 base b1 b2).elim fun ad hok => hok.imp fun vs H Q Ex hs => law_sp hs⟩) (fun w H a ns hl _ hS => ⟨a, ns, rfl, hl, hS, fun _ => rfl⟩) fun w H s e s' hc => no_exc hc
end K01
namespace K01
open PySem L2 T2
theorem all_mk {l : PySem.W.OpenLaw} {w : World} {K : PySem.W.Frag} {h : Heap} {mg : Str → Option Value} {fa : Addr} (X : K.In h) (G : h.Ns mainGlobals mg) (hfa : mg "law" = some (.ref fa))
    {f0 f1 f3 f17 f18 f20 f19 f25 f26 f27 f21 f24 f6 f7 f29 f28 f15 f2 z135 z136 z148 f16 f30 f8 f9 f10 f22 f23 f12 f31 f4 f5 f11 f14 : Addr} {z1 z3 z4 z5 z7 z8 z10 z12 z13 z14 z16 z17 z19 z21 z22 z23 z25 z26 z28 z30 z31 z32 z34 z35 z37 z39 z40 z41 z43 z44 z46 z48 z49 z50 z52 z53 z55 z57 z58 z59 z61 z62 z64 z66 z67 z68 z70 z71 z73 z75 z76 z77 z79 z80 z82 z84 z85 z86 z88 z89 z91 z93 z94 z95 z97 z98 z100 z102 z103 z104 z106 z107 z109 z111 z112 z113 z115 z116 z118 z120 z121 z122 z124 z125 z127 z129 z130 z131 z133 z137 z143 z161 z163 z164 z165 z167 z168 z170 z172 z173 z174 z176 z177 z179 z181 z182 z183 z185 z186 z188 z190 z191 z192 z194 z195 z197 z199 z200 z201 z203 z204 z206 z208 z209 z210 z212 z213 z215 z217 z218 z219 z221 z222 z224 z226 z227 z228 z230 z231 z233 z235 z236 z237 z239 z240 z251 z253 z254 z255 z257 z258 : Value} {z2 z6 z11 z15 z20 z24 z29 z33 z38 z42 z47 z51 z56 z60 z65 z69 z74 z78 z83 z87 z92 z96 z101 z105 z110 z114 z119 z123 z128 z132 z138 z144 z155 z162 z166 z171 z175 z180 z184 z189 z193 z198 z202 z207 z211 z216 z220 z225 z229 z234 z238 z247 z250 z252 z256 z265 : Option Addr} {z9 z18 z27 z36 z45 z54 z63 z72 z81 z90 z99 z108 z117 z126 z134 z140 z145 z169 z178 z187 z196 z205 z214 z223 z232 z241 z246 z249 z259 z264 : Array (Option Value)} {z139 : Array Value} {z141 z146 z147 : Str} {z142 z242 z243 z244 z260 z261 z262 z266 : Tok} {z149 z150 z152 : List Value} {z151 : List Str} {z153 : Bool} {z154 : Option Bool} {z156 z157 z158 z159 z160 : Option Value} {z245 z248 z263 : Nat}
    (a0 : PySem.W.nsIn K mainGlobals "BookError" = some (some (.ref f0)))
    (a1 : PySem.W.nsIn K mainGlobals "InvalidName" = some (some (.ref f1)))
    (a3 : PySem.W.nsIn K mainGlobals "InvalidRow" = some (some (.ref f3)))
    (a17 : PySem.W.nsIn K mainGlobals "_law_box" = some (some (.ref f17)))
    (l17 : K.lookup f17 = some ⟨z1, z2, .func (PySem.W.fnOf "_law_box" "_law_box" (defArgs s_law_box) (defBody s_law_box) (defScope s_law_box) .none z3 z4 z5 z6 z7 z8), z9⟩)
    (c17 : PySem.W.codeIn K z7 "_law_box" = true)
    (k17 : PySem.W.keepIn K (.ref f17) = true)
    (a18 : PySem.W.nsIn K mainGlobals "_law_draw" = some (some (.ref f18)))
    (l18 : K.lookup f18 = some ⟨z10, z11, .func (PySem.W.fnOf "_law_draw" "_law_draw" (defArgs s_law_draw) (defBody s_law_draw) (defScope s_law_draw) .none z12 z13 z14 z15 z16 z17), z18⟩)
    (c18 : PySem.W.codeIn K z16 "_law_draw" = true)
    (k18 : PySem.W.keepIn K (.ref f18) = true)
    (a20 : PySem.W.nsIn K mainGlobals "_law_row" = some (some (.ref f20)))
    (l20 : K.lookup f20 = some ⟨z19, z20, .func (PySem.W.fnOf "_law_row" "_law_row" (defArgs s_law_row) (defBody s_law_row) (defScope s_law_row) .none z21 z22 z23 z24 z25 z26), z27⟩)
    (c20 : PySem.W.codeIn K z25 "_law_row" = true)
    (k20 : PySem.W.keepIn K (.ref f20) = true)
    (a19 : PySem.W.nsIn K mainGlobals "_law_pick" = some (some (.ref f19)))
    (l19 : K.lookup f19 = some ⟨z28, z29, .func (PySem.W.fnOf "_law_pick" "_law_pick" (defArgs s_law_pick) (defBody s_law_pick) (defScope s_law_pick) .none z30 z31 z32 z33 z34 z35), z36⟩)
    (c19 : PySem.W.codeIn K z34 "_law_pick" = true)
    (k19 : PySem.W.keepIn K (.ref f19) = true)
    (a25 : PySem.W.nsIn K mainGlobals "_law_bad_row" = some (some (.ref f25)))
    (l25 : K.lookup f25 = some ⟨z37, z38, .func (PySem.W.fnOf "_law_bad_row" "_law_bad_row" (defArgs s_law_bad_row) (defBody s_law_bad_row) (defScope s_law_bad_row) .none z39 z40 z41 z42 z43 z44), z45⟩)
    (c25 : PySem.W.codeIn K z43 "_law_bad_row" = true)
    (k25 : PySem.W.keepIn K (.ref f25) = true)
    (a26 : PySem.W.nsIn K mainGlobals "_law_string" = some (some (.ref f26)))
    (l26 : K.lookup f26 = some ⟨z46, z47, .func (PySem.W.fnOf "_law_string" "_law_string" (defArgs s_law_string) (defBody s_law_string) (defScope s_law_string) .none z48 z49 z50 z51 z52 z53), z54⟩)
    (c26 : PySem.W.codeIn K z52 "_law_string" = true)
    (k26 : PySem.W.keepIn K (.ref f26) = true)
    (a27 : PySem.W.nsIn K mainGlobals "_law_rows" = some (some (.ref f27)))
    (l27 : K.lookup f27 = some ⟨z55, z56, .func (PySem.W.fnOf "_law_rows" "_law_rows" (defArgs s_law_rows) (defBody s_law_rows) (defScope s_law_rows) .none z57 z58 z59 z60 z61 z62), z63⟩)
    (c27 : PySem.W.codeIn K z61 "_law_rows" = true)
    (k27 : PySem.W.keepIn K (.ref f27) = true)
    (a21 : PySem.W.nsIn K mainGlobals "_law_every" = some (some (.ref f21)))
    (l21 : K.lookup f21 = some ⟨z64, z65, .func (PySem.W.fnOf "_law_every" "_law_every" (defArgs s_law_every) (defBody s_law_every) (defScope s_law_every) .none z66 z67 z68 z69 z70 z71), z72⟩)
    (c21 : PySem.W.codeIn K z70 "_law_every" = true)
    (k21 : PySem.W.keepIn K (.ref f21) = true)
    (a24 : PySem.W.nsIn K mainGlobals "_law_alike" = some (some (.ref f24)))
    (l24 : K.lookup f24 = some ⟨z73, z74, .func (PySem.W.fnOf "_law_alike" "_law_alike" (defArgs s_law_alike) (defBody s_law_alike) (defScope s_law_alike) .none z75 z76 z77 z78 z79 z80), z81⟩)
    (c24 : PySem.W.codeIn K z79 "_law_alike" = true)
    (k24 : PySem.W.keepIn K (.ref f24) = true)
    (a6 : PySem.W.nsIn K mainGlobals "is_value" = some (some (.ref f6)))
    (l6 : K.lookup f6 = some ⟨z82, z83, .func (PySem.W.fnOf "is_value" "is_value" (defArgs s_is_value) (defBody s_is_value) (defScope s_is_value) .none z84 z85 z86 z87 z88 z89), z90⟩)
    (c6 : PySem.W.codeIn K z88 "is_value" = true)
    (k6 : PySem.W.keepIn K (.ref f6) = true)
    (a7 : PySem.W.nsIn K mainGlobals "check_row" = some (some (.ref f7)))
    (l7 : K.lookup f7 = some ⟨z91, z92, .func (PySem.W.fnOf "check_row" "check_row" (defArgs s_check_row) (defBody s_check_row) (defScope s_check_row) .none z93 z94 z95 z96 z97 z98), z99⟩)
    (c7 : PySem.W.codeIn K z97 "check_row" = true)
    (k7 : PySem.W.keepIn K (.ref f7) = true)
    (a29 : PySem.W.nsIn K mainGlobals "_law_row_checked" = some (some (.ref f29)))
    (l29 : K.lookup f29 = some ⟨z100, z101, .func (PySem.W.fnOf "_law_row_checked" "_law_row_checked" (defArgs s_law_row_checked) (defBody s_law_row_checked) (defScope s_law_row_checked) .none z102 z103 z104 z105 z106 z107), z108⟩)
    (c29 : PySem.W.codeIn K z106 "_law_row_checked" = true)
    (k29 : PySem.W.keepIn K (.ref f29) = true)
    (a28 : PySem.W.nsIn K mainGlobals "_law_is_name" = some (some (.ref f28)))
    (l28 : K.lookup f28 = some ⟨z109, z110, .func (PySem.W.fnOf "_law_is_name" "_law_is_name" (defArgs s_law_is_name) (defBody s_law_is_name) (defScope s_law_is_name) .none z111 z112 z113 z114 z115 z116), z117⟩)
    (c28 : PySem.W.codeIn K z115 "_law_is_name" = true)
    (k28 : PySem.W.keepIn K (.ref f28) = true)
    (a15 : PySem.W.nsIn K mainGlobals "is_name" = some (some (.ref f15)))
    (l15 : K.lookup f15 = some ⟨z118, z119, .func (PySem.W.fnOf "is_name" "is_name" (defArgs s_is_name) (defBody s_is_name) (defScope s_is_name) .none z120 z121 z122 z123 z124 z125), z126⟩)
    (c15 : PySem.W.codeIn K z124 "is_name" = true)
    (k15 : PySem.W.keepIn K (.ref f15) = true)
    (om2 : PySem.W.findIn K (.ref f1) "__init__" = some (some (.ref f2)))
    (l2 : K.lookup f2 = some ⟨z127, z128, .func (PySem.W.ksFn "__init__" "InvalidName.__init__" (defArgs s_InvalidName___init__) (defBody s_InvalidName___init__) (defScope s_InvalidName___init__) .none z129 z130 z131 z132 (.ref z135) z133 z136), z134⟩)
    (c2 : PySem.W.codeIn K (.ref z135) "InvalidName.__init__" = true)
    (oc2 : K.lookup z135 = some ⟨z137, z138, .fields z139, z140⟩)
    (ov2 : z139[2]? = some (.str z141 z142))
    (of_2 : ((l.prog.main.file : Str) == z141) = true)
    (oe2 : K.lookup z136 = some ⟨z143, z144, .cell (some (.ref f1)), z145⟩)
    (om_1 : PySem.W.mroIn K f1 (.ref f1) = some true)
    (n_super : PySem.W.nsIn K mainGlobals "super" = some none)
    (othird : PySem.W.nsIn K cStatics "thirdparty.any" = some none)
    (osin1 : PySem.W.ks_superIn K f1 f1 "__init__" = some (some (.builtin "ValueError.__init__")))
    (oisv1 : PySem.W.subIn K (.ref f1) (.type "ValueError") = some true)
    (otop : (l.prog.main.scope.names.lookup ("super" : Str)).isSome = false)
    (ok_1 : K.lookup f1 = some (excClassObj z146 z147 f1 z148 z149 z150 true z151 z152 z153 z154 z155 z156 z157 z158 z159 z160 "ValueError.__new__"))
    (ob_1 : PySem.HandSPX.refsVE z150 = true)
    (csa1 : PySem.W.findIn K (.ref f1) "__setattr__" = some (some (.builtin "object.__setattr__")))
    (xb1 : PySem.W.subIn K (.ref f1) (.type "BaseException") = some true)
    (xt1 : PySem.W.typeIn K (.ref f1) = some (.type "type"))
    (kp1 : PySem.W.keepIn K (.ref f1) = true)
    (ot1 : PySem.W.typeIn K (.ref f2) = some (.type "function"))
    (ofl1_name : PySem.W.findIn K (.ref f1) "name" = some none)
    (a16 : PySem.W.nsIn K mainGlobals "check_name" = some (some (.ref f16)))
    (l16 : K.lookup f16 = some ⟨z161, z162, .func (PySem.W.fnOf "check_name" "check_name" (defArgs s_check_name) (defBody s_check_name) (defScope s_check_name) .none z163 z164 z165 z166 z167 z168), z169⟩)
    (c16 : PySem.W.codeIn K z167 "check_name" = true)
    (k16 : PySem.W.keepIn K (.ref f16) = true)
    (a30 : PySem.W.nsIn K mainGlobals "_law_name_checked" = some (some (.ref f30)))
    (l30 : K.lookup f30 = some ⟨z170, z171, .func (PySem.W.fnOf "_law_name_checked" "_law_name_checked" (defArgs s_law_name_checked) (defBody s_law_name_checked) (defScope s_law_name_checked) .none z172 z173 z174 z175 z176 z177), z178⟩)
    (c30 : PySem.W.codeIn K z176 "_law_name_checked" = true)
    (k30 : PySem.W.keepIn K (.ref f30) = true)
    (a8 : PySem.W.nsIn K mainGlobals "value_key" = some (some (.ref f8)))
    (l8 : K.lookup f8 = some ⟨z179, z180, .func (PySem.W.fnOf "value_key" "value_key" (defArgs s_value_key) (defBody s_value_key) (defScope s_value_key) .none z181 z182 z183 z184 z185 z186), z187⟩)
    (c8 : PySem.W.codeIn K z185 "value_key" = true)
    (k8 : PySem.W.keepIn K (.ref f8) = true)
    (a9 : PySem.W.nsIn K mainGlobals "row_key" = some (some (.ref f9)))
    (l9 : K.lookup f9 = some ⟨z188, z189, .func (PySem.W.fnOf "row_key" "row_key" (defArgs s_row_key) (defBody s_row_key) (defScope s_row_key) .none z190 z191 z192 z193 z194 z195), z196⟩)
    (c9 : PySem.W.codeIn K z194 "row_key" = true)
    (k9 : PySem.W.keepIn K (.ref f9) = true)
    (a10 : PySem.W.nsIn K mainGlobals "sorted_rows" = some (some (.ref f10)))
    (l10 : K.lookup f10 = some ⟨z197, z198, .func (PySem.W.fnOf "sorted_rows" "sorted_rows" (defArgs s_sorted_rows) (defBody s_sorted_rows) (defScope s_sorted_rows) .none z199 z200 z201 z202 z203 z204), z205⟩)
    (c10 : PySem.W.codeIn K z203 "sorted_rows" = true)
    (k10 : PySem.W.keepIn K (.ref f10) = true)
    (a22 : PySem.W.nsIn K mainGlobals "_law_key" = some (some (.ref f22)))
    (l22 : K.lookup f22 = some ⟨z206, z207, .func (PySem.W.fnOf "_law_key" "_law_key" (defArgs s_law_key) (defBody s_law_key) (defScope s_law_key) .none z208 z209 z210 z211 z212 z213), z214⟩)
    (c22 : PySem.W.codeIn K z212 "_law_key" = true)
    (k22 : PySem.W.keepIn K (.ref f22) = true)
    (a23 : PySem.W.nsIn K mainGlobals "_law_sorted" = some (some (.ref f23)))
    (l23 : K.lookup f23 = some ⟨z215, z216, .func (PySem.W.fnOf "_law_sorted" "_law_sorted" (defArgs s_law_sorted) (defBody s_law_sorted) (defScope s_law_sorted) .none z217 z218 z219 z220 z221 z222), z223⟩)
    (c23 : PySem.W.codeIn K z221 "_law_sorted" = true)
    (k23 : PySem.W.keepIn K (.ref f23) = true)
    (a12 : PySem.W.nsIn K mainGlobals "altered" = some (some (.ref f12)))
    (l12 : K.lookup f12 = some ⟨z224, z225, .func (PySem.W.fnOf "altered" "altered" (defArgs s_altered) (defBody s_altered) (defScope s_altered) .none z226 z227 z228 z229 z230 z231), z232⟩)
    (c12 : PySem.W.codeIn K z230 "altered" = true)
    (k12 : PySem.W.keepIn K (.ref f12) = true)
    (a31 : PySem.W.nsIn K mainGlobals "law" = some (some (.ref f31)))
    (l31 : K.lookup f31 = some ⟨z233, z234, .func (PySem.W.fnOf "law" "law" (defArgs s_law) (defBody s_law) (defScope s_law) .none z235 z236 z237 z238 z239 z240), z241⟩)
    (c31 : PySem.W.codeIn K z239 "law" = true)
    (k31 : PySem.W.keepIn K (.ref f31) = true)
    (a4 : PySem.W.nsIn K mainGlobals "VALUES" = some (some (.ref f4)))
    (r4 : K.lookup f4 = some ⟨.type "tuple", z247, .seq #[.none, .int 0 z242, .int 1 z243, .int 2 z244] z245, z246⟩)
    (a5 : PySem.W.nsIn K mainGlobals "FREE" = some (some (.ref f5)))
    (r5 : K.lookup f5 = some ⟨.type "tuple", z250, .seq #[.none, .none, .none] z248, z249⟩)
    (n_range : PySem.W.nsIn K mainGlobals "range" = some none)
    (a11 : PySem.W.nsIn K mainGlobals "all_rows" = some (some (.ref f11)))
    (l11 : K.lookup f11 = some ⟨z251, z252, .func (PySem.W.fnOf "all_rows" "all_rows" (defArgs s_all_rows) (defBody s_all_rows) (defScope s_all_rows) .none z253 z254 z255 z256 z257 z258), z259⟩)
    (c11 : PySem.W.codeIn K z257 "all_rows" = true)
    (k11 : PySem.W.keepIn K (.ref f11) = true)
    (n_list : PySem.W.nsIn K mainGlobals "list" = some none)
    (n_tuple : PySem.W.nsIn K mainGlobals "tuple" = some none)
    (n_isinstance : PySem.W.nsIn K mainGlobals "isinstance" = some none)
    (n_bool : PySem.W.nsIn K mainGlobals "bool" = some none)
    (n_int : PySem.W.nsIn K mainGlobals "int" = some none)
    (n_str : PySem.W.nsIn K mainGlobals "str" = some none)
    (n_len : PySem.W.nsIn K mainGlobals "len" = some none)
    (n_sorted : PySem.W.nsIn K mainGlobals "sorted" = some none)
    (xb0 : PySem.W.subIn K (.ref f0) (.type "BaseException") = some true)
    (xt0 : PySem.W.typeIn K (.ref f0) = some (.type "type"))
    (xd0 : PySem.W.hasDictIn K f0 = true)
    (xs1_0 : PySem.W.subIn K (.ref f1) (.ref f0) = some true)
    (xs3_0 : PySem.W.subIn K (.ref f3) (.ref f0) = some true)
    (eg1 : PySem.W.findIn K (.ref f1) "__getattribute__" = some (some (.builtin "BaseException.__getattribute__")))
    (ek1 : PySem.W.findIn K (.ref f1) "__getattr__" = some none)
    (xd1 : PySem.W.hasDictIn K f1 = true)
    (ea1 : PySem.W.findIn K (.ref f1) "__class__" = some (some (.builtin "object.__class__")))
    (en : PySem.W.specialIn K (.builtin "object.__class__") "__get__" = some (some (.builtin "getset_descriptor.__get__")))
    (et : PySem.W.takesIn K (.builtin "object.__class__") = some true)
    (em1 : PySem.W.mroIn K f1 (.type "object") = some true)
    (ei1_1 : PySem.W.kitOne K (.ref f1) (.ref f1) = some true)
    (eg3 : PySem.W.findIn K (.ref f3) "__getattribute__" = some (some (.builtin "BaseException.__getattribute__")))
    (ek3 : PySem.W.findIn K (.ref f3) "__getattr__" = some none)
    (xb3 : PySem.W.subIn K (.ref f3) (.type "BaseException") = some true)
    (xd3 : PySem.W.hasDictIn K f3 = true)
    (ea3 : PySem.W.findIn K (.ref f3) "__class__" = some (some (.builtin "object.__class__")))
    (em3 : PySem.W.mroIn K f3 (.type "object") = some true)
    (ei3_1 : PySem.W.kitOne K (.ref f3) (.ref f1) = some false)
    (ei1_3 : PySem.W.kitOne K (.ref f1) (.ref f3) = some false)
    (ei3_3 : PySem.W.kitOne K (.ref f3) (.ref f3) = some true)
    (a14 : PySem.W.nsIn K mainGlobals "RESERVED" = some (some (.ref f14)))
    (r14 : K.lookup f14 = some ⟨.type "tuple", z265, .seq #[.str "on" z260, .str "set" z261, .str "new" z262] z263, z264⟩)
    (n_all : PySem.W.nsIn K mainGlobals "all" = some none)
    (as13 : PySem.W.nsIn K mainGlobals "LETTERS" = some (some (.str "abcdefghijklmnopqrstuvwxyz" z266)))
    (xq3 : PySem.W.excIn K f3 [.type "ValueError", .type "Exception", .type "BaseException", .type "object"] "ValueError.__new__" = true)
    (xk3 : PySem.W.keepIn K (.ref f3) = true)
    (xt3 : PySem.W.typeIn K (.ref f3) = some (.type "type"))
    (n_abs : PySem.W.nsIn K mainGlobals "abs" = some none)
    : ∃ fd : FuncData, (∀ (s : Shared) (v : Value), BindsTo s fd ⟨[v], []⟩ [("_law_script", v)]) ∧ ∀ base : Heap, K.In base → base.Ns mainGlobals mg → ∃ ad : Nat → Addr, FnOk l.prog w K mg base (L2N.CX l.prog w) 15 fa fd ["_law_script"] (spD ⟨K, ad⟩ 1 m_law) := by
  have efa : fa = f31 := Value.ref.inj (Option.some.inj (hfa.symm.trans (PySem.W.mg_of X G a31)))
  have F17 := fun_mk (st := s_law_box) l17 c17 k17
  have b17 := F17.binds (ps := ["_law_script"]) fun _ _ _ _ _ _ us hl => match us, hl with | [_], _ => rfl
  have F18 := fun_mk (st := s_law_draw) l18 c18 k18
  have b18 := F18.binds (ps := ["_law_box_here", "_law_size"]) fun _ _ _ _ _ _ us hl => match us, hl with | [_, _], _ => rfl
  have F20 := fun_mk (st := s_law_row) l20 c20 k20
  have b20 := F20.binds (ps := ["_law_box_here"]) fun _ _ _ _ _ _ us hl => match us, hl with | [_], _ => rfl
  have F19 := fun_mk (st := s_law_pick) l19 c19 k19
  have b19 := F19.binds (ps := ["_law_box_here", "_law_menu"]) fun _ _ _ _ _ _ us hl => match us, hl with | [_, _], _ => rfl
  have F25 := fun_mk (st := s_law_bad_row) l25 c25 k25
  have b25 := F25.binds (ps := ["_law_box_here", "_law_row_here"]) fun _ _ _ _ _ _ us hl => match us, hl with | [_, _], _ => rfl
  have F26 := fun_mk (st := s_law_string) l26 c26 k26
  have b26 := F26.binds (ps := ["_law_box_here"]) fun _ _ _ _ _ _ us hl => match us, hl with | [_], _ => rfl
  have F27 := fun_mk (st := s_law_rows) l27 c27 k27
  have b27 := F27.binds (ps := ["_law_box_here"]) fun _ _ _ _ _ _ us hl => match us, hl with | [_], _ => rfl
  have F21 := fun_mk (st := s_law_every) l21 c21 k21
  have b21 := F21.binds (ps := []) fun _ _ _ _ _ _ us hl => match us, hl with | [], _ => rfl
  have F24 := fun_mk (st := s_law_alike) l24 c24 k24
  have b24 := F24.binds (ps := ["_law_actual", "_law_due"]) fun _ _ _ _ _ _ us hl => match us, hl with | [_, _], _ => rfl
  have F6 := fun_mk (st := s_is_value) l6 c6 k6
  have b6 := F6.binds (ps := ["value"]) fun _ _ _ _ _ _ us hl => match us, hl with | [_], _ => rfl
  have F7 := fun_mk (st := s_check_row) l7 c7 k7
  have b7 := F7.binds (ps := ["row"]) fun _ _ _ _ _ _ us hl => match us, hl with | [_], _ => rfl
  have F29 := fun_mk (st := s_law_row_checked) l29 c29 k29
  have b29 := F29.binds (ps := ["_law_row_here", "_law_good"]) fun _ _ _ _ _ _ us hl => match us, hl with | [_, _], _ => rfl
  have F28 := fun_mk (st := s_law_is_name) l28 c28 k28
  have b28 := F28.binds (ps := ["_law_word"]) fun _ _ _ _ _ _ us hl => match us, hl with | [_], _ => rfl
  have F15 := fun_mk (st := s_is_name) l15 c15 k15
  have b15 := F15.binds (ps := ["name"]) fun _ _ _ _ _ _ us hl => match us, hl with | [_], _ => rfl
  have b2 : Binds K (PySem.W.ksFn "__init__" "InvalidName.__init__" (defArgs s_InvalidName___init__) (defBody s_InvalidName___init__) (defScope s_InvalidName___init__) .none z129 z130 z131 z132 (.ref z135) z133 z136) ["self", "name"] [] := Binds.all fun us hl => match us, hl with | [_, _], _ => rfl
  have F16 := fun_mk (st := s_check_name) l16 c16 k16
  have b16 := F16.binds (ps := ["name"]) fun _ _ _ _ _ _ us hl => match us, hl with | [_], _ => rfl
  have F30 := fun_mk (st := s_law_name_checked) l30 c30 k30
  have b30 := F30.binds (ps := ["_law_word"]) fun _ _ _ _ _ _ us hl => match us, hl with | [_], _ => rfl
  have F8 := fun_mk (st := s_value_key) l8 c8 k8
  have b8 := F8.binds (ps := ["value"]) fun _ _ _ _ _ _ us hl => match us, hl with | [_], _ => rfl
  have F9 := fun_mk (st := s_row_key) l9 c9 k9
  have b9 := F9.binds (ps := ["row"]) fun _ _ _ _ _ _ us hl => match us, hl with | [_], _ => rfl
  have F10 := fun_mk (st := s_sorted_rows) l10 c10 k10
  have b10 := F10.binds (ps := ["rows"]) fun _ _ _ _ _ _ us hl => match us, hl with | [_], _ => rfl
  have F22 := fun_mk (st := s_law_key) l22 c22 k22
  have b22 := F22.binds (ps := ["_law_row_here"]) fun _ _ _ _ _ _ us hl => match us, hl with | [_], _ => rfl
  have F23 := fun_mk (st := s_law_sorted) l23 c23 k23
  have b23 := F23.binds (ps := ["_law_rows_here"]) fun _ _ _ _ _ _ us hl => match us, hl with | [_], _ => rfl
  have F12 := fun_mk (st := s_altered) l12 c12 k12
  have b12 := F12.binds (ps := ["row", "column", "value"]) fun _ _ _ _ _ _ us hl => match us, hl with | [_, _, _], _ => rfl
  have F31 := fun_mk (st := s_law) l31 c31 k31
  have b31 := F31.binds (ps := ["_law_script"]) fun _ _ _ _ _ _ us hl => match us, hl with | [_], _ => rfl
  have F11 := fun_mk (st := s_all_rows) l11 c11 k11
  have b11 := F11.binds (ps := []) fun _ _ _ _ _ _ us hl => match us, hl with | [], _ => rfl
  obtain ⟨ad, had⟩ : ∃ ad : Nat → Addr, ad = fun n => ([f0, f1, f2, f3, f4, f5, f6, f7, f8, f9, f10, f11, f12, 0, f14, f15, f16, f17, f18, f19, f20, f21, f22, f23, f24, f25, f26, f27, f28, f29, f30, f31] : List Addr).getD n 0 := ⟨_, rfl⟩
  obtain ⟨fd, hfd⟩ : ∃ fd : Nat → FuncData, fd = fun n => match n with
    | 2 => PySem.W.ksFn "__init__" "InvalidName.__init__" (defArgs s_InvalidName___init__) (defBody s_InvalidName___init__) (defScope s_InvalidName___init__) .none z129 z130 z131 z132 (.ref z135) z133 z136
    | 6 => PySem.W.fnOf "is_value" "is_value" (defArgs s_is_value) (defBody s_is_value) (defScope s_is_value) .none z84 z85 z86 z87 z88 z89
    | 7 => PySem.W.fnOf "check_row" "check_row" (defArgs s_check_row) (defBody s_check_row) (defScope s_check_row) .none z93 z94 z95 z96 z97 z98
    | 8 => PySem.W.fnOf "value_key" "value_key" (defArgs s_value_key) (defBody s_value_key) (defScope s_value_key) .none z181 z182 z183 z184 z185 z186
    | 9 => PySem.W.fnOf "row_key" "row_key" (defArgs s_row_key) (defBody s_row_key) (defScope s_row_key) .none z190 z191 z192 z193 z194 z195
    | 10 => PySem.W.fnOf "sorted_rows" "sorted_rows" (defArgs s_sorted_rows) (defBody s_sorted_rows) (defScope s_sorted_rows) .none z199 z200 z201 z202 z203 z204
    | 12 => PySem.W.fnOf "altered" "altered" (defArgs s_altered) (defBody s_altered) (defScope s_altered) .none z226 z227 z228 z229 z230 z231
    | 15 => PySem.W.fnOf "is_name" "is_name" (defArgs s_is_name) (defBody s_is_name) (defScope s_is_name) .none z120 z121 z122 z123 z124 z125
    | 16 => PySem.W.fnOf "check_name" "check_name" (defArgs s_check_name) (defBody s_check_name) (defScope s_check_name) .none z163 z164 z165 z166 z167 z168
    | 17 => PySem.W.fnOf "_law_box" "_law_box" (defArgs s_law_box) (defBody s_law_box) (defScope s_law_box) .none z3 z4 z5 z6 z7 z8
    | 18 => PySem.W.fnOf "_law_draw" "_law_draw" (defArgs s_law_draw) (defBody s_law_draw) (defScope s_law_draw) .none z12 z13 z14 z15 z16 z17
    | 19 => PySem.W.fnOf "_law_pick" "_law_pick" (defArgs s_law_pick) (defBody s_law_pick) (defScope s_law_pick) .none z30 z31 z32 z33 z34 z35
    | 20 => PySem.W.fnOf "_law_row" "_law_row" (defArgs s_law_row) (defBody s_law_row) (defScope s_law_row) .none z21 z22 z23 z24 z25 z26
    | 21 => PySem.W.fnOf "_law_every" "_law_every" (defArgs s_law_every) (defBody s_law_every) (defScope s_law_every) .none z66 z67 z68 z69 z70 z71
    | 22 => PySem.W.fnOf "_law_key" "_law_key" (defArgs s_law_key) (defBody s_law_key) (defScope s_law_key) .none z208 z209 z210 z211 z212 z213
    | 23 => PySem.W.fnOf "_law_sorted" "_law_sorted" (defArgs s_law_sorted) (defBody s_law_sorted) (defScope s_law_sorted) .none z217 z218 z219 z220 z221 z222
    | 24 => PySem.W.fnOf "_law_alike" "_law_alike" (defArgs s_law_alike) (defBody s_law_alike) (defScope s_law_alike) .none z75 z76 z77 z78 z79 z80
    | 25 => PySem.W.fnOf "_law_bad_row" "_law_bad_row" (defArgs s_law_bad_row) (defBody s_law_bad_row) (defScope s_law_bad_row) .none z39 z40 z41 z42 z43 z44
    | 26 => PySem.W.fnOf "_law_string" "_law_string" (defArgs s_law_string) (defBody s_law_string) (defScope s_law_string) .none z48 z49 z50 z51 z52 z53
    | 27 => PySem.W.fnOf "_law_rows" "_law_rows" (defArgs s_law_rows) (defBody s_law_rows) (defScope s_law_rows) .none z57 z58 z59 z60 z61 z62
    | 28 => PySem.W.fnOf "_law_is_name" "_law_is_name" (defArgs s_law_is_name) (defBody s_law_is_name) (defScope s_law_is_name) .none z111 z112 z113 z114 z115 z116
    | 29 => PySem.W.fnOf "_law_row_checked" "_law_row_checked" (defArgs s_law_row_checked) (defBody s_law_row_checked) (defScope s_law_row_checked) .none z102 z103 z104 z105 z106 z107
    | 30 => PySem.W.fnOf "_law_name_checked" "_law_name_checked" (defArgs s_law_name_checked) (defBody s_law_name_checked) (defScope s_law_name_checked) .none z172 z173 z174 z175 z176 z177
    | 31 => PySem.W.fnOf "law" "law" (defArgs s_law) (defBody s_law) (defScope s_law) .none z235 z236 z237 z238 z239 z240
    | _ => PySem.W.fnOf "law" "law" (defArgs s_law) (defBody s_law) (defScope s_law) .none z235 z236 z237 z238 z239 z240 := ⟨_, rfl⟩
  have ea0x : ad 0 = f0 := by rw [had]; rfl
  have ea1x : ad 1 = f1 := by rw [had]; rfl
  have ea2x : ad 2 = f2 := by rw [had]; rfl
  have ea3x : ad 3 = f3 := by rw [had]; rfl
  have ea4x : ad 4 = f4 := by rw [had]; rfl
  have ea5x : ad 5 = f5 := by rw [had]; rfl
  have ea6x : ad 6 = f6 := by rw [had]; rfl
  have ea7x : ad 7 = f7 := by rw [had]; rfl
  have ea8x : ad 8 = f8 := by rw [had]; rfl
  have ea9x : ad 9 = f9 := by rw [had]; rfl
  have ea10x : ad 10 = f10 := by rw [had]; rfl
  have ea11x : ad 11 = f11 := by rw [had]; rfl
  have ea12x : ad 12 = f12 := by rw [had]; rfl
  have ea14x : ad 14 = f14 := by rw [had]; rfl
  have ea15x : ad 15 = f15 := by rw [had]; rfl
  have ea16x : ad 16 = f16 := by rw [had]; rfl
  have ea17x : ad 17 = f17 := by rw [had]; rfl
  have ea18x : ad 18 = f18 := by rw [had]; rfl
  have ea19x : ad 19 = f19 := by rw [had]; rfl
  have ea20x : ad 20 = f20 := by rw [had]; rfl
  have ea21x : ad 21 = f21 := by rw [had]; rfl
  have ea22x : ad 22 = f22 := by rw [had]; rfl
  have ea23x : ad 23 = f23 := by rw [had]; rfl
  have ea24x : ad 24 = f24 := by rw [had]; rfl
  have ea25x : ad 25 = f25 := by rw [had]; rfl
  have ea26x : ad 26 = f26 := by rw [had]; rfl
  have ea27x : ad 27 = f27 := by rw [had]; rfl
  have ea28x : ad 28 = f28 := by rw [had]; rfl
  have ea29x : ad 29 = f29 := by rw [had]; rfl
  have ea30x : ad 30 = f30 := by rw [had]; rfl
  have ea31x : ad 31 = f31 := by rw [had]; rfl
  have ef2x : fd 2 = PySem.W.ksFn "__init__" "InvalidName.__init__" (defArgs s_InvalidName___init__) (defBody s_InvalidName___init__) (defScope s_InvalidName___init__) .none z129 z130 z131 z132 (.ref z135) z133 z136 := by rw [hfd]; rfl
  have ef6x : fd 6 = PySem.W.fnOf "is_value" "is_value" (defArgs s_is_value) (defBody s_is_value) (defScope s_is_value) .none z84 z85 z86 z87 z88 z89 := by rw [hfd]; rfl
  have ef7x : fd 7 = PySem.W.fnOf "check_row" "check_row" (defArgs s_check_row) (defBody s_check_row) (defScope s_check_row) .none z93 z94 z95 z96 z97 z98 := by rw [hfd]; rfl
  have ef8x : fd 8 = PySem.W.fnOf "value_key" "value_key" (defArgs s_value_key) (defBody s_value_key) (defScope s_value_key) .none z181 z182 z183 z184 z185 z186 := by rw [hfd]; rfl
  have ef9x : fd 9 = PySem.W.fnOf "row_key" "row_key" (defArgs s_row_key) (defBody s_row_key) (defScope s_row_key) .none z190 z191 z192 z193 z194 z195 := by rw [hfd]; rfl
  have ef10x : fd 10 = PySem.W.fnOf "sorted_rows" "sorted_rows" (defArgs s_sorted_rows) (defBody s_sorted_rows) (defScope s_sorted_rows) .none z199 z200 z201 z202 z203 z204 := by rw [hfd]; rfl
  have ef12x : fd 12 = PySem.W.fnOf "altered" "altered" (defArgs s_altered) (defBody s_altered) (defScope s_altered) .none z226 z227 z228 z229 z230 z231 := by rw [hfd]; rfl
  have ef15x : fd 15 = PySem.W.fnOf "is_name" "is_name" (defArgs s_is_name) (defBody s_is_name) (defScope s_is_name) .none z120 z121 z122 z123 z124 z125 := by rw [hfd]; rfl
  have ef16x : fd 16 = PySem.W.fnOf "check_name" "check_name" (defArgs s_check_name) (defBody s_check_name) (defScope s_check_name) .none z163 z164 z165 z166 z167 z168 := by rw [hfd]; rfl
  have ef17x : fd 17 = PySem.W.fnOf "_law_box" "_law_box" (defArgs s_law_box) (defBody s_law_box) (defScope s_law_box) .none z3 z4 z5 z6 z7 z8 := by rw [hfd]; rfl
  have ef18x : fd 18 = PySem.W.fnOf "_law_draw" "_law_draw" (defArgs s_law_draw) (defBody s_law_draw) (defScope s_law_draw) .none z12 z13 z14 z15 z16 z17 := by rw [hfd]; rfl
  have ef19x : fd 19 = PySem.W.fnOf "_law_pick" "_law_pick" (defArgs s_law_pick) (defBody s_law_pick) (defScope s_law_pick) .none z30 z31 z32 z33 z34 z35 := by rw [hfd]; rfl
  have ef20x : fd 20 = PySem.W.fnOf "_law_row" "_law_row" (defArgs s_law_row) (defBody s_law_row) (defScope s_law_row) .none z21 z22 z23 z24 z25 z26 := by rw [hfd]; rfl
  have ef21x : fd 21 = PySem.W.fnOf "_law_every" "_law_every" (defArgs s_law_every) (defBody s_law_every) (defScope s_law_every) .none z66 z67 z68 z69 z70 z71 := by rw [hfd]; rfl
  have ef22x : fd 22 = PySem.W.fnOf "_law_key" "_law_key" (defArgs s_law_key) (defBody s_law_key) (defScope s_law_key) .none z208 z209 z210 z211 z212 z213 := by rw [hfd]; rfl
  have ef23x : fd 23 = PySem.W.fnOf "_law_sorted" "_law_sorted" (defArgs s_law_sorted) (defBody s_law_sorted) (defScope s_law_sorted) .none z217 z218 z219 z220 z221 z222 := by rw [hfd]; rfl
  have ef24x : fd 24 = PySem.W.fnOf "_law_alike" "_law_alike" (defArgs s_law_alike) (defBody s_law_alike) (defScope s_law_alike) .none z75 z76 z77 z78 z79 z80 := by rw [hfd]; rfl
  have ef25x : fd 25 = PySem.W.fnOf "_law_bad_row" "_law_bad_row" (defArgs s_law_bad_row) (defBody s_law_bad_row) (defScope s_law_bad_row) .none z39 z40 z41 z42 z43 z44 := by rw [hfd]; rfl
  have ef26x : fd 26 = PySem.W.fnOf "_law_string" "_law_string" (defArgs s_law_string) (defBody s_law_string) (defScope s_law_string) .none z48 z49 z50 z51 z52 z53 := by rw [hfd]; rfl
  have ef27x : fd 27 = PySem.W.fnOf "_law_rows" "_law_rows" (defArgs s_law_rows) (defBody s_law_rows) (defScope s_law_rows) .none z57 z58 z59 z60 z61 z62 := by rw [hfd]; rfl
  have ef28x : fd 28 = PySem.W.fnOf "_law_is_name" "_law_is_name" (defArgs s_law_is_name) (defBody s_law_is_name) (defScope s_law_is_name) .none z111 z112 z113 z114 z115 z116 := by rw [hfd]; rfl
  have ef29x : fd 29 = PySem.W.fnOf "_law_row_checked" "_law_row_checked" (defArgs s_law_row_checked) (defBody s_law_row_checked) (defScope s_law_row_checked) .none z102 z103 z104 z105 z106 z107 := by rw [hfd]; rfl
  have ef30x : fd 30 = PySem.W.fnOf "_law_name_checked" "_law_name_checked" (defArgs s_law_name_checked) (defBody s_law_name_checked) (defScope s_law_name_checked) .none z172 z173 z174 z175 z176 z177 := by rw [hfd]; rfl
  have ef31x : fd 31 = PySem.W.fnOf "law" "law" (defArgs s_law) (defBody s_law) (defScope s_law) .none z235 z236 z237 z238 z239 z240 := by rw [hfd]; rfl
  have T : Txt l.prog w K mg ad fd := by
    constructor
    · rw [ea17x]; exact PySem.W.mg_of X G a17
    · rw [ea20x]; exact PySem.W.mg_of X G a20
    · rw [ea18x]; exact PySem.W.mg_of X G a18
    · rw [ea19x]; exact PySem.W.mg_of X G a19
    · rw [ea25x]; exact PySem.W.mg_of X G a25
    · rw [ea26x]; exact PySem.W.mg_of X G a26
    · rw [ea27x]; exact PySem.W.mg_of X G a27
    · rw [ea21x]; exact PySem.W.mg_of X G a21
    · rw [ea24x]; exact PySem.W.mg_of X G a24
    · rw [ea4x]; exact PySem.W.mg_of X G a4
    · rw [ea5x]; exact PySem.W.mg_of X G a5
    · rw [ea29x]; exact PySem.W.mg_of X G a29
    · rw [ea30x]; exact PySem.W.mg_of X G a30
    · rw [ea10x]; exact PySem.W.mg_of X G a10
    · rw [ea23x]; exact PySem.W.mg_of X G a23
    · rw [ea12x]; exact PySem.W.mg_of X G a12
    · rw [ea9x]; exact PySem.W.mg_of X G a9
    · rw [ea22x]; exact PySem.W.mg_of X G a22
    · rw [ea8x]; exact PySem.W.mg_of X G a8
    · rw [ea28x]; exact PySem.W.mg_of X G a28
    · rw [ea15x]; exact PySem.W.mg_of X G a15
    · rw [ea0x]; exact PySem.W.mg_of X G a0
    · rw [ea16x]; exact PySem.W.mg_of X G a16
    · rw [ea1x]; exact PySem.W.mg_of X G a1
    · rw [ea3x]; exact PySem.W.mg_of X G a3
    · rw [ea14x]; exact PySem.W.mg_of X G a14
    · rw [ea7x]; exact PySem.W.mg_of X G a7
    · rw [ea6x]; exact PySem.W.mg_of X G a6
    · rw [ea17x, ef17x]; exact F17
    · rw [ef17x]; exact b17
    · rw [ea18x, ef18x]; exact F18
    · rw [ef18x]; exact b18
    · rw [ea20x, ef20x]; exact F20
    · rw [ef20x]; exact b20
    · rw [ea19x, ef19x]; exact F19
    · rw [ef19x]; exact b19
    · rw [ea25x, ef25x]; exact F25
    · rw [ef25x]; exact b25
    · rw [ea26x, ef26x]; exact F26
    · rw [ef26x]; exact b26
    · rw [ea27x, ef27x]; exact F27
    · rw [ef27x]; exact b27
    · rw [ea21x, ef21x]; exact F21
    · rw [ef21x]; exact b21
    · rw [ea24x, ef24x]; exact F24
    · rw [ef24x]; exact b24
    · rw [ea6x, ef6x]; exact F6
    · rw [ef6x]; exact b6
    · rw [ea7x, ef7x]; exact F7
    · rw [ef7x]; exact b7
    · rw [ea29x, ef29x]; exact F29
    · rw [ef29x]; exact b29
    · rw [ea28x, ef28x]; exact F28
    · rw [ef28x]; exact b28
    · rw [ea15x, ef15x]; exact F15
    · rw [ef15x]; exact b15
    · rw [ea1x, ea2x, ef2x]; exact ⟨⟨z136, z135, _, _, _, _, _, _, _, _, rfl, l2, c2, ⟨⟨_, _, _, l2⟩, ⟨_, rfl, rfl⟩, ⟨_, _, _, _, _, _, oc2, ov2, of_2⟩, ⟨_, _, _, oe2⟩, om_1, PySem.W.mg_none_of X G n_super, othird, osin1, oisv1, otop⟩⟩⟩
    · rw [ef2x]; exact b2
    · rw [ea1x]; exact ⟨⟨_, _, _, _, _, _, _, _, _, _, _, _, _, _, _, ok_1, ob_1⟩, csa1, xb1, xt1, kp1⟩
    · rw [ea1x, ea2x]; exact om2
    · rw [ea2x]; exact ot1
    · rw [ea1x]; exact ofl1_name
    · rw [ea16x, ef16x]; exact F16
    · rw [ef16x]; exact b16
    · rw [ea30x, ef30x]; exact F30
    · rw [ef30x]; exact b30
    · rw [ea8x, ef8x]; exact F8
    · rw [ef8x]; exact b8
    · rw [ea9x, ef9x]; exact F9
    · rw [ef9x]; exact b9
    · rw [ea10x, ef10x]; exact F10
    · rw [ef10x]; exact b10
    · rw [ea22x, ef22x]; exact F22
    · rw [ef22x]; exact b22
    · rw [ea23x, ef23x]; exact F23
    · rw [ef23x]; exact b23
    · rw [ea12x, ef12x]; exact F12
    · rw [ef12x]; exact b12
    · rw [ea31x, ef31x]; exact F31
    · rw [ef31x]; exact b31
    · intro F H; rw [ea4x]; exact (fun _ _ => .tup (vs := [(.non : V), (.int 0 : V), (.int 1 : V), (.int 2 : V)]) (.inr ⟨_, _, _, r4, rfl, rfl, (by show 4 ≤ sizeLine; decide), .cons rfl (.cons ⟨_, rfl⟩ (.cons ⟨_, rfl⟩ (.cons ⟨_, rfl⟩ (.nil))))⟩) (.cons (.non) (.cons (.int _) (.cons (.int _) (.cons (.int _) (.nil)))))) F H
    · intro F H; rw [ea5x]; exact (fun _ _ => .tup (vs := [(.non : V), (.non : V), (.non : V)]) (.inr ⟨_, _, _, r5, rfl, rfl, (by show 3 ≤ sizeLine; decide), .cons rfl (.cons rfl (.cons rfl (.nil)))⟩) (.cons (.non) (.cons (.non) (.cons (.non) (.nil))))) F H
    · exact PySem.W.mg_none_of X G n_range
    · rw [ea4x, ea11x]; exact ⟨⟨s_all_rows, _, _, F11, b11, rfl, rfl, rfl, rfl, _, _, _, _, _, _, _, _, _, _, _, _, _, _, _, _, rfl⟩, PySem.W.mg_of X G a11, PySem.W.mg_of X G a4, ⟨_, _, _, r4, rfl, rfl, .cons rfl (.cons ⟨_, rfl⟩ (.cons ⟨_, rfl⟩ (.cons ⟨_, rfl⟩ .nil)))⟩⟩
    · exact PySem.W.mg_none_of X G n_list
    · exact PySem.W.mg_none_of X G n_tuple
    · exact PySem.W.mg_none_of X G n_isinstance
    · exact ⟨fun t c b h => blt_ok K _ _ (isiOf_mem h), fun c t b h => by
          have := isiOf_mem h
          simp [isiTab, bltTab] at this⟩
    · exact PySem.W.mg_none_of X G n_bool
    · exact PySem.W.mg_none_of X G n_int
    · exact PySem.W.mg_none_of X G n_str
    · exact PySem.W.mg_none_of X G n_len
    · exact PySem.W.mg_none_of X G n_sorted
    · exact fun c bb h => by
          unfold ct_BookError at h
          split at h
          · cases h; simp only [ea0x, ea1x, ea3x]; exact PySem.W.exm_ref xb0 xd0 xt0 xs1_0
          · cases h; simp only [ea0x, ea1x, ea3x]; exact PySem.W.exm_ref xb0 xd0 xt0 xs3_0
          · cases h
    · exact fun c bb h => by
          unfold xis_InvalidName at h
          split at h
          · cases h; simp only [ea0x, ea1x, ea3x]; exact ⟨⟨eg1, ek1, xb1, xd1, ea1, en, et, em1⟩, ei1_1⟩
          · cases h; simp only [ea0x, ea1x, ea3x]; exact ⟨⟨eg3, ek3, xb3, xd3, ea3, en, et, em3⟩, ei3_1⟩
          · cases h
    · exact fun c bb h => by
          unfold xis_InvalidRow at h
          split at h
          · cases h; simp only [ea0x, ea1x, ea3x]; exact ⟨⟨eg1, ek1, xb1, xd1, ea1, en, et, em1⟩, ei1_3⟩
          · cases h; simp only [ea0x, ea1x, ea3x]; exact ⟨⟨eg3, ek3, xb3, xd3, ea3, en, et, em3⟩, ei3_3⟩
          · cases h
    · exact fun c h => by
          unfold xf_name at h
          split at h
          · simp only [ea0x, ea1x, ea3x]; exact ⟨⟨eg1, ek1, xb1, xd1⟩, ofl1_name⟩
          · cases h
    · intro F H; rw [ea14x]; exact (fun _ _ => .tup (vs := [(.str "on" : V), (.str "set" : V), (.str "new" : V)]) (.inr ⟨_, _, _, r14, rfl, rfl, (by show 3 ≤ sizeLine; decide), .cons ⟨_, rfl⟩ (.cons ⟨_, rfl⟩ (.cons ⟨_, rfl⟩ (.nil)))⟩) (.cons (.str _) (.cons (.str _) (.cons (.str _) (.nil))))) F H
    · exact PySem.W.mg_none_of X G n_all
    · exact ⟨_, PySem.W.mg_of X G as13, ⟨_, rfl⟩⟩
    · rw [ea3x]; exact xq3
    · rw [ea3x]; exact xk3
    · rw [ea3x]; exact xb3
    · rw [ea3x]; exact xt3
    · exact PySem.W.mg_none_of X G n_abs
  refine ⟨PySem.W.fnOf "law" "law" (defArgs s_law) (defBody s_law) (defScope s_law) .none z235 z236 z237 z238 z239 z240, fun s v => .of_eq rfl, fun base _ _ => ⟨ad, ?_⟩⟩
  have R := ok_law (P := l.prog) (base := base) T
  rw [ea31x, ef31x] at R
  rw [efa]
  exact R
end K01
open PySem PySem.W PyProof.Rows
set_option maxRecDepth 100000 in
set_option maxHeartbeats 0 in
theorem PySem.Challenge.cw_bookstogether_k01_rows_and_names_holds : PySem.Challenge.rw_bookstogether_k01_rows_and_names.Holds := by
  w_on; o_law; k_head; (case hw => w_witness2)
  k_fill
  refine K01.walk (l := PySem.Challenge.rw_bookstogether_k01_rows_and_names) rfl rfl (fun w h Y => PySem.W.kIn_of Y) ?F
  case F =>
    intro w mg fa h KX G hmg
    refine' K01.all_mk KX G hmg ?a0 ?a1 ?a3 ?a17 ?l17 ?c17 ?k17 ?a18 ?l18 ?c18 ?k18 ?a20 ?l20 ?c20 ?k20 ?a19 ?l19 ?c19 ?k19 ?a25 ?l25 ?c25 ?k25 ?a26 ?l26 ?c26 ?k26 ?a27 ?l27 ?c27 ?k27 ?a21 ?l21 ?c21 ?k21 ?a24 ?l24 ?c24 ?k24 ?a6 ?l6 ?c6 ?k6 ?a7 ?l7 ?c7 ?k7 ?a29 ?l29 ?c29 ?k29 ?a28 ?l28 ?c28 ?k28 ?a15 ?l15 ?c15 ?k15 ?om2 ?l2 ?c2 ?oc2 ?ov2 ?of_2 ?oe2 ?om_1 ?n_super ?othird ?osin1 ?oisv1 ?otop ?ok_1 ?ob_1 ?csa1 ?xb1 ?xt1 ?kp1 ?ot1 ?ofl1_name ?a16 ?l16 ?c16 ?k16 ?a30 ?l30 ?c30 ?k30 ?a8 ?l8 ?c8 ?k8 ?a9 ?l9 ?c9 ?k9 ?a10 ?l10 ?c10 ?k10 ?a22 ?l22 ?c22 ?k22 ?a23 ?l23 ?c23 ?k23 ?a12 ?l12 ?c12 ?k12 ?a31 ?l31 ?c31 ?k31 ?a4 ?r4 ?a5 ?r5 ?n_range ?a11 ?l11 ?c11 ?k11 ?n_list ?n_tuple ?n_isinstance ?n_bool ?n_int ?n_str ?n_len ?n_sorted ?xb0 ?xt0 ?xd0 ?xs1_0 ?xs3_0 ?eg1 ?ek1 ?xd1 ?ea1 ?en ?et ?em1 ?ei1_1 ?eg3 ?ek3 ?xb3 ?xd3 ?ea3 ?em3 ?ei3_1 ?ei1_3 ?ei3_3 ?a14 ?r14 ?n_all ?as13 ?xq3 ?xk3 ?xt3 ?n_abs
    (case a0 => k_is)
    (case a1 => k_is)
    (case a3 => k_is)
    (case a17 => k_is)
    (case l17 => k_is)
    (case c17 => k_is)
    (case k17 => k_is)
    (case a18 => k_is)
    (case l18 => k_is)
    (case c18 => k_is)
    (case k18 => k_is)
    (case a20 => k_is)
    (case l20 => k_is)
    (case c20 => k_is)
    (case k20 => k_is)
    (case a19 => k_is)
    (case l19 => k_is)
    (case c19 => k_is)
    (case k19 => k_is)
    (case a25 => k_is)
    (case l25 => k_is)
    (case c25 => k_is)
    (case k25 => k_is)
    (case a26 => k_is)
    (case l26 => k_is)
    (case c26 => k_is)
    (case k26 => k_is)
    (case a27 => k_is)
    (case l27 => k_is)
    (case c27 => k_is)
    (case k27 => k_is)
    (case a21 => k_is)
    (case l21 => k_is)
    (case c21 => k_is)
    (case k21 => k_is)
    (case a24 => k_is)
    (case l24 => k_is)
    (case c24 => k_is)
    (case k24 => k_is)
    (case a6 => k_is)
    (case l6 => k_is)
    (case c6 => k_is)
    (case k6 => k_is)
    (case a7 => k_is)
    (case l7 => k_is)
    (case c7 => k_is)
    (case k7 => k_is)
    (case a29 => k_is)
    (case l29 => k_is)
    (case c29 => k_is)
    (case k29 => k_is)
    (case a28 => k_is)
    (case l28 => k_is)
    (case c28 => k_is)
    (case k28 => k_is)
    (case a15 => k_is)
    (case l15 => k_is)
    (case c15 => k_is)
    (case k15 => k_is)
    (case om2 => k_is)
    (case l2 => k_is)
    (case c2 => k_is)
    (case oc2 => k_is)
    (case ov2 => rfl)
    (case of_2 => first | rfl | decide +kernel)
    (case oe2 => k_is)
    (case om_1 => k_is)
    (case n_super => k_is)
    (case othird => k_is)
    (case osin1 => ks_is)
    (case oisv1 => k_is)
    (case otop => first | rfl | decide +kernel)
    (case ok_1 => k_is)
    (case ob_1 => first | rfl | decide +kernel)
    (case csa1 => k_is)
    (case xb1 => k_is)
    (case xt1 => k_is)
    (case kp1 => k_is)
    (case ot1 => k_is)
    (case ofl1_name => k_is)
    (case a16 => k_is)
    (case l16 => k_is)
    (case c16 => k_is)
    (case k16 => k_is)
    (case a30 => k_is)
    (case l30 => k_is)
    (case c30 => k_is)
    (case k30 => k_is)
    (case a8 => k_is)
    (case l8 => k_is)
    (case c8 => k_is)
    (case k8 => k_is)
    (case a9 => k_is)
    (case l9 => k_is)
    (case c9 => k_is)
    (case k9 => k_is)
    (case a10 => k_is)
    (case l10 => k_is)
    (case c10 => k_is)
    (case k10 => k_is)
    (case a22 => k_is)
    (case l22 => k_is)
    (case c22 => k_is)
    (case k22 => k_is)
    (case a23 => k_is)
    (case l23 => k_is)
    (case c23 => k_is)
    (case k23 => k_is)
    (case a12 => k_is)
    (case l12 => k_is)
    (case c12 => k_is)
    (case k12 => k_is)
    (case a31 => k_is)
    (case l31 => k_is)
    (case c31 => k_is)
    (case k31 => k_is)
    (case a4 => k_is)
    (case r4 => k_is)
    (case a5 => k_is)
    (case r5 => k_is)
    (case n_range => k_is)
    (case a11 => k_is)
    (case l11 => k_is)
    (case c11 => k_is)
    (case k11 => k_is)
    (case n_list => k_is)
    (case n_tuple => k_is)
    (case n_isinstance => k_is)
    (case n_bool => k_is)
    (case n_int => k_is)
    (case n_str => k_is)
    (case n_len => k_is)
    (case n_sorted => k_is)
    (case xb0 => k_is)
    (case xt0 => k_is)
    (case xd0 => k_is)
    (case xs1_0 => k_is)
    (case xs3_0 => k_is)
    (case eg1 => k_is)
    (case ek1 => k_is)
    (case xd1 => k_is)
    (case ea1 => k_is)
    (case en => k_is)
    (case et => k_is)
    (case em1 => k_is)
    (case ei1_1 => kit_is)
    (case eg3 => k_is)
    (case ek3 => k_is)
    (case xb3 => k_is)
    (case xd3 => k_is)
    (case ea3 => k_is)
    (case em3 => k_is)
    (case ei3_1 => kit_is)
    (case ei1_3 => kit_is)
    (case ei3_3 => kit_is)
    (case a14 => k_is)
    (case r14 => k_is)
    (case n_all => k_is)
    (case as13 => k_is)
    (case xq3 => k_exc)
    (case xk3 => k_is)
    (case xt3 => k_is)
    (case n_abs => k_is)
