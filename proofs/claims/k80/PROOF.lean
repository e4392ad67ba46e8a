import PyProof.Rows.All
import Wide.All
import OpenK.AllK
import Wide.FinOn
import HandS.ForMost
import HandS.ForExc
import HandS.HotCalls
import HandS.ExcInitHot
import HandS.CallSlots
import HandS.Style
import HandS.IsInst
import HandS.TupAny
import HandS.WordsList
import HandS.Flow
import HandS.ExcIs
import HandS.More
import HandS.WrittenGet
import HandS.Defaults
import HandS.Property
import HandS.ClsMeth
import HandS.Strs
import KE.KSuperObj
import KE.KExcSuper
import HandS.ExcInit
import HandS.ExcSuper
import KE.KExcIs
import HandS.ExcField
import HandS.Star
import HandS.MakeKwOnly
import HandS.Deep
import HandS.Zip
import KE.DataAny
import PyProof.P3In
import HandS.Small
import HandS.DictComp
import HandS.TryOnly
import HandS.List
import HandS.Iter
import PyProof.GenQ
import PyProof.Rows.RowBridgeG
import HandS.GenList
import HandS.Call
import HandS.ExcCtx
import HandS.TupSets
import KE.KDictCopyH
import HandS.OwnIter
import HandS.IterNext
import PyProof.WalksMore
import HandS.Exc
import HandS.ExcOwn
import KE.SortKeyHeap
import HandS.SortKw
import HandS.SetFor
import HandS.WordsDict
import HandS.SortInts
import HandS.ListItems
import PyProof.StrOps2
import HandS.ExcValue
import HandS.Sort
import PySem.Challenge.RW_bookstogether_k80_begin_order_without_ov
set_option Elab.async false
set_option linter.all false
set_option maxRecDepth 100000
set_option maxHeartbeats 4000000

namespace T2
open PySem L2

/-! ### values that are trees; the things that change stand in a list, by place -/
inductive D where
  | non | bl (b : Bool) | int (i : Int) | str (x : Str) | ty (n : String) | cls (c : Nat) | ref (n : Nat) | obj (a : Addr) | tk (ks : List Key)
  | tup (ds : List D) | fro (ds : List D) | ins (c : Nat) (ns : List Str) (ds : List D)
inductive MO where
  | lst (ds : List D) | dk (ks : List Key) (ds : List D) | dt (ks : List (List Key)) (ds : List D) | ob (c : Nat) (ns : List Str) (ds : List D) | lk (ks : List Key) (ds : List D) | lt (ks : List (List Key)) (ds : List D)
abbrev MH := List MO
abbrev Env2 := List (Option D)
inductive Res (A : Type) where
  | ok (a : A) (M : MH) | exc (c : Nat) (ns : List Str) (ds : List D) (M : MH) | bad
inductive SR where
  | nx (e : Env2) (M : MH) | rt (d : D) (M : MH) | bk (e : Env2) (M : MH) | ct (e : Env2) (M : MH) | ex (c : Nat) (ns : List Str) (ds : List D) (e : Env2) (M : MH) | bad
def Res.bind {A B : Type} (r : Res A) (k : A → MH → Res B) : Res B := match r with
  | .ok a M => k a M
  | .exc c ns ds M => .exc c ns ds M
  | .bad => .bad
@[simp] theorem Res.bind_ok {A B : Type} (a : A) (M : MH) (k : A → MH → Res B) : (Res.ok a M).bind k = k a M := rfl
@[simp] theorem Res.bind_exc {A B : Type} (c : Nat) (ns : List Str) (ds : List D) (M : MH) (k : A → MH → Res B) : (Res.exc c ns ds M : Res A).bind k = .exc c ns ds M := rfl
@[simp] theorem Res.bind_bad {A B : Type} (k : A → MH → Res B) : (Res.bad : Res A).bind k = .bad := rfl

/-- the written part, and where the classes of the text stand -/
structure Wd where
  K : PySem.W.Frag
  ca : Nat → Addr
/-- a list that never changes any more -/
def FroL (g : Wd) (F : List Addr) (H : Hp) (a : Addr) (vs : List V) : Prop :=
  (H a = some (.lst vs) ∧ a ∉ F) ∨ (∃ o, H a = some (.frz o (.lst vs))) ∨
    ∃ (o : Obj) (its : Array Value) (n : Nat), g.K.lookup a = some o ∧ o.cls = .type "list" ∧ o.dict = none ∧ o.data = .seq its n ∧ its.size ≤ sizeLine ∧ Vals vs its.toList
theorem FroL.sq {g : Wd} {F : List Addr} {H : Hp} {a : Addr} {vs : List V} (h : FroL g F H a vs) : SqL g.K H a vs := by
  rcases h with h | h | h
  · exact .inl (.inl h.1)
  · exact .inl (.inr h)
  · exact .inr h
mutual
inductive Rep (g : Wd) (F : List Addr) (H : Hp) : D → V → Prop
  | non : Rep g F H .non .non
  | bl (b : Bool) : Rep g F H (.bl b) (.bl b)
  | int (i : Int) : Rep g F H (.int i) (.int i)
  | str (x : Str) : Rep g F H (.str x) (.str x)
  | ty (n : String) : Rep g F H (.ty n) (.ty n)
  | cls (c : Nat) : Rep g F H (.cls c) (.ref (g.ca c))
  | obj (a : Addr) : Rep g F H (.obj a) (.ref a)
  | tk {a : Addr} {ks : List Key} (h : H a = some (.tup (ks.map kV))) : Rep g F H (.tk ks) (.ref a)
  | ref {n : Nat} {a : Addr} (h : F[n]? = some a) : Rep g F H (.ref n) (.ref a)
  | tup {a : Addr} {ds : List D} {vs : List V} (h : SqT g.K H a vs) (r : Reps g F H ds vs) : Rep g F H (.tup ds) (.ref a)
  | fro {a : Addr} {ds : List D} {vs : List V} (h : FroL g F H a vs) (r : Reps g F H ds vs) : Rep g F H (.fro ds) (.ref a)
  | ins {a dx : Addr} {c : Nat} {ns : List Str} {ds : List D} {vs : List V} (h : H a = some (.ins (g.ca c) dx (ns.zip vs))) (hn : a ∉ F) (hl : ns.length = vs.length) (r : Reps g F H ds vs) : Rep g F H (.ins c ns ds) (.ref a)
inductive Reps (g : Wd) (F : List Addr) (H : Hp) : List D → List V → Prop
  | nil : Reps g F H [] []
  | cons {d : D} {v : V} {ds : List D} {vs : List V} (h : Rep g F H d v) (t : Reps g F H ds vs) : Reps g F H (d :: ds) (v :: vs)
end

/-- no dict that is locked -/
def NoLk : Option HO → Prop
  | some (.frz _ (.dK _)) => False
  | some (.frz _ (.dT _)) => False
  | _ => True
theorem nolk_of {H : Hp} {a : Addr} {o : HO} (h : H a = some o) (w : NoLk (some o)) : NoLk (H a) := by rw [h]; exact w
/-- from one moment to a later one -/
structure Grow (F : List Addr) (H : Hp) (F' : List Addr) (H' : Hp) : Prop where
  pre : F <+: F'
  keep : ∀ b o, H b = some o → b ∉ F → H' b = some o
  new : ∀ b, b ∈ F' → b ∈ F ∨ H b = none
  lock : ∀ b o, H b = some o → ¬ NoLk (some o) → H' b = some o
/-- what may stand at a place of the changing things -/
def MutO : Option HO → Prop
  | some (.lst _) => True
  | some (.dK _) => True
  | some (.dT _) => True
  | some (.ins _ _ _) => True
  | some (.frz _ (.dK _)) => True
  | some (.frz _ (.dT _)) => True
  | _ => False
def Good (F : List Addr) (H : Hp) : Prop := ∀ a ∈ F, MutO (H a)
theorem Grow.same {F : List Addr} {H : Hp} : Grow F H F H := ⟨List.prefix_refl _, fun _ _ h _ => h, fun _ h => .inl h, fun _ _ h _ => h⟩
theorem Grow.trans {F F1 F2 : List Addr} {H H1 H2 : Hp} (a : Grow F H F1 H1) (b : Grow F1 H1 F2 H2) : Grow F H F2 H2 := by
  refine ⟨a.pre.trans b.pre, fun x o e n => ?_, fun x e => ?_, fun x o e n => b.lock x o (a.lock x o e n) n⟩
  · refine b.keep x o (a.keep x o e n) fun z => ?_
    rcases a.new x z with q | q
    · exact n q
    · rw [e] at q; cases q
  · rcases b.new x e with q | q
    · exact a.new x q
    · by_cases h : x ∈ F
      · exact .inl h
      · cases w : H x with
        | none => exact .inr rfl
        | some o => rw [a.keep x o w h] at q; cases q
theorem Grow.keep2 {F F' : List Addr} {H H' : Hp} (g : Grow F H F' H') {b : Addr} {o : HO} (e : H b = some o) (n : b ∉ F ∨ ¬ NoLk (some o)) : H' b = some o := n.elim (g.keep b o e) (g.lock b o e)
theorem pre_get {A : Type} {l l' : List A} {n : Nat} {a : A} (p : l <+: l') (h : l[n]? = some a) : l'[n]? = some a := by
  obtain ⟨t, rfl⟩ := p
  have hl : n < l.length := (List.getElem?_eq_some_iff.mp h).1
  rw [List.getElem?_append_left hl]; exact h
theorem Grow.off {F F' : List Addr} {H H' : Hp} (g : Grow F H F' H') {a : Addr} {o : HO} (e : H a = some o) (n : a ∉ F) : a ∉ F' := fun z => by
  rcases g.new a z with q | q
  · exact n q
  · rw [e] at q; cases q
theorem Good.notin {F : List Addr} {H : Hp} (G : Good F H) {a : Addr} {o : HO} (e : H a = some o) (h : ¬ MutO (some o)) : a ∉ F := fun z => by
  have := G a z; rw [e] at this; exact h this
section
variable {g : Wd} {F F' : List Addr} {H H' : Hp}
theorem FroL.mono {a : Addr} {vs : List V} (gr : Grow F H F' H') (G : Good F H) (h : FroL g F H a vs) : FroL g F' H' a vs := by
  rcases h with ⟨h, n⟩ | ⟨o, h⟩ | h
  · exact .inl ⟨gr.keep _ _ h n, gr.off h n⟩
  · exact .inr (.inl ⟨o, gr.keep _ _ h (G.notin h (by intro z; exact z))⟩)
  · exact .inr (.inr h)
theorem sqT_mono {a : Addr} {vs : List V} (gr : Grow F H F' H') (G : Good F H) (h : SqT g.K H a vs) : SqT g.K H' a vs := by
  rcases h with (h | ⟨o, h⟩) | h
  · exact .inl (.inl (gr.keep _ _ h (G.notin h (by intro z; exact z))))
  · exact .inl (.inr ⟨o, gr.keep _ _ h (G.notin h (by intro z; exact z))⟩)
  · exact .inr h
mutual
theorem Rep.mono (gr : Grow F H F' H') (G : Good F H) : ∀ {d : D} {v : V}, Rep g F H d v → Rep g F' H' d v
  | _, _, .non => .non
  | _, _, .bl b => .bl b
  | _, _, .int i => .int i
  | _, _, .str x => .str x
  | _, _, .ty n => .ty n
  | _, _, .cls c => .cls c
  | _, _, .obj a => .obj a
  | _, _, .tk h => .tk (gr.keep _ _ h (G.notin h (by intro z; exact z)))
  | _, _, .ref h => .ref (pre_get gr.pre h)
  | _, _, .tup h r => .tup (sqT_mono gr G h) (Reps.mono gr G r)
  | _, _, .fro h r => .fro (h.mono gr G) (Reps.mono gr G r)
  | _, _, .ins h hn hl r => .ins (gr.keep _ _ h hn) (gr.off h hn) hl (Reps.mono gr G r)
theorem Reps.mono (gr : Grow F H F' H') (G : Good F H) : ∀ {ds : List D} {vs : List V}, Reps g F H ds vs → Reps g F' H' ds vs
  | _, _, .nil => .nil
  | _, _, .cons h t => .cons (Rep.mono gr G h) (Reps.mono gr G t)
end
theorem Reps.length : ∀ {ds : List D} {vs : List V}, Reps g F H ds vs → ds.length = vs.length
  | _, _, .nil => rfl
  | _, _, .cons _ t => by simp [Reps.length t]
theorem Reps.get : ∀ {ds : List D} {vs : List V} {n : Nat} {d : D}, Reps g F H ds vs → ds[n]? = some d → ∃ v, vs[n]? = some v ∧ Rep g F H d v
  | _, _, _, _, .nil, e => by simp at e
  | _, _, 0, _, .cons h _, e => by simp at e; subst e; exact ⟨_, rfl, h⟩
  | _, _, n + 1, d, .cons _ t, e => by
    obtain ⟨v, h1, h2⟩ := Reps.get (n := n) (d := d) t (by simpa using e)
    exact ⟨v, by simpa using h1, h2⟩
theorem Reps.append : ∀ {ds es : List D} {vs us : List V}, Reps g F H ds vs → Reps g F H es us → Reps g F H (ds ++ es) (vs ++ us)
  | _, _, _, _, .nil, s => s
  | _, _, _, _, .cons h t, s => .cons h (Reps.append t s)
theorem Reps.set {d : D} {v : V} (r : Rep g F H d v) : ∀ {ds : List D} {vs : List V} (n : Nat), Reps g F H ds vs → Reps g F H (ds.set n d) (vs.set n v)
  | _, _, _, .nil => .nil
  | _, _, 0, .cons _ t => .cons r t
  | _, _, n + 1, .cons h t => .cons h (Reps.set r n t)
theorem Reps.take : ∀ {ds : List D} {vs : List V} (n : Nat), Reps g F H ds vs → Reps g F H (ds.take n) (vs.take n)
  | _, _, 0, _ => .nil
  | _, _, _ + 1, .nil => .nil
  | _, _, n + 1, .cons r t => .cons r (Reps.take n t)
theorem Reps.drop : ∀ {ds : List D} {vs : List V} (n : Nat), Reps g F H ds vs → Reps g F H (ds.drop n) (vs.drop n)
  | _, _, 0, r => r
  | _, _, _ + 1, .nil => .nil
  | _, _, n + 1, .cons _ t => Reps.drop n t
end

inductive ObjR (g : Wd) (F : List Addr) (H : Hp) : MO → HO → Prop
  | lst {ds : List D} {vs : List V} (r : Reps g F H ds vs) : ObjR g F H (.lst ds) (.lst vs)
  | dk {ks : List Key} {ds : List D} {vs : List V} (hl : ks.length = vs.length) (r : Reps g F H ds vs) : ObjR g F H (.dk ks ds) (.dK (ks.zip vs))
  | dt {ks : List (List Key)} {ds : List D} {vs : List V} (hl : ks.length = vs.length) (r : Reps g F H ds vs) : ObjR g F H (.dt ks ds) (.dT (ks.zip vs))
  | ob {c : Nat} {dx : Addr} {ns : List Str} {ds : List D} {vs : List V} (hl : ns.length = vs.length) (r : Reps g F H ds vs) : ObjR g F H (.ob c ns ds) (.ins (g.ca c) dx (ns.zip vs))
  | lk {o : Obj} {ks : List Key} {ds : List D} {vs : List V} (hl : ks.length = vs.length) (r : Reps g F H ds vs) : ObjR g F H (.lk ks ds) (.frz o (.dK (ks.zip vs)))
  | lt {o : Obj} {ks : List (List Key)} {ds : List D} {vs : List V} (hl : ks.length = vs.length) (r : Reps g F H ds vs) : ObjR g F H (.lt ks ds) (.frz o (.dT (ks.zip vs)))
theorem ObjR.mono {g : Wd} {F F' : List Addr} {H H' : Hp} (gr : Grow F H F' H') (G : Good F H) {o : MO} {h : HO} (r : ObjR g F H o h) : ObjR g F' H' o h := by
  cases r with
  | lst r => exact .lst (r.mono gr G)
  | dk hl r => exact .dk hl (r.mono gr G)
  | dt hl r => exact .dt hl (r.mono gr G)
  | ob hl r => exact .ob hl (r.mono gr G)
  | lk hl r => exact .lk hl (r.mono gr G)
  | lt hl r => exact .lt hl (r.mono gr G)
theorem ObjR.mut {g : Wd} {F : List Addr} {H : Hp} {o : MO} {h : HO} (r : ObjR g F H o h) : MutO (some h) := by cases r <;> trivial
structure RelM (g : Wd) (F : List Addr) (M : MH) (H : Hp) : Prop where
  len : F.length = M.length
  nd : F.Nodup
  obj : ∀ (n : Nat) (a : Addr) (o : MO), F[n]? = some a → M[n]? = some o → ∃ h, H a = some h ∧ ObjR g F H o h
theorem RelM.good {g : Wd} {F : List Addr} {M : MH} {H : Hp} (R : RelM g F M H) : Good F H := fun a ha => by
  obtain ⟨n, hn⟩ := List.getElem?_of_mem ha
  have hl : n < M.length := by have := (List.getElem?_eq_some_iff.mp hn).1; rw [R.len] at this; exact this
  obtain ⟨h, e, r⟩ := R.obj n a M[n] hn (List.getElem?_eq_getElem hl)
  rw [e]; exact r.mut
/-- nothing that is tracked changes, nothing new among the changing things -/
theorem RelM.keep {g : Wd} {F : List Addr} {M : MH} {H H' : Hp} (R : RelM g F M H) (k : ∀ b o, H b = some o → H' b = some o) : Grow F H F H' ∧ RelM g F M H' := by
  have gr : Grow F H F H' := ⟨List.prefix_refl _, fun b o e _ => k b o e, fun _ h => .inl h, fun b o e _ => k b o e⟩
  refine ⟨gr, R.len, R.nd, fun n a o e m => ?_⟩
  obtain ⟨h, e2, r⟩ := R.obj n a o e m
  exact ⟨h, k _ _ e2, r.mono gr R.good⟩
theorem upd_keeps {H : Hp} {p : Addr} {o : HO} (hp : H p = none) : ∀ b u, H b = some u → upd H p o b = some u := fun b u e => by rw [upd_ne (ne_of_none e hp)]; exact e
/-- a new thing that never changes -/
theorem RelM.still {g : Wd} {F : List Addr} {M : MH} {H : Hp} {p : Addr} {o : HO} (R : RelM g F M H) (hp : H p = none) : Grow F H F (upd H p o) ∧ RelM g F M (upd H p o) := R.keep (upd_keeps hp)
theorem RelM.notin {g : Wd} {F : List Addr} {M : MH} {H : Hp} {p : Addr} (R : RelM g F M H) (hp : H p = none) : p ∉ F := fun z => by
  have := R.good p z; rw [hp] at this; exact this
/-- a new thing that changes -/
theorem RelM.laid {g : Wd} {F : List Addr} {M : MH} {H : Hp} {p : Addr} {o : HO} {m : MO} (R : RelM g F M H) (hp : H p = none) (ho : ∀ F' H', Grow F H F' H' → ObjR g F' H' m o) : Grow F H (F ++ [p]) (upd H p o) ∧ RelM g (F ++ [p]) (M ++ [m]) (upd H p o) := by
  have gr : Grow F H (F ++ [p]) (upd H p o) := ⟨List.prefix_append _ _, fun b u e _ => upd_keeps hp b u e, fun b hb => by
    rcases List.mem_append.mp hb with q | q
    · exact .inl q
    · have e : b = p := by simpa using q
      rw [e]; exact .inr hp, fun b u e _ => upd_keeps hp b u e⟩
  refine ⟨gr, by simp [R.len], ?_, fun n a u e m2 => ?_⟩
  · rw [List.nodup_append]
    refine ⟨R.nd, by simp, fun x hx y hy => ?_⟩
    have : y = p := by simpa using hy
    rw [this]; intro z; rw [z] at hx; exact R.notin hp hx
  · by_cases hn : n < F.length
    · rw [List.getElem?_append_left hn] at e
      rw [List.getElem?_append_left (by rw [← R.len]; exact hn)] at m2
      obtain ⟨h, e2, r⟩ := R.obj n a u e m2
      exact ⟨h, upd_keeps hp _ _ e2, r.mono gr R.good⟩
    · have hn' : F.length ≤ n := Nat.le_of_not_lt hn
      rw [List.getElem?_append_right hn'] at e
      rw [List.getElem?_append_right (by rw [← R.len]; exact hn')] at m2
      have h0 : n - F.length = 0 := by
        have := (List.getElem?_eq_some_iff.mp e).1
        simp at this; omega
      rw [h0] at e
      rw [← R.len, h0] at m2
      simp at e m2
      subst e; subst m2
      exact ⟨o, upd_same, ho _ _ gr⟩
/-- a changing thing is changed -/
theorem RelM.put {g : Wd} {F : List Addr} {M : MH} {H : Hp} {n : Nat} {a : Addr} {o : HO} {m : MO} (R : RelM g F M H) (hn : F[n]? = some a) (hm : MutO (some o)) (ho : ∀ H', Grow F H F H' → ObjR g F H' m o) (hx : NoLk (H a) := by apply nolk_of <;> first | assumption | trivial) : Grow F H F (upd H a o) ∧ RelM g F (M.set n m) (upd H a o) := by
  have ha : a ∈ F := List.mem_of_getElem? hn
  have gr : Grow F H F (upd H a o) := ⟨List.prefix_refl _, fun b u e nb => by rw [upd_ne (fun z => nb (by rw [z]; exact ha))]; exact e, fun _ h => .inl h, fun b u e n => by rw [upd_ne (fun z => n (by rw [z] at e; rw [e] at hx; exact hx))]; exact e⟩
  refine ⟨gr, by simp [R.len], R.nd, fun k b u e m2 => ?_⟩
  by_cases hk : n = k
  · subst hk
    rw [hn] at e; cases e
    have hl : n < M.length := by have := (List.getElem?_eq_some_iff.mp hn).1; rw [R.len] at this; exact this
    rw [List.getElem?_set_self hl] at m2
    cases m2
    exact ⟨o, upd_same, ho _ gr⟩
  · rw [List.getElem?_set_ne hk] at m2
    obtain ⟨h, e2, r⟩ := R.obj k b u e m2
    refine ⟨h, ?_, r.mono gr R.good⟩
    rw [upd_ne]
    · exact e2
    · intro z
      subst z
      exact hk ((List.getElem?_inj (List.getElem?_eq_some_iff.mp hn).1 R.nd).mp (hn.trans e.symm))

/-! ### the frame's values -/
inductive OptR (g : Wd) (F : List Addr) (H : Hp) : Option D → Option V → Prop
  | none {v : Option V} : OptR g F H none v
  | some {d : D} {v : V} (r : Rep g F H d v) : OptR g F H (some d) (some v)
inductive EnvR (g : Wd) (F : List Addr) (H : Hp) : Env2 → St → Prop
  | nil : EnvR g F H [] []
  | cons {d : Option D} {v : Option V} {ds : Env2} {vs : St} (h : OptR g F H d v) (t : EnvR g F H ds vs) : EnvR g F H (d :: ds) (v :: vs)
section
variable {g : Wd} {F F' : List Addr} {H H' : Hp}
theorem EnvR.mono (gr : Grow F H F' H') (G : Good F H) : ∀ {e : Env2} {s : St}, EnvR g F H e s → EnvR g F' H' e s
  | _, _, .nil => .nil
  | _, _, .cons .none t => .cons .none (EnvR.mono gr G t)
  | _, _, .cons (.some r) t => .cons (.some (r.mono gr G)) (EnvR.mono gr G t)
theorem EnvR.get : ∀ {e : Env2} {s : St} {n : Nat} {d : D}, EnvR g F H e s → e[n]? = some (some d) → ∃ v, s[n]? = some (some v) ∧ Rep g F H d v
  | _, _, _, _, .nil, e => by simp at e
  | _, _, 0, _, .cons h _, e => by
    simp at e; subst e
    cases h with | some r => exact ⟨_, rfl, r⟩
  | _, _, n + 1, d, .cons _ t, e => by
    obtain ⟨v, h1, h2⟩ := EnvR.get (n := n) (d := d) t (by simpa using e)
    exact ⟨v, by simpa using h1, h2⟩
theorem EnvR.set {d : D} {v : V} (r : Rep g F H d v) : ∀ {e : Env2} {s : St} (n : Nat), EnvR g F H e s → EnvR g F H (e.set n (some d)) (s.set n (some v))
  | _, _, _, .nil => .nil
  | _, _, 0, .cons _ t => .cons (.some r) t
  | _, _, n + 1, .cons h t => .cons h (EnvR.set r n t)
theorem EnvR.unset : ∀ {e : Env2} {s : St} (n : Nat) (x : Option V), EnvR g F H e s → EnvR g F H (e.set n none) (s.set n x)
  | _, _, _, _, .nil => .nil
  | _, _, 0, _, .cons _ t => .cons .none t
  | _, _, n + 1, x, .cons h t => .cons h (EnvR.unset n x t)
theorem EnvR.length : ∀ {e : Env2} {s : St}, EnvR g F H e s → e.length = s.length
  | _, _, .nil => rfl
  | _, _, .cons _ t => by simp [EnvR.length t]
end
end T2
namespace T2
open PySem L2

/-! ### what is wanted behind a piece of code -/
/-- an exception's own fields -/
inductive XRep (g : Wd) (F : List Addr) (H : Hp) : List Str → List D → Option Addr → Prop
  | no : XRep g F H [] [] none
  | so {ns : List Str} {ds : List D} {vs : List V} {dd : Addr} (h : H dd = some (.xd (ns.zip vs))) (hne : ns ≠ []) (hl : ns.length = vs.length) (r : Reps g F H ds vs) : XRep g F H ns ds (some dd)
theorem XRep.mono {g : Wd} {F F' : List Addr} {H H' : Hp} {ns : List Str} {ds : List D} {d : Option Addr} (gr : Grow F H F' H') (G : Good F H) (x : XRep g F H ns ds d) : XRep g F' H' ns ds d := by
  cases x with
  | no => exact .no
  | so h hne hl r => exact .so (gr.keep _ _ h (G.notin h (by intro z; exact z))) hne hl (r.mono gr G)
/-- slots that hold a known thing (an exception, within its suite); the fields of such -/
structure PinD where
  xs : List (Nat × Addr)
  xr : List (List Str × List D × Option Addr)
/-- what is wished of an exception; what is pinned -/
structure WY where
  w : WX
  p : PinD
def Pin (xs : List (Nat × Addr)) (σ : St) : Prop := ∀ p ∈ xs, σ[p.1]? = some (some (.ref p.2))
theorem pin_nil {σ : St} : Pin [] σ := fun p h => by simp at h
theorem Pin.set {xs : List (Nat × Addr)} {σ : St} {i : Nat} {v : Option V} (h : Pin xs σ) (hi : ∀ p ∈ xs, i ≠ p.1) : Pin xs (σ.set i v) := fun p hp => by
  rw [List.getElem?_set_ne (hi p hp)]; exact h p hp
def Xrs (g : Wd) (l : List (List Str × List D × Option Addr)) (F : List Addr) (H : Hp) : Prop := ∀ t ∈ l, XRep g F H t.1 t.2.1 t.2.2
theorem xrs_nil {g : Wd} {F : List Addr} {H : Hp} : Xrs g [] F H := fun p h => by simp at h
theorem Xrs.mono {g : Wd} {F F' : List Addr} {H H' : Hp} {l : List (List Str × List D × Option Addr)} (x : Xrs g l F H) (gr : Grow F H F' H') (G : Good F H) : Xrs g l F' H' := fun t ht => (x t ht).mono gr G
structure RelS (g : Wd) (p : PinD) (F : List Addr) (e : Env2) (M : MH) (σ : St) (H : Hp) : Prop where
  m : RelM g F M H
  e : EnvR g F H e σ
  x : Pin p.xs σ
  y : Xrs g p.xr F H
abbrev RAT (A B : Type) := Wd → List Addr → Hp → A → B → Prop
def post {A B : Type} (g : Wd) (RA : RAT A B) (W : WX) (F : List Addr) (σ : St) (H : Hp) (r : Res A) (Q : B → Hp → Prop) : Prop := match r with
  | .ok a M => ∀ F' H' b, Grow F H F' H' → RelM g F' M H' → RA g F' H' a b → Q b H'
  | .exc c ns ds M => ∀ F' H' d, Grow F H F' H' → RelM g F' M H' → XRep g F' H' ns ds d → W (.ref (g.ca c)) d σ H'
  | .bad => False
theorem post.up {A B : Type} {g : Wd} {RA : RAT A B} {W : WX} {F F1 : List Addr} {σ : St} {H H1 : Hp} {r : Res A} {Q : B → Hp → Prop} (gr : Grow F H F1 H1) (h : post g RA W F σ H r Q) : post g RA W F1 σ H1 r Q := by
  cases r with
  | ok a M => exact fun F' H' b g1 R ra => h F' H' b (gr.trans g1) R ra
  | exc c ns ds M => exact fun F' H' d g1 R x => h F' H' d (gr.trans g1) R x
  | bad => exact h
/-- one step, then the rest -/
theorem post.bind {A B A' B' : Type} {g : Wd} {RA : RAT A B} {RA' : RAT A' B'} {W : WX} {F : List Addr} {σ : St} {H : Hp} {r : Res A} {k : A → MH → Res A'} {Q : B' → Hp → Prop} {R : B → Hp → Prop} (h : post g RA' W F σ H (r.bind k) Q)
    (f : ∀ a M F' H' b, r = .ok a M → Grow F H F' H' → RelM g F' M H' → RA g F' H' a b → post g RA' W F' σ H' (k a M) Q → R b H') : post g RA W F σ H r R := by
  cases r with
  | ok a M => exact fun F' H' b g1 Rm ra => f a M F' H' b rfl g1 Rm ra (h.up g1)
  | exc c ns ds M => exact fun F' H' d g1 Rm x => h F' H' d g1 Rm x
  | bad => exact h
/-- the value alone -/
theorem post.ok {A B : Type} {g : Wd} {RA : RAT A B} {W : WX} {F F' : List Addr} {σ : St} {H H' : Hp} {a : A} {M : MH} {b : B} {Q : B → Hp → Prop} (h : post g RA W F σ H (.ok a M) Q) (gr : Grow F H F' H') (R : RelM g F' M H') (ra : RA g F' H' a b) : Q b H' := h F' H' b gr R ra
theorem post.here {A B : Type} {g : Wd} {RA : RAT A B} {W : WX} {F : List Addr} {σ : St} {H : Hp} {a : A} {M : MH} {b : B} {Q : B → Hp → Prop} (h : post g RA W F σ H (.ok a M) Q) (R : RelM g F M H) (ra : RA g F H a b) : Q b H := h F H b .same R ra

abbrev rD : RAT D V := fun g F H d v => Rep g F H d v
abbrev rDs : RAT (List D) (List V) := fun g F H d v => Reps g F H d v
abbrev rB : RAT Bool Bool := fun _ _ _ a b => a = b
abbrev EM := Env2 → MH → Res D
abbrev BM := Env2 → MH → Res Bool
abbrev AM := Env2 → MH → Res (List D)
abbrev SM := Env2 → MH → SR
def tG {A B : Type} (g : Wd) (RA : RAT A B) (W : WY) (m : Env2 → MH → Res A) : St → Hp → (B → Hp → Prop) → Prop := fun σ H Q => ∃ F e M, RelS g W.p F e M σ H ∧ post g RA W.w F σ H (m e M) Q
abbrev tD (g : Wd) (W : WY) (m : EM) : TE := tG g rD W m
abbrev tB2 (g : Wd) (W : WY) (m : BM) : TT := tG g rB W m
abbrev tA (g : Wd) (W : WY) (m : AM) : TA := tG g rDs W m
def postS (g : Wd) (W : WY) (F : List Addr) (H : Hp) (r : SR) (E : Ends) : Prop := match r with
  | .nx e M => ∀ F' H' σ', Grow F H F' H' → RelM g F' M H' → EnvR g F' H' e σ' → Pin W.p.xs σ' → E.nx σ' H'
  | .rt d M => ∀ F' H' v, Grow F H F' H' → RelM g F' M H' → Rep g F' H' d v → E.rt v H'
  | .bk e M => ∀ F' H' σ', Grow F H F' H' → RelM g F' M H' → EnvR g F' H' e σ' → Pin W.p.xs σ' → E.bk σ' H'
  | .ct e M => ∀ F' H' σ', Grow F H F' H' → RelM g F' M H' → EnvR g F' H' e σ' → Pin W.p.xs σ' → E.ct σ' H'
  | .ex c ns ds e M => ∀ F' H' σ' d, Grow F H F' H' → RelM g F' M H' → EnvR g F' H' e σ' → XRep g F' H' ns ds d → W.w (.ref (g.ca c)) d σ' H'
  | .bad => False
theorem postS.up {g : Wd} {W : WY} {F F1 : List Addr} {H H1 : Hp} {r : SR} {E : Ends} (gr : Grow F H F1 H1) (h : postS g W F H r E) : postS g W F1 H1 r E := by
  cases r with
  | nx e M => exact fun F' H' b g1 R x => h F' H' b (gr.trans g1) R x
  | rt e M => exact fun F' H' b g1 R x => h F' H' b (gr.trans g1) R x
  | bk e M => exact fun F' H' b g1 R x => h F' H' b (gr.trans g1) R x
  | ct e M => exact fun F' H' b g1 R x => h F' H' b (gr.trans g1) R x
  | ex c ns ds e M => exact fun F' H' b d g1 R x y => h F' H' b d (gr.trans g1) R x y
  | bad => exact h
def tS (g : Wd) (W : WY) (m : SM) : TS := fun E σ H => ∃ F e M, RelS g W.p F e M σ H ∧ postS g W F H (m e M) E

theorem RelS.up {g : Wd} {p : PinD} {F F' : List Addr} {e : Env2} {M M' : MH} {σ : St} {H H' : Hp} (R : RelS g p F e M σ H) (gr : Grow F H F' H') (Rm : RelM g F' M' H') : RelS g p F' e M' σ H' := ⟨Rm, R.e.mono gr R.m.good, R.x, R.y.mono gr R.m.good⟩
/-- an expression's value, then a statement -/
def Res.toS (r : Res D) (e : Env2) (k : D → MH → SR) : SR := match r with
  | .ok a M => k a M
  | .exc c ns ds M => .ex c ns ds e M
  | .bad => .bad
def Res.toSB (r : Res Bool) (e : Env2) (k : Bool → MH → SR) : SR := match r with
  | .ok a M => k a M
  | .exc c ns ds M => .ex c ns ds e M
  | .bad => .bad
theorem postS.step {g : Wd} {W : WY} {F : List Addr} {σ : St} {e : Env2} {M0 : MH} {H : Hp} {r : Res D} {k : D → MH → SR} {E : Ends} {R : V → Hp → Prop} (RS : RelS g W.p F e M0 σ H) (h : postS g W F H (r.toS e k) E)
    (f : ∀ a M F' H' v, r = .ok a M → Grow F H F' H' → RelM g F' M H' → Rep g F' H' a v → postS g W F' H' (k a M) E → R v H') : post g rD W.w F σ H r R := by
  cases r with
  | ok a M => exact fun F' H' b g1 Rm ra => f a M F' H' b rfl g1 Rm ra (h.up g1)
  | exc c ns ds M => exact fun F' H' d g1 Rm x => h F' H' σ d g1 Rm (RS.e.mono g1 RS.m.good) x
  | bad => exact h
theorem postS.stepB {g : Wd} {W : WY} {F : List Addr} {σ : St} {e : Env2} {M0 : MH} {H : Hp} {r : Res Bool} {k : Bool → MH → SR} {E : Ends} {R : Bool → Hp → Prop} (RS : RelS g W.p F e M0 σ H) (h : postS g W F H (r.toSB e k) E)
    (f : ∀ a M F' H', r = .ok a M → Grow F H F' H' → RelM g F' M H' → postS g W F' H' (k a M) E → R a H') : post g rB W.w F σ H r R := by
  cases r with
  | ok a M => exact fun F' H' b g1 Rm ra => by cases ra; exact f a M F' H' rfl g1 Rm (h.up g1)
  | exc c ns ds M => exact fun F' H' d g1 Rm x => h F' H' σ d g1 Rm (RS.e.mono g1 RS.m.good) x
  | bad => exact h

/-! ### readings made weaker -/
theorem pe_imp {X : Cx} {e : Expr} {t t' : TE} (h : PE X e t) (i : ∀ σ H Q, t' σ H Q → t σ H Q) : PE X e t' := ⟨fun pins s σ H Q I q => h.run pins s σ H Q I (i σ H Q q)⟩
theorem pt_imp {X : Cx} {e : Expr} {t t' : TT} (h : PT X e t) (i : ∀ σ H Q, t' σ H Q → t σ H Q) : PT X e t' := ⟨fun pins s σ H Q I q => h.run pins s σ H Q I (i σ H Q q)⟩
theorem pw_imp {X : Cx} {e : Expr} {t t' : TT} (h : PW X e t) (i : ∀ σ H Q, t' σ H Q → t σ H Q) : PW X e t' := ⟨fun whole pins s σ H Q I q => h.run whole pins s σ H Q I (i σ H Q q)⟩
theorem pa_imp {X : Cx} {e : List Expr} {t t' : TA} (h : PA X e t) (i : ∀ σ H Q, t' σ H Q → t σ H Q) : PA X e t' := ⟨fun pos pins s σ H Q I q => h.run pos pins s σ H Q I (i σ H Q q)⟩
theorem ps_imp {X : Cx} {e : Stmt} {t t' : TS} (h : PS X e t) (i : ∀ E σ H, t' E σ H → t E σ H) : PS X e t' := ⟨fun pins s σ H E I q => h.run pins s σ H E I (i E σ H q)⟩
theorem pss_imp {X : Cx} {e : List Stmt} {t t' : TS} (h : PSs X e t) (i : ∀ E σ H, t' E σ H → t E σ H) : PSs X e t' := ⟨fun pins s σ H E I q => h.run pins s σ H E I (i E σ H q)⟩

/-! ### expressions -/
def eVar (n : Nat) : EM := fun e M => match e[n]? with
  | some (some d) => .ok d M
  | _ => .bad
def eC (d : D) : EM := fun _ M => .ok d M
def eUn (f : D → MH → Res D) (a : EM) : EM := fun e M => (a e M).bind f
def eBin (f : D → D → MH → Res D) (a b : EM) : EM := fun e M => (a e M).bind fun x M1 => (b e M1).bind fun y M2 => f x y M2
def eNil : AM := fun _ M => .ok [] M
def eCons (a : EM) (b : AM) : AM := fun e M => (a e M).bind fun x M1 => (b e M1).bind fun xs M2 => .ok (x :: xs) M2
def eArgs (f : List D → MH → Res D) (a : AM) : EM := fun e M => (a e M).bind f
def eTup (a : AM) : EM := eArgs (fun ds M => if ds.length ≤ 1000 then .ok (.tup ds) M else .bad) a
def eLst (a : AM) : EM := eArgs (fun ds M => if ds.length ≤ 1000 then .ok (.ref M.length) (M ++ [.lst ds]) else .bad) a
def eFro (a : AM) : EM := eArgs (fun ds M => if ds.length ≤ 1000 then .ok (.fro ds) M else .bad) a
/-- an operation on values, simulated -/
def Sim2 (g : Wd) (f : D → D → MH → Res D) (r : R2) : Prop := ∀ (F : List Addr) (M : MH) (σ : St) (H : Hp) (W : WX) (x y : D) (v w : V) (Q : VK), RelM g F M H → Rep g F H x v → Rep g F H y w → post g rD W F σ H (f x y M) Q → r v w H Q
def SimA (g : Wd) (f : List D → MH → Res D) (r : List V → Hp → VK → Prop) : Prop := ∀ (F : List Addr) (M : MH) (σ : St) (H : Hp) (W : WX) (x : List D) (v : List V) (Q : VK), RelM g F M H → Reps g F H x v → post g rD W F σ H (f x M) Q → r v H Q
section
variable {X : Cx} {g : Wd} {W : WY} {a b : Expr} {pos p : Pos} {m1 m2 : EM} {ma : AM} {es : List Expr}
theorem de_var (n : Nat) {x : Str} (h : PE X (.Name x p) (tVar n)) : PE X (.Name x p) (tD g W (eVar n)) := pe_imp h fun σ H Q ⟨F, e, M, RS, q⟩ => by
  unfold eVar at q
  split at q
  · rename_i d hd
    obtain ⟨v, hv, r⟩ := RS.e.get hd
    exact ⟨v, hv, q.here RS.m r⟩
  · exact q.elim
theorem de_v (i : Nat) {x : Str} (hN : X.N[i]? = some x := by rfl) (hv : Vis X.env.scope x := by first | exact Or.inl rfl | exact Or.inr (Or.inl rfl) | exact Or.inr (Or.inr rfl)) (hd : (x == ("__debug__" : Str)) = false := by decide) (hcd : (x == ("__classdict__" : Str)) = false := by decide) :
    PE X (.Name x p) (tD g W (eVar i)) := de_var i (pe_var hN hv hd hcd)
theorem de_c {e : Expr} {d : D} {v : V} (h : PE X e (tC v)) (r : ∀ F H, Rep g F H d v) : PE X e (tD g W (eC d)) := pe_imp h fun σ H Q ⟨F, e, M, RS, q⟩ => q.here RS.m (r F H)
theorem de_int {i : Int} {j : Nat} : PE X (.Constant (.int i) j p) (tD g W (eC (.int i))) := de_c pe_int fun _ _ => .int i
theorem de_str {x : Str} {j : Nat} : PE X (.Constant (.str x) j p) (tD g W (eC (.str x))) := de_c pe_str fun _ _ => .str x
theorem de_bl {x : Bool} {j : Nat} : PE X (.Constant (.bool x) j p) (tD g W (eC (.bl x))) := de_c pe_bl fun _ _ => .bl x
theorem de_non {j : Nat} : PE X (.Constant .none j p) (tD g W (eC .non)) := de_c pe_non fun _ _ => .non
theorem bin_imp {f : D → D → MH → Res D} {r : R2} (hs : Sim2 g f r) {σ : St} {H : Hp} {Q : VK} (q : tD g W (eBin f m1 m2) σ H Q) : tOp r (tD g W m1) (tD g W m2) σ H Q := by
  obtain ⟨F, e, M, RS, q⟩ := q
  refine ⟨F, e, M, RS, q.bind fun x M1 F1 H1 v e1 g1 R1 rx q1 => ?_⟩
  refine ⟨F1, e, M1, RS.up g1 R1, q1.bind fun y M2 F2 H2 w e2 g2 R2 ry q2 => ?_⟩
  exact hs F2 M2 σ H2 W.w x y v w Q R2 (rx.mono g2 R1.good) ry q2
theorem de_op {op : Operator} {f : D → D → MH → Res D} {r : R2} (ho : OpR X (binaryOp op) r) (hs : Sim2 g f r) (ha : PE X a (tD g W m1)) (hb : PE X b (tD g W m2)) : PE X (.BinOp a op b pos) (tD g W (eBin f m1 m2)) :=
  pe_imp (pe_op ho ha hb) fun σ H Q q => bin_imp hs q
theorem de_cmp {op : CmpOp} {f : D → D → MH → Res D} {r : R2} (ho : OpR X (compareOp op) r) (hs : Sim2 g f r) (ha : PE X a (tD g W m1)) (hb : PE X b (tD g W m2)) (hm : behindInMarks op b = false) : PE X (.Compare a [op] [b] pos) (tD g W (eBin f m1 m2)) :=
  pe_imp (pe_cmpR ho ha hb hm) fun σ H Q q => bin_imp hs q
theorem de_nil : PA X [] (tA g W eNil) := pa_imp pa_nil fun σ H Q ⟨F, e, M, RS, q⟩ => q.here RS.m .nil
theorem de_cons (ha : PE X a (tD g W m1)) (hb : PA X es (tA g W ma)) (hs : starEach (a :: es) X.env = (false, eval a X.env) :: starEach es X.env := by rfl) : PA X (a :: es) (tA g W (eCons m1 ma)) :=
  pa_imp (pa_cons ha hb hs) fun σ H Q ⟨F, e, M, RS, q⟩ => by
    refine ⟨F, e, M, RS, q.bind fun x M1 F1 H1 v e1 g1 R1 rx q1 => ?_⟩
    refine ⟨F1, e, M1, RS.up g1 R1, q1.bind fun y M2 F2 H2 w e2 g2 R2 ry q2 => ?_⟩
    exact q2.here R2 (.cons (rx.mono g2 R1.good) ry)
theorem args_imp {f : List D → MH → Res D} {r : List V → Hp → VK → Prop} (hs : SimA g f r) {σ : St} {H : Hp} {Q : VK} (q : tD g W (eArgs f ma) σ H Q) : tA g W ma σ H fun vs H1 => r vs H1 Q := by
  obtain ⟨F, e, M, RS, q⟩ := q
  exact ⟨F, e, M, RS, q.bind fun x M1 F1 H1 v e1 g1 R1 rx q1 => hs F1 M1 σ H1 W.w x v Q R1 rx q1⟩
theorem small {n : Nat} (h : n ≤ 1000) : n ≤ sizeLine := Nat.le_trans h (by decide)
theorem de_tup {x1} (h : PA X es (tA g W ma)) : PE X (.Tuple es x1 pos) (tD g W (eTup ma)) :=
  pe_imp (pe_tup h) fun σ H Q q => args_imp (r := fun xs H1 Q => xs.length ≤ sizeLine ∧ ∀ p, H1 p = none → Q (.ref p) (upd H1 p (.tup xs))) (fun F M σ H W ds vs Q R r q => by
    split at q
    · rename_i hl
      refine ⟨small (by rw [← r.length]; exact hl), fun p hp => ?_⟩
      obtain ⟨g1, R1⟩ := R.still (o := .tup vs) hp
      exact q.ok g1 R1 (.tup (SqT.of upd_same) (r.mono g1 R.good))
    · exact q.elim) q
theorem de_lst (h : PA X es (tA g W ma)) : PE X (.List es pos) (tD g W (eLst ma)) :=
  pe_imp (pe_lst h) fun σ H Q q => args_imp (r := fun xs H1 Q => xs.length ≤ sizeLine ∧ ∀ p, H1 p = none → Q (.ref p) (upd H1 p (.lst xs))) (fun F M σ H W ds vs Q R r q => by
    split at q
    · rename_i hl
      refine ⟨small (by rw [← r.length]; exact hl), fun p hp => ?_⟩
      obtain ⟨g1, R1⟩ := R.laid (m := .lst ds) (o := .lst vs) hp fun F' H' gr => .lst (r.mono gr R.good)
      exact q.ok g1 R1 (.ref (by rw [← R.len]; simp))
    · exact q.elim) q
theorem de_fro (h : PA X es (tA g W ma)) : PE X (.List es pos) (tD g W (eFro ma)) :=
  pe_imp (pe_lst h) fun σ H Q q => args_imp (r := fun xs H1 Q => xs.length ≤ sizeLine ∧ ∀ p, H1 p = none → Q (.ref p) (upd H1 p (.lst xs))) (fun F M σ H W ds vs Q R r q => by
    split at q
    · rename_i hl
      refine ⟨small (by rw [← r.length]; exact hl), fun p hp => ?_⟩
      obtain ⟨g1, R1⟩ := R.still (o := .lst vs) hp
      exact q.ok g1 R1 (.fro (.inl ⟨upd_same, R.notin hp⟩) (r.mono g1 R.good))
    · exact q.elim) q
end
end T2
namespace T2
open PySem L2

/-! ### tests -/
def asB (d : D) (M : MH) : Res Bool := match d with
  | .bl b => .ok b M
  | _ => .bad
def bVal (m : EM) : BM := fun e M => (m e M).bind asB
def bAnd (a b : BM) : BM := fun e M => (a e M).bind fun c M1 => if c = true then b e M1 else .ok false M1
def bOr (a b : BM) : BM := fun e M => (a e M).bind fun c M1 => if c = true then .ok true M1 else b e M1
def bNot (a : BM) : BM := fun e M => (a e M).bind fun c M1 => .ok (!c) M1
def eAnd (a b : EM) : EM := fun e M => (a e M).bind fun d M1 => match d with
  | .bl true => b e M1
  | .bl false => .ok (.bl false) M1
  | _ => .bad
def eOr (a b : EM) : EM := fun e M => (a e M).bind fun d M1 => match d with
  | .bl false => b e M1
  | .bl true => .ok (.bl true) M1
  | _ => .bad
def eNot (a : EM) : EM := fun e M => (a e M).bind fun d M1 => match d with
  | .bl b => .ok (.bl (!b)) M1
  | _ => .bad
def eIf (c : BM) (a b : EM) : EM := fun e M => (c e M).bind fun k M1 => if k = true then a e M1 else b e M1
section
variable {X : Cx} {g : Wd} {W : WY} {a b c : Expr} {pos p : Pos} {m1 m2 : EM} {ma : AM} {es : List Expr} {rest : List Expr} {b1 b2 : BM}
theorem asB_post {F : List Addr} {σ : St} {H : Hp} {d : D} {M : MH} {v : V} {Q : Bool → Hp → Prop} (R : RelM g F M H) (r : Rep g F H d v) (q : post g rB W.w F σ H (asB d M) Q) : ∃ k, v = .bl k ∧ Q k H := by
  cases r with
  | bl k => exact ⟨k, rfl, q.here R rfl⟩
  | _ => exact q.elim
theorem val_imp {σ : St} {H : Hp} {Q : Bool → Hp → Prop} (q : tB2 g W (bVal m1) σ H Q) : tD g W m1 σ H fun v H' => ∃ k, v = .bl k ∧ Q k H' := by
  obtain ⟨F, e, M, RS, q⟩ := q
  exact ⟨F, e, M, RS, q.bind fun x M1 F1 H1 v e1 g1 R1 rx q1 => asB_post R1 rx q1⟩
theorem dt_val (h : PE X a (tD g W m1)) (he : ∀ whole, isTrue a X.env whole = (do let v ← whole; standAt a.pos; holding [v] (truthy v)) := by intro _; rfl) : PT X a (tB2 g W (bVal m1)) := pt_imp (pt_val h he) fun σ H Q q => val_imp q
theorem test_imp {f : D → D → MH → Res D} {r : R2} (hs : Sim2 g f r) {σ : St} {H : Hp} {Q : Bool → Hp → Prop} (q : tB2 g W (bVal (eBin f m1 m2)) σ H Q) : tTest (tOp r (tD g W m1) (tD g W m2)) σ H Q := bin_imp hs (val_imp q)
theorem dt_cmp {op : CmpOp} {f : D → D → MH → Res D} {r : R2} (ho : OpR X (compareOp op) r) (hs : Sim2 g f r) (ha : PE X a (tD g W m1)) (hb : PE X b (tD g W m2)) (hm : behindInMarks op b = false) : PT X (.Compare a [op] [b] pos) (tB2 g W (bVal (eBin f m1 m2))) :=
  pt_imp (pt_cmpR ho ha hb hm) fun σ H Q q => test_imp hs q
theorem dw_and1 (ha : PT X a (tB2 g W b1)) : PW X (.BoolOp .And [a] pos) (tB2 g W b1) := pw_and1 ha
theorem dw_or1 (ha : PT X a (tB2 g W b1)) : PW X (.BoolOp .Or [a] pos) (tB2 g W b1) := pw_or1 ha
theorem dw_and (ha : PT X a (tB2 g W b1)) (hb : PW X (.BoolOp .And (b :: rest) pos) (tB2 g W b2)) : PW X (.BoolOp .And (a :: b :: rest) pos) (tB2 g W (bAnd b1 b2)) := pw_imp (pw_and ha hb) fun σ H Q ⟨F, e, M, RS, q⟩ =>
  ⟨F, e, M, RS, q.bind fun x M1 F1 H1 v e1 g1 R1 rx q1 => by
    cases rx
    by_cases h : x = true
    · rw [if_pos h] at q1; rw [if_pos h]; exact ⟨F1, e, M1, RS.up g1 R1, q1⟩
    · rw [if_neg h] at q1; rw [if_neg h]; exact q1.here R1 rfl⟩
theorem dw_or (ha : PT X a (tB2 g W b1)) (hb : PW X (.BoolOp .Or (b :: rest) pos) (tB2 g W b2)) : PW X (.BoolOp .Or (a :: b :: rest) pos) (tB2 g W (bOr b1 b2)) := pw_imp (pw_or ha hb) fun σ H Q ⟨F, e, M, RS, q⟩ =>
  ⟨F, e, M, RS, q.bind fun x M1 F1 H1 v e1 g1 R1 rx q1 => by
    cases rx
    by_cases h : x = true
    · rw [if_pos h] at q1; rw [if_pos h]; exact q1.here R1 rfl
    · rw [if_neg h] at q1; rw [if_neg h]; exact ⟨F1, e, M1, RS.up g1 R1, q1⟩⟩
theorem dt_w (h : PW X a (tB2 g W b1)) : PT X a (tB2 g W b1) := h.pt
theorem dt_not (ha : PT X a (tB2 g W b1)) : PT X (.UnaryOp .Not a pos) (tB2 g W (bNot b1)) := pt_imp (pt_not ha) fun σ H Q ⟨F, e, M, RS, q⟩ =>
  ⟨F, e, M, RS, q.bind fun x M1 F1 H1 v e1 g1 R1 rx q1 => by cases rx; exact q1.here R1 rfl⟩
theorem de_and (ha : PE X a (tD g W m1)) (hb : PE X (.BoolOp .And (b :: rest) pos) (tD g W m2)) : PE X (.BoolOp .And (a :: b :: rest) pos) (tD g W (eAnd m1 m2)) := pe_imp (pe_and ha hb) fun σ H Q ⟨F, e, M, RS, q⟩ =>
  ⟨F, e, M, RS, q.bind fun x M1 F1 H1 v e1 g1 R1 rx q1 => by
    cases rx with
    | bl k =>
      refine ⟨k, rfl, ?_⟩
      cases k with
      | true => exact ⟨F1, e, M1, RS.up g1 R1, q1⟩
      | false => exact q1.here R1 (.bl false)
    | _ => exact q1.elim⟩
theorem de_one {op : BoolOp} (ha : PE X a (tD g W m1)) : PE X (.BoolOp op [a] pos) (tD g W m1) := pe_one ha
theorem de_not (ha : PE X a (tD g W m1)) : PE X (.UnaryOp .Not a pos) (tD g W (eNot m1)) := pe_imp (pe_not ha) fun σ H Q ⟨F, e, M, RS, q⟩ =>
  ⟨F, e, M, RS, q.bind fun x M1 F1 H1 v e1 g1 R1 rx q1 => by
    cases rx with
    | bl k => exact ⟨k, rfl, q1.here R1 (.bl _)⟩
    | _ => exact q1.elim⟩
end

/-! ### statements -/
def sSeq (a b : SM) : SM := fun e M => match a e M with
  | .nx e1 M1 => b e1 M1
  | r => r
def sNil : SM := fun e M => .nx e M
def sSet (i : Nat) (m : EM) : SM := fun e M => (m e M).toS e fun d M1 => .nx (e.set i (some d)) M1
def sRet (m : EM) : SM := fun e M => (m e M).toS e fun d M1 => .rt d M1
def sRetN : SM := fun _ M => .rt .non M
def sDo (m : EM) : SM := fun e M => (m e M).toS e fun _ M1 => .nx e M1
def sIf (c : BM) (a b : SM) : SM := fun e M => (c e M).toSB e fun k M1 => if k = true then a e M1 else b e M1
abbrev TgM := D → Env2 → Option Env2
def tgName (i : Nat) : TgM := fun d e => some (e.set i (some d))
def forV (tg : TgM) (body : SM) : List D → Env2 → MH → SR
  | [], e, M => .nx e M
  | x :: xs, e, M => match tg x e with
    | none => .bad
    | some e1 => match body e1 M with
      | .nx e2 M2 => forV tg body xs e2 M2
      | .ct e2 M2 => forV tg body xs e2 M2
      | .bk e2 M2 => .nx e2 M2
      | .rt d M2 => .rt d M2
      | .ex c ns ds e2 M2 => .ex c ns ds e2 M2
      | .bad => .bad
/-- a list that may change while it is walked: k turns at most -/
def forL (tg : TgM) (body : SM) (n : Nat) : Nat → Nat → Env2 → MH → SR
  | 0, i, e, M => match M[n]? with
    | some (.lst ds) => if ds.length ≤ i then .nx e M else .bad
    | _ => .bad
  | k + 1, i, e, M => match M[n]? with
    | some (.lst ds) => match ds[i]? with
      | none => .nx e M
      | some x => match tg x e with
        | none => .bad
        | some e1 => match body e1 M with
          | .nx e2 M2 => forL tg body n k (i + 1) e2 M2
          | .ct e2 M2 => forL tg body n k (i + 1) e2 M2
          | .bk e2 M2 => .nx e2 M2
          | .rt d M2 => .rt d M2
          | .ex c ns ds e2 M2 => .ex c ns ds e2 M2
          | .bad => .bad
    | _ => .bad
inductive IV where
  | vals (ds : List D) | live (n : Nat)
def sForI (it : Env2 → MH → Res IV) (tg : TgM) (body : SM) : SM := fun e M => match it e M with
  | .ok (.vals ds) M1 => forV tg body ds e M1
  | .ok (.live n) M1 => match M1[n]? with
    | some (.lst ds) => forL tg body n ds.length 0 e M1
    | _ => .bad
  | .exc c ns ds M1 => .ex c ns ds e M1
  | .bad => .bad
/-- what a for walks: a tuple, a list -/
def ivOf (d : D) (M : MH) : Res IV := match d with
  | .tup ds => .ok (.vals ds) M
  | .fro ds => .ok (.vals ds) M
  | .ref n => .ok (.live n) M
  | _ => .bad
def iSeq (m : EM) : Env2 → MH → Res IV := fun e M => (m e M).bind ivOf
def rangeD (lo : Int) (n : Nat) : List D := (List.range n).map fun i => .int (lo + (i : Nat))
def iRange1 (a : EM) : Env2 → MH → Res IV := fun e M => (a e M).bind fun d M1 => match d with
  | .int j => if -(2 ^ 62) ≤ j ∧ j < 2 ^ 62 then .ok (.vals (rangeD 0 j.toNat)) M1 else .bad
  | _ => .bad
def iRange2 (a b : EM) : Env2 → MH → Res IV := fun e M => (a e M).bind fun d M1 => (b e M1).bind fun d2 M2 => match d, d2 with
  | .int i, .int j => if -(2 ^ 62) ≤ i ∧ i < 2 ^ 62 ∧ -(2 ^ 62) ≤ j ∧ j < 2 ^ 62 then .ok (.vals (rangeD i (j - i).toNat)) M2 else .bad
  | _, _ => .bad
section
variable {X : Cx} {g : Wd} {W : WY} {a b c : Expr} {pos p : Pos} {m1 m2 : EM} {ma : AM} {es : List Expr} {b1 : BM} {s1 s2 : SM} {st : Stmt} {sts : List Stmt}
theorem ds_nil : PSs X [] (tS g W sNil) := pss_imp pss_nil fun E σ H ⟨F, e, M, RS, q⟩ => q F H σ .same RS.m RS.e RS.x
theorem seq_imp {E : Ends} {σ : St} {H : Hp} (h : tS g W (sSeq s1 s2) E σ H) : tSeq (tS g W s1) (tS g W s2) E σ H := by
  obtain ⟨F, e, M, RS, q⟩ := h
  refine ⟨F, e, M, RS, ?_⟩
  unfold sSeq at q
  cases h : s1 e M with
  | nx e1 M1 =>
    rw [h] at q
    exact fun F1 H1 σ1 g1 R1 E1 X1 => ⟨F1, e1, M1, ⟨R1, E1, X1, RS.y.mono g1 RS.m.good⟩, q.up g1⟩
  | rt d M1 => rw [h] at q; exact q
  | bk e1 M1 => rw [h] at q; exact q
  | ct e1 M1 => rw [h] at q; exact q
  | ex c ns ds e1 M1 => rw [h] at q; exact q
  | bad => rw [h] at q; exact q
theorem ds_cons (h1 : PS X st (tS g W s1)) (h2 : PSs X sts (tS g W s2)) : PSs X (st :: sts) (tS g W (sSeq s1 s2)) := pss_imp (pss_cons h1 h2) fun E σ H h => seq_imp h
theorem ds_one (h1 : PS X st (tS g W s1)) : PSs X [st] (tS g W s1) := pss_one h1
theorem ds_set {i : Nat} {x : Str} {pos' : Pos} (hN : X.N.Nodup) (ha : PE X a (tD g W m1)) (hpin : ∀ p ∈ W.p.xs, i ≠ p.1 := by intro p h; first | exact absurd h (by simp) | (simp at h; subst h; decide)) (hi : X.N[i]? = some x := by rfl) (hx : Loc X.env.scope x := by first | exact Or.inl rfl | exact Or.inr rfl) (hs : swapsWith a (some (.Name x pos')) pos.line X.env = pure false := by rfl)
    (hf : X.fn x = true ∨ X.env.scope.names.lookup x = some .local := by first | exact .inl rfl | exact .inr rfl | assumption) : PS X (.Assign [.Name x pos'] a pos) (tS g W (sSet i m1)) :=
  ps_imp (ps_set hN hi hx ha hs hf) fun E σ H ⟨F, e, M, RS, q⟩ => ⟨F, e, M, RS, q.step RS fun d M1 F1 H1 v _ g1 R1 r q1 => q1 F1 H1 _ .same R1 ((RS.up g1 R1).e.set r i) (RS.x.set hpin)⟩
theorem ds_ret (ha : PE X a (tD g W m1)) : PS X (.Return (some a) pos) (tS g W (sRet m1)) := ps_imp (ps_ret ha) fun E σ H ⟨F, e, M, RS, q⟩ => ⟨F, e, M, RS, q.step RS fun d M1 F1 H1 v _ g1 R1 r q1 => q1 F1 H1 _ .same R1 r⟩
theorem ds_retN : PS X (.Return none pos) (tS g W sRetN) := ps_imp ps_retN fun E σ H ⟨F, e, M, RS, q⟩ => q F H _ .same RS.m .non
theorem ds_do (ha : PE X a (tD g W m1)) (hs : swapsWith a none pos.line X.env = pure false := by rfl) : PS X (.Expr a pos) (tS g W (sDo m1)) := ps_imp (ps_expr ha hs) fun E σ H ⟨F, e, M, RS, q⟩ => ⟨F, e, M, RS, q.step RS fun d M1 F1 H1 v _ g1 R1 r q1 => q1 F1 H1 _ .same R1 (RS.up g1 R1).e RS.x⟩
theorem ds_if {l1 l2 : List Stmt} (hc : PT X c (tB2 g W b1)) (h1 : PSs X l1 (tS g W s1)) (h2 : PSs X l2 (tS g W s2)) : PS X (.If c l1 l2 pos) (tS g W (sIf b1 s1 s2)) := ps_imp (ps_if hc h1 h2) fun E σ H ⟨F, e, M, RS, q⟩ =>
  ⟨F, e, M, RS, q.stepB RS fun k M1 F1 H1 _ g1 R1 q1 => by
    by_cases h : k = true
    · rw [if_pos h] at q1; rw [if_pos h]; exact ⟨F1, e, M1, RS.up g1 R1, q1⟩
    · rw [if_neg h] at q1; rw [if_neg h]; exact ⟨F1, e, M1, RS.up g1 R1, q1⟩⟩
/-! ### for -/
def TgSim (g : Wd) (tg : TgM) (gt : TG) : Prop := ∀ (F : List Addr) (M : MH) (e e1 : Env2) (σ : St) (H : Hp) (x : D) (v : V) (Q : St → Hp → Prop), RelM g F M H → EnvR g F H e σ → Rep g F H x v → tg x e = some e1 → (∀ σ1, EnvR g F H e1 σ1 → Q σ1 H) → gt v σ H Q
theorem tgName_sim (i : Nat) : TgSim g (tgName i) (gName i) := fun F M e e1 σ H x v Q RM RE r h k => by
  unfold tgName at h; cases h
  exact k _ (RE.set r i)
structure ItV (g : Wd) (J : It) (F : List Addr) (H : Hp) (ds : List D) : Prop where
  go : ∀ F' H' (i : Nat), Grow F H F' H' → i < ds.length → J.go i H'
  yld : ∀ F' H' (i : Nat) x H2, Grow F H F' H' → i < ds.length → J.yld i H' x H2 → (∀ b o, H' b = some o → H2 b = some o) ∧ ∃ d, ds[i]? = some d ∧ Rep g F' H2 d x
  stop : ∀ F' H' (i : Nat), Grow F H F' H' → ds.length ≤ i → J.stop i H'
theorem drop_cons' {A : Type} {l : List A} {i : Nat} {x : A} (h : l[i]? = some x) : l.drop i = x :: l.drop (i + 1) := by
  have hl := (List.getElem?_eq_some_iff.mp h)
  obtain ⟨h1, h2⟩ := hl
  rw [List.drop_eq_getElem_cons h1, h2]
theorem forV_run {J : It} {F : List Addr} {e : Env2} {M : MH} {σ : St} {H : Hp} {ds : List D} {tg : TgM} {gt : TG} {E : Ends} (px : ∀ σ, Pin W.p.xs σ) (RS : RelS g W.p F e M σ H) (it : ItV g J F H ds) (ts : TgSim g tg gt) (q : postS g W F H (forV tg s1 ds e M) E) :
    ∃ W1 : Nat → Nat → St → Hp → Prop, (∃ m, W1 0 m σ H) ∧ ∀ i m σ H, W1 i m σ H →
      (J.stop i H ∧ E.nx σ H) ∨ (J.go i H ∧ ∃ N : St → Hp → Prop, (∀ σ' H', N σ' H' → ∃ m', m' < m ∧ W1 (i + 1) m' σ' H') ∧ ∀ x H', J.yld i H x H' → gt x σ H' fun σ2 H2 => tS g W s1 { E with nx := N, ct := N, bk := E.nx } σ2 H2) := by
  refine ⟨fun i m σ' H' => i + m = ds.length ∧ ∃ F' e' M', Grow F H F' H' ∧ RelS g W.p F' e' M' σ' H' ∧ postS g W F' H' (forV tg s1 (ds.drop i) e' M') E, ⟨ds.length, by simp, F, e, M, .same, RS, by simpa using q⟩, ?_⟩
  rintro i m σ1 H1 ⟨hm, F1, e1, M1, g1, RS1, q1⟩
  by_cases hi : i < ds.length
  · refine .inr ⟨it.go F1 H1 i g1 hi, fun σ' H' => ∃ F' e' M', Grow F H F' H' ∧ RelS g W.p F' e' M' σ' H' ∧ postS g W F' H' (forV tg s1 (ds.drop (i + 1)) e' M') E, fun σ' H' ⟨F', e', M', z1, z2, z3⟩ => ⟨m - 1, by omega, by omega, F', e', M', z1, z2, z3⟩, fun x H2 hy => ?_⟩
    obtain ⟨hk, d, hd, r⟩ := it.yld F1 H1 i x H2 g1 hi hy
    obtain ⟨gk, Rk⟩ := RS1.m.keep hk
    have Yk := RS1.y.mono gk RS1.m.good
    replace q1 := q1.up gk
    replace g1 := g1.trans gk
    rw [drop_cons' hd] at q1
    unfold forV at q1
    cases ht : tg d e1 with
    | none => rw [ht] at q1; exact q1.elim
    | some e2 =>
      rw [ht] at q1
      refine ts F1 M1 e1 e2 σ1 _ d x _ Rk (RS1.e.mono gk RS1.m.good) r ht fun σ2 E2 => ⟨F1, e2, M1, ⟨Rk, E2, px _, Yk⟩, ?_⟩
      dsimp only at q1
      cases hb : s1 e2 M1 with
      | nx e3 M3 => rw [hb] at q1; exact fun F3 H3 σ3 g3 R3 E3 X3 => ⟨F3, e3, M3, g1.trans g3, ⟨R3, E3, X3, Yk.mono g3 Rk.good⟩, q1.up g3⟩
      | ct e3 M3 => rw [hb] at q1; exact fun F3 H3 σ3 g3 R3 E3 X3 => ⟨F3, e3, M3, g1.trans g3, ⟨R3, E3, X3, Yk.mono g3 Rk.good⟩, q1.up g3⟩
      | bk e3 M3 => rw [hb] at q1; exact q1
      | rt d3 M3 => rw [hb] at q1; exact q1
      | ex c ns ds e3 M3 => rw [hb] at q1; exact q1
      | bad => rw [hb] at q1; exact q1
  · have hi' : ds.length ≤ i := Nat.le_of_not_lt hi
    rw [List.drop_eq_nil_of_le hi'] at q1
    exact .inl ⟨it.stop F1 H1 i g1 hi', q1 F1 H1 σ1 .same RS1.m RS1.e RS1.x⟩
theorem lst_at {F : List Addr} {M : MH} {H : Hp} {n : Nat} {a : Addr} {ds : List D} (R : RelM g F M H) (hn : F[n]? = some a) (hm : M[n]? = some (.lst ds)) : ∃ vs, H a = some (.lst vs) ∧ Reps g F H ds vs := by
  obtain ⟨h, e, r⟩ := R.obj n a _ hn hm
  cases r with | lst r => exact ⟨_, e, r⟩
end
end T2
namespace T2
open PySem L2

section
variable {X : Cx} {g : Wd} {W : WY} {a b c : Expr} {pos p : Pos} {m1 m2 : EM} {ma : AM} {es : List Expr} {b1 : BM} {s1 s2 : SM} {st : Stmt} {sts : List Stmt}
theorem forL_run {F : List Addr} {e : Env2} {M : MH} {σ : St} {H : Hp} {n : Nat} {ad : Addr} {ds0 : List D} {tg : TgM} {gt : TG} {E : Ends} (px : ∀ σ, Pin W.p.xs σ) (RS : RelS g W.p F e M σ H) (hn : F[n]? = some ad) (ts : TgSim g tg gt) (q : postS g W F H (forL tg s1 n ds0.length 0 e M) E) :
    ∃ W1 : Nat → Nat → St → Hp → Prop, (∃ m, W1 0 m σ H) ∧ ∀ i m σ H, W1 i m σ H →
      ((Itl g.K ad).stop i H ∧ E.nx σ H) ∨ ((Itl g.K ad).go i H ∧ ∃ N : St → Hp → Prop, (∀ σ' H', N σ' H' → ∃ m', m' < m ∧ W1 (i + 1) m' σ' H') ∧ ∀ x H', (Itl g.K ad).yld i H x H' → gt x σ H' fun σ2 H2 => tS g W s1 { E with nx := N, ct := N, bk := E.nx } σ2 H2) := by
  refine ⟨fun i m σ' H' => ∃ F' e' M', Grow F H F' H' ∧ RelS g W.p F' e' M' σ' H' ∧ postS g W F' H' (forL tg s1 n m i e' M') E, ⟨ds0.length, F, e, M, .same, RS, q⟩, ?_⟩
  rintro i m σ1 H1 ⟨F1, e1, M1, g1, RS1, q1⟩
  have hn1 : F1[n]? = some ad := pre_get g1.pre hn
  cases m with
  | zero =>
    unfold forL at q1
    split at q1
    · rename_i ds hd
      obtain ⟨vs, hv, r⟩ := lst_at RS1.m hn1 hd
      split at q1
      · rename_i hl
        exact .inl ⟨⟨vs, SqL.of hv, by rw [← r.length]; exact hl⟩, q1 F1 H1 σ1 .same RS1.m RS1.e RS1.x⟩
      · exact q1.elim
    · exact q1.elim
  | succ m =>
    unfold forL at q1
    split at q1
    · rename_i ds hd
      obtain ⟨vs, hv, r⟩ := lst_at RS1.m hn1 hd
      split at q1
      · rename_i hx
        have hl : vs.length ≤ i := by rw [← r.length]; exact List.getElem?_eq_none_iff.mp hx
        exact .inl ⟨⟨vs, SqL.of hv, hl⟩, q1 F1 H1 σ1 .same RS1.m RS1.e RS1.x⟩
      · rename_i d hx
        obtain ⟨v, hvx, rv⟩ := r.get hx
        refine .inr ⟨⟨vs, v, SqL.of hv, hvx⟩, fun σ' H' => ∃ F' e' M', Grow F H F' H' ∧ RelS g W.p F' e' M' σ' H' ∧ postS g W F' H' (forL tg s1 n m (i + 1) e' M') E, fun σ' H' z => ⟨m, Nat.lt_succ_self m, z⟩, ?_⟩
        rintro x H2 ⟨rfl, hy⟩
        have ex : v = x := Option.some.inj (hvx.symm.trans (hy vs (SqL.of hv)))
        subst ex
        cases ht : tg d e1 with
        | none => rw [ht] at q1; exact q1.elim
        | some e2 =>
          rw [ht] at q1
          refine ts F1 M1 e1 e2 σ1 _ d v _ RS1.m RS1.e rv ht fun σ2 E2 => ⟨F1, e2, M1, ⟨RS1.m, E2, px _, RS1.y⟩, ?_⟩
          dsimp only at q1
          cases hb : s1 e2 M1 with
          | nx e3 M3 => rw [hb] at q1; exact fun F3 H3 σ3 g3 R3 E3 X3 => ⟨F3, e3, M3, g1.trans g3, ⟨R3, E3, X3, RS1.y.mono g3 RS1.m.good⟩, q1.up g3⟩
          | ct e3 M3 => rw [hb] at q1; exact fun F3 H3 σ3 g3 R3 E3 X3 => ⟨F3, e3, M3, g1.trans g3, ⟨R3, E3, X3, RS1.y.mono g3 RS1.m.good⟩, q1.up g3⟩
          | bk e3 M3 => rw [hb] at q1; exact q1
          | rt d3 M3 => rw [hb] at q1; exact q1
          | ex c ns ds e3 M3 => rw [hb] at q1; exact q1
          | bad => rw [hb] at q1; exact q1
    · exact q1.elim
theorem itV_tup {F : List Addr} {M : MH} {H : Hp} {ad : Addr} {ds : List D} {vs : List V} (R : RelM g F M H) (h : SqT g.K H ad vs) (r : Reps g F H ds vs) : ItV g (Itt g.K ad) F H ds where
  go := fun F' H' i gr hi => by
    have h' := sqT_mono gr R.good h
    have hv : i < vs.length := by rw [← r.length]; exact hi
    exact ⟨vs, vs[i], h', List.getElem?_eq_getElem hv⟩
  yld := fun F' H' i x H2 gr hi hy => by
    obtain ⟨rfl, hy⟩ := hy
    have hx := hy vs (sqT_mono gr R.good h)
    obtain ⟨v, hv, rv⟩ := (r.mono gr R.good).get (List.getElem?_eq_getElem hi)
    rw [hv] at hx; cases hx
    exact ⟨fun _ _ z => z, _, List.getElem?_eq_getElem hi, rv⟩
  stop := fun F' H' i gr hi => ⟨vs, sqT_mono gr R.good h, by rw [← r.length]; exact hi⟩
theorem itV_fro {F : List Addr} {M : MH} {H : Hp} {ad : Addr} {ds : List D} {vs : List V} (R : RelM g F M H) (h : FroL g F H ad vs) (r : Reps g F H ds vs) : ItV g (Itl g.K ad) F H ds where
  go := fun F' H' i gr hi => by
    have h' := (h.mono gr R.good).sq
    have hv : i < vs.length := by rw [← r.length]; exact hi
    exact ⟨vs, vs[i], h', List.getElem?_eq_getElem hv⟩
  yld := fun F' H' i x H2 gr hi hy => by
    obtain ⟨rfl, hy⟩ := hy
    have hx := hy vs (h.mono gr R.good).sq
    obtain ⟨v, hv, rv⟩ := (r.mono gr R.good).get (List.getElem?_eq_getElem hi)
    rw [hv] at hx; cases hx
    exact ⟨fun _ _ z => z, _, List.getElem?_eq_getElem hi, rv⟩
  stop := fun F' H' i gr hi => ⟨vs, (h.mono gr R.good).sq, by rw [← r.length]; exact hi⟩
theorem rangeD_len (lo : Int) (n : Nat) : (rangeD lo n).length = n := by unfold rangeD; simp
theorem rangeD_get {lo : Int} {n i : Nat} (h : i < n) : (rangeD lo n)[i]? = some (.int (lo + (i : Nat))) := by unfold rangeD; simp [h]
theorem itV_rng {F : List Addr} {H : Hp} (lo : Int) (n : Nat) : ItV g (Itr lo n) F H (rangeD lo n) where
  go := fun F' H' i gr hi => by rw [rangeD_len] at hi; exact hi
  yld := fun F' H' i x H2 gr hi hy => by
    rw [rangeD_len] at hi
    obtain ⟨rfl, rfl⟩ := hy
    exact ⟨fun _ _ z => z, _, rangeD_get hi, .int _⟩
  stop := fun F' H' i gr hi => by rw [rangeD_len] at hi; exact hi
theorem pi_or {tg iter : Expr} {w1 w2 : TI} (h1 : PI X tg iter w1) (h2 : PI X tg iter w2) : PI X tg iter (fun σ H R => w1 σ H R ∨ w2 σ H R) := ⟨fun pins s σ H R I q => q.elim (h1.run pins s σ H R I) (h2.run pins s σ H R I)⟩
/-- a reading of what is walked, simulated: at the loop and at a comprehension -/
def ItSim (g : Wd) (W : WY) (it : Env2 → MH → Res IV) (wi : TI) : Prop := ∀ (σ : St) (H : Hp) (F : List Addr) (e : Env2) (M : MH) (R : It → Hp → Prop), RelS g W.p F e M σ H →
  (match it e M with
    | .ok (.vals ds) M1 => ∀ F1 H1 J, Grow F H F1 H1 → RelM g F1 M1 H1 → ItV g J F1 H1 ds → R J H1
    | .ok (.live n) M1 => ∃ ds, M1[n]? = some (.lst ds) ∧ ∀ F1 H1 ad, Grow F H F1 H1 → RelM g F1 M1 H1 → F1[n]? = some ad → R (Itl g.K ad) H1
    | .exc c ns ds M1 => ∀ F1 H1 d, Grow F H F1 H1 → RelM g F1 M1 H1 → XRep g F1 H1 ns ds d → W.w (.ref (g.ca c)) d σ H1
    | .bad => False) → wi σ H R
theorem itSim_seq (hK : g.K = X.K) : ItSim g W (iSeq m1) (fun σ H R => iList X.K (tD g W m1) σ H R ∨ iTup X.K (tD g W m1) σ H R) := fun σ H F e M R RS q => by
  unfold iSeq at q
  cases hm : m1 e M with
  | ok d M1 =>
    rw [hm] at q
    cases d with
    | tup ds =>
      refine .inr ⟨F, e, M, RS, ?_⟩
      rw [hm]
      intro F1 H1 v g1 R1 r
      cases r with | tup h r => exact ⟨_, rfl, ⟨_, by rw [← hK]; exact h⟩, by rw [← hK]; exact q F1 H1 _ g1 R1 (itV_tup R1 h r)⟩
    | fro ds =>
      refine .inl ⟨F, e, M, RS, ?_⟩
      rw [hm]
      intro F1 H1 v g1 R1 r
      cases r with | fro h r => exact ⟨_, rfl, ⟨_, by rw [← hK]; exact h.sq⟩, by rw [← hK]; exact q F1 H1 _ g1 R1 (itV_fro R1 h r)⟩
    | ref n =>
      refine .inl ⟨F, e, M, RS, ?_⟩
      rw [hm]
      intro F1 H1 v g1 R1 r
      obtain ⟨ds, hd, q⟩ := q
      cases r with | ref h =>
        obtain ⟨vs, hv, _⟩ := lst_at R1 h hd
        exact ⟨_, rfl, ⟨vs, SqL.of hv⟩, by rw [← hK]; exact q F1 H1 _ g1 R1 h⟩
    | _ => exact q.elim
  | exc c ns ds M1 =>
    rw [hm] at q
    exact .inl ⟨F, e, M, RS, by rw [hm]; exact q⟩
  | bad => rw [hm] at q; exact q.elim
theorem itSim_range1 : ItSim g W (iRange1 m1) (iRng1 (tA g W (eCons m1 eNil))) := fun σ H F e M R RS q => by
  refine ⟨F, e, M, RS, ?_⟩
  unfold iRange1 at q
  unfold eCons eNil
  cases hm : m1 e M with
  | ok d M1 =>
    rw [hm] at q
    intro F1 H1 vs g1 R1 r
    cases r with | cons r t =>
      cases t
      cases r with
      | int j =>
        dsimp only [Res.bind] at q
        by_cases hz : -(2 ^ 62) ≤ j ∧ j < 2 ^ 62
        · rw [if_pos hz] at q
          exact ⟨j, rfl, hz.1, hz.2, q F1 H1 _ g1 R1 (itV_rng 0 _)⟩
        · rw [if_neg hz] at q
          exact q.elim
      | _ => exact q.elim
  | exc c ns ds M1 => rw [hm] at q; exact q
  | bad => rw [hm] at q; exact q.elim
theorem ds_for {tgE iter : Expr} {wi : TI} {it : Env2 → MH → Res IV} {gt : TG} {tg : TgM} (px : ∀ σ, Pin W.p.xs σ) (po : PassesOwn (model X.prog X.w) X.A X.env X.xe) (hc : X.calm = true) (hi : PI X tgE iter wi) (hsim : ItSim g W it wi) (hg : PG X tgE gt) (ts : TgSim g tg gt) (hb : PSs X sts (tS g W s1))
    (hs : ∀ x, foldedSetIterable iter X.env x = pure x := by intro _; rfl) : PS X (.For tgE iter sts [] pos) (tS g W (sForI it tg s1)) :=
  ps_imp (ps_for po hc hi hg hb hs) fun E σ H ⟨F, e, M, RS, q⟩ => hsim σ H F e M _ RS (by
    unfold sForI at q
    cases hm : it e M with
    | ok iv M1 =>
      rw [hm] at q
      cases iv with
      | vals ds => exact fun F1 H1 J g1 R1 itv => forV_run px (RS.up g1 R1) itv ts (q.up g1)
      | live n =>
        dsimp only at q
        split at q
        · rename_i ds hd
          exact ⟨ds, hd, fun F1 H1 ad g1 R1 hn => forL_run px (RS.up g1 R1) hn ts (q.up g1)⟩
        · exact q.elim
    | exc c ns ds M1 => rw [hm] at q; exact fun F1 H1 d g1 R1 x => q F1 H1 σ d g1 R1 (RS.up g1 R1).e x
    | bad => rw [hm] at q; exact q)
end

/-! ### a def -/
def spD (g : Wd) (n : Nat) (f : List D → MH → Res D) : Sp := fun vs H Q E => vs.length = n ∧ ∃ F M ds, RelM g F M H ∧ Reps g F H ds vs ∧ post g rD (fun c d _ H => E c d H) F [] H (f ds M) Q
def env0 (n : Nat) (ds : List D) : Env2 := ds.map some ++ List.replicate (n - ds.length) none
def toR (r : SR) : Res D := match r with
  | .rt d M => .ok d M
  | .nx _ M => .ok .non M
  | .ex c ns xs _ M => .exc c ns xs M
  | _ => .bad
def fnB (n : Nat) (b : SM) : List D → MH → Res D := fun ds M => toR (b (env0 n ds) M)
theorem envR_nones {g : Wd} {F : List Addr} {H : Hp} : ∀ n : Nat, EnvR g F H (List.replicate n none) (List.replicate n none)
  | 0 => .nil
  | n + 1 => .cons .none (envR_nones n)
theorem envR_start {g : Wd} {F : List Addr} {H : Hp} {N : List Str} : ∀ {ds : List D} {vs : List V}, Reps g F H ds vs → ∀ n : Nat, EnvR g F H (ds.map some ++ List.replicate n none) (vs.map some ++ List.replicate n none)
  | _, _, .nil, n => envR_nones n
  | _, _, .cons h t, n => .cons (.some h) (envR_start (N := N) t n)
theorem body_run {g : Wd} {E : XK} {N : List Str} {b : SM} {vs : List V} {H : Hp} {Q : VK} {n : Nat} (h : spD g n (fnB N.length b) vs H Q E) : tS g ⟨fun c d _ H => E c d H, ⟨[], []⟩⟩ b { nx := fun _ H' => Q .non H', rt := Q } (L2.start N vs) H := by
  obtain ⟨_, F, M, ds, R, r, q⟩ := h
  refine ⟨F, env0 N.length ds, M, ⟨R, ?_, pin_nil, xrs_nil⟩, ?_⟩
  · have := envR_start (N := N) r (N.length - ds.length)
    unfold L2.start env0
    rw [← r.length]
    exact this
  · unfold fnB at q
    cases hb : b (env0 N.length ds) M with
    | nx e M1 => rw [hb] at q; exact fun F1 H1 σ1 g1 R1 _ _ => q F1 H1 _ g1 R1 .non
    | rt d M1 => rw [hb] at q; exact q
    | ex c ns xs e M1 => rw [hb] at q; exact fun F1 H1 σ1 d g1 R1 _ x => q F1 H1 d g1 R1 x
    | bk e M1 => rw [hb] at q; exact q.elim
    | ct e M1 => rw [hb] at q; exact q.elim
    | bad => rw [hb] at q; exact q.elim
theorem fn_ok {P : Program} {w : World} {K : PySem.W.Frag} {mg : Str → Option Value} {base : Heap} {g : Wd} {x qual : Str} {st : Stmt} {f : Addr} {fd : FuncData} {N ps : List Str} {k : Nat} {b : SM} (F : Fun K x qual st f fd) (S : FnScope N ps (defScope st))
    (hbody : ∀ (cdv : Value) (A : Around) (outer : List Env) (s : Shared) (H : Hp) (E : XK), Room k (A.deeper (PyProof.Rows.envOfC qual (defScope st) s.heap.objs.size f cdv)) →
      PSs (cxOf (L2N.CX P w) P w K mg base N qual (defScope st) f cdv A outer s H E) (defBody st) (tS g ⟨fun c d _ H => E c d H, ⟨[], []⟩⟩ b)) : FnOk P w K mg base (L2N.CX P w) (k + 1) f fd ps (spD g ps.length (fnB N.length b)) :=
  by
  obtain ⟨oc, od, kV, doc, pm, an, cdv, ct, osl, rfl, lk, hcd⟩ := F.ex
  exact fn_of lk hcd S (fun vs H Q E h => h.1) fun A outer s H vs Q E hr h => ⟨_, hbody cdv A outer s H E hr, body_run h⟩

/-! ### a def's contract: what is left over may be forgotten -/
mutual
def D.low (k : Nat) : D → Prop
  | .ref n => n < k
  | .tup ds => D.lows k ds
  | .fro ds => D.lows k ds
  | .ins _ _ ds => D.lows k ds
  | _ => True
def D.lows (k : Nat) : List D → Prop
  | [] => True
  | d :: ds => D.low k d ∧ D.lows k ds
end
def MO.low (k : Nat) : MO → Prop
  | .lst ds => D.lows k ds
  | .dk _ ds => D.lows k ds
  | .dt _ ds => D.lows k ds
  | .ob _ _ ds => D.lows k ds
  | .lk _ ds => D.lows k ds
  | .lt _ ds => D.lows k ds
def MLow (M : MH) : Prop := ∀ o ∈ M, MO.low M.length o
section
variable {g : Wd} {F F' : List Addr} {H : Hp} {M : MH}
mutual
theorem Rep.low : ∀ {d : D} {v : V}, Rep g F H d v → D.low F.length d
  | _, _, .non => trivial
  | _, _, .bl _ => trivial
  | _, _, .int _ => trivial
  | _, _, .str _ => trivial
  | _, _, .ty _ => trivial
  | _, _, .cls _ => trivial
  | _, _, .obj _ => trivial
  | _, _, .tk _ => trivial
  | _, _, .ref h => (List.getElem?_eq_some_iff.mp h).1
  | _, _, .tup _ r => by unfold D.low; exact Reps.low r
  | _, _, .fro _ r => by unfold D.low; exact Reps.low r
  | _, _, .ins _ _ _ r => by unfold D.low; exact Reps.low r
theorem Reps.low : ∀ {ds : List D} {vs : List V}, Reps g F H ds vs → D.lows F.length ds
  | _, _, .nil => trivial
  | _, _, .cons h t => ⟨Rep.low h, Reps.low t⟩
end
theorem FroL.cut {k : Nat} {ad : Addr} {vs : List V} (h : FroL g F H ad vs) : FroL g (F.take k) H ad vs := by
  rcases h with ⟨h, n⟩ | h | h
  · exact .inl ⟨h, fun z => n (List.mem_of_mem_take z)⟩
  · exact .inr (.inl h)
  · exact .inr (.inr h)
mutual
theorem Rep.cut {k : Nat} : ∀ {d : D} {v : V}, Rep g F H d v → D.low k d → Rep g (F.take k) H d v
  | _, _, .non, _ => .non
  | _, _, .bl b, _ => .bl b
  | _, _, .int i, _ => .int i
  | _, _, .str x, _ => .str x
  | _, _, .ty n, _ => .ty n
  | _, _, .cls c, _ => .cls c
  | _, _, .obj a, _ => .obj a
  | _, _, .tk h, _ => .tk h
  | _, _, .ref h, l => .ref (by rw [List.getElem?_take_of_lt (by unfold D.low at l; exact l)]; exact h)
  | _, _, .tup h r, l => .tup h (Reps.cut r (by unfold D.low at l; exact l))
  | _, _, .fro h r, l => .fro h.cut (Reps.cut r (by unfold D.low at l; exact l))
  | _, _, .ins h hn hl r, l => .ins h (fun z => hn (List.mem_of_mem_take z)) hl (Reps.cut r (by unfold D.low at l; exact l))
theorem Reps.cut {k : Nat} : ∀ {ds : List D} {vs : List V}, Reps g F H ds vs → D.lows k ds → Reps g (F.take k) H ds vs
  | _, _, .nil, _ => .nil
  | _, _, .cons h t, l => .cons (Rep.cut h l.1) (Reps.cut t l.2)
end
theorem ObjR.cut {k : Nat} {o : MO} {h : HO} (r : ObjR g F H o h) (l : MO.low k o) : ObjR g (F.take k) H o h := by
  cases r with
  | lst r => exact .lst (r.cut l)
  | dk hl r => exact .dk hl (r.cut l)
  | dt hl r => exact .dt hl (r.cut l)
  | ob hl r => exact .ob hl (r.cut l)
  | lk hl r => exact .lk hl (r.cut l)
  | lt hl r => exact .lt hl (r.cut l)
theorem RelM.low (R : RelM g F M H) : MLow M := fun o ho => by
  obtain ⟨n, hn⟩ := List.getElem?_of_mem ho
  have hl : n < F.length := by rw [R.len]; exact (List.getElem?_eq_some_iff.mp hn).1
  obtain ⟨h, _, r⟩ := R.obj n _ o (List.getElem?_eq_getElem hl) hn
  rw [← R.len]
  cases r with
  | lst r => exact r.low
  | dk hl r => exact r.low
  | dt hl r => exact r.low
  | ob hl r => exact r.low
  | lk hl r => exact r.low
  | lt hl r => exact r.low
theorem RelM.cut {G : MH} (R : RelM g F (M ++ G) H) (l : MLow M) : RelM g (F.take M.length) M H := by
  have hF : M.length ≤ F.length := by rw [R.len]; simp
  refine ⟨by simp [hF], R.nd.sublist (List.take_sublist _ _), fun n a o e m => ?_⟩
  have hn : n < M.length := (List.getElem?_eq_some_iff.mp m).1
  rw [List.getElem?_take_of_lt hn] at e
  obtain ⟨h, e2, r⟩ := R.obj n a o e (by rw [List.getElem?_append_left hn]; exact m)
  exact ⟨h, e2, r.cut (l o (List.mem_of_getElem? m))⟩
theorem Grow.cut {H0 : Hp} {F0 : List Addr} {k : Nat} (gr : Grow F0 H0 F H) (h : F0.length ≤ k) : Grow F0 H0 (F.take k) H := by
  obtain ⟨⟨t, rfl⟩, kp, nw, lk⟩ := gr
  refine ⟨?_, kp, fun b hb => nw b (List.mem_of_mem_take hb), lk⟩
  rw [List.take_append, List.take_of_length_le h]
  exact List.prefix_append _ _
end
/-- r' is what is promised of r; what r has made beyond may be forgotten -/
def Refines (M0 : MH) (r r' : Res D) : Prop := match r' with
  | .bad => True
  | .ok d M => r = .ok d M ∨ (∃ G, r = .ok d (M ++ G) ∧ M0.length ≤ M.length ∧ D.low M.length d ∧ MLow M)
  | .exc c ns ds M => r = .exc c ns ds M ∨ (∃ G, r = .exc c ns ds (M ++ G) ∧ M0.length ≤ M.length ∧ D.lows M.length ds ∧ MLow M)
theorem XRep.cut {g : Wd} {F : List Addr} {H : Hp} {k : Nat} {ns : List Str} {ds : List D} {d : Option Addr} (x : XRep g F H ns ds d) (l : D.lows k ds) : XRep g (F.take k) H ns ds d := by
  cases x with
  | no => exact .no
  | so h hne hl r => exact .so h hne hl (r.cut l)
theorem Refines.post {g : Wd} {W : WX} {F : List Addr} {M0 : MH} {σ : St} {H : Hp} {r r' : Res D} {Q : VK} (R : RelM g F M0 H) (h : Refines M0 r r') (q : post g rD W F σ H r' Q) : post g rD W F σ H r Q := by
  cases r' with
  | bad => exact q.elim
  | ok d M =>
    rcases h with rfl | ⟨G, rfl, hl, ld, lm⟩
    · exact q
    · exact fun F1 H1 v g1 R1 rv => q _ H1 v (g1.cut (by rw [R.len]; exact hl)) (R1.cut lm) (rv.cut ld)
  | exc c ns ds M =>
    rcases h with rfl | ⟨G, rfl, hl, ld, lm⟩
    · exact q
    · exact fun F1 H1 v g1 R1 x => q _ H1 v (g1.cut (by rw [R.len]; exact hl)) (R1.cut lm) (x.cut ld)
/-! ### calls -/
def eCall (n : Nat) (f : List D → MH → Res D) (a : AM) : EM := eArgs (fun ds M => if ds.length = n then f ds M else .bad) a
theorem post_call {g : Wd} {W : WX} {F : List Addr} {σ : St} {H : Hp} {r : Res D} {Q : VK} (q : post g rD W F σ H r Q) : post g rD (fun c d _ H => W c d σ H) F [] H r Q := by
  cases r with
  | ok d M => exact q
  | exc c ns ds M => exact q
  | bad => exact q
section
variable {X : Cx} {g : Wd} {W : WY} {a b c : Expr} {pos p : Pos} {m1 m2 : EM} {ma : AM} {es : List Expr} {k n : Nat} {f : Addr} {fd : FuncData} {ps : List Str} {m : List D → MH → Res D} {x : Str}
theorem call_imp {σ : St} {H : Hp} {Q : VK} (q : tD g W (eCall n m ma) σ H Q) : tA g W ma σ H fun vs H1 => spD g n m vs H1 Q (WE W.w σ) := by
  obtain ⟨F, e, M, RS, q⟩ := q
  refine ⟨F, e, M, RS, q.bind fun ds M1 F1 H1 vs e1 g1 R1 r q1 => ?_⟩
  split at q1
  · rename_i hl
    exact ⟨by rw [← r.length]; exact hl, F1, M1, ds, R1, r, post_call q1⟩
  · exact q1.elim
theorem de_call (G : FnOk X.prog X.w X.K X.mg X.base (L2N.CX X.prog X.w) k f fd ps (spD g n m)) (hr : Room k X.A) (tk : L2N.Takes X W.w) (hm : X.mg x = some (.ref f)) (hk : PySem.W.keepIn X.K (.ref f) = true) (hb : Binds X.K fd ps []) (ha : PA X (a :: es) (tA g W ma)) (hg : Gl X x := by rfl)
    (hdb : (x == ("__debug__" : Str)) = false := by decide) (he : starEach (a :: es) X.env = (false, eval a X.env) :: starEach es X.env := by rfl) (hpl : (backTo pos (starEach es X.env)).any (·.1) = false := by rfl) :
    PE X (.Call (.Name x p) (a :: es) [] pos) (tD g W (eCall n m ma)) :=
  pe_imp (pe_callSD G hr hg hm hk hb .nil (fun σ => L2N.passAt tk σ) ha hdb he hpl) fun σ H Q q => by
    have := call_imp q
    unfold tCallSD
    simpa using this
end
end T2
namespace T2
open PySem L2

/-! ### operations on values -/
/-- the items of a tuple or of a list that stands there -/
def items (M : MH) : D → Option (List D)
  | .tup ds => some ds
  | .fro ds => some ds
  | .ref n => match M[n]? with
    | some (.lst ds) => some ds
    | _ => none
  | _ => none
def mkL (ds : List D) (M : MH) : Res D := .ok (.ref M.length) (M ++ [.lst ds])
def mkF (ds : List D) (M : MH) : Res D := .ok (.fro ds) M
def listItems (M : MH) : D → Option (List D)
  | .fro ds => some ds
  | .ref n => match M[n]? with
    | some (.lst ds) => some ds
    | _ => none
  | _ => none
def big : Nat := 100000
def dAdd (x y : D) (M : MH) : Res D := match x, y with
  | .int i, .int j => .ok (.int (i + j)) M
  | .str a, .str b => if a.length + b.length ≤ big then .ok (.str (a ++ b)) M else .bad
  | .tup xs, .tup ys => if xs.length + ys.length ≤ big then .ok (.tup (xs ++ ys)) M else .bad
  | _, _ => .bad
def dSub (x y : D) (M : MH) : Res D := match x, y with
  | .int i, .int j => .ok (.int (i - j)) M
  | _, _ => .bad
def dMul (x y : D) (M : MH) : Res D := match x, y with
  | .int i, .int j => if (-(2 ^ 64) < i ∧ i < 2 ^ 64) ∨ (-(2 ^ 64) < j ∧ j < 2 ^ 64) then .ok (.int (i * j)) M else .bad
  | _, _ => .bad
def dDiv (x y : D) (M : MH) : Res D := match x, y with
  | .int i, .int j => if 0 < j ∧ j < 1073741824 then .ok (.int (i / j)) M else .bad
  | _, _ => .bad
def dMod (x y : D) (M : MH) : Res D := match x, y with
  | .int i, .int j => if 0 < j then .ok (.int (i % j)) M else .bad
  | _, _ => .bad
def dPow (x y : D) (M : MH) : Res D := match x, y with
  | .int i, .int j => if 0 ≤ j ∧ j ≤ 1000000 ∧ i.natAbs < 2 ^ 64 then .ok (.int (i ^ j.toNat)) M else .bad
  | _, _ => .bad
def dNeg (x : D) (M : MH) : Res D := match x with
  | .int i => .ok (.int (-i)) M
  | _ => .bad
def dCmpI (f : Int → Int → Bool) (x y : D) (M : MH) : Res D := match x, y with
  | .int i, .int j => .ok (.bl (f i j)) M
  | _, _ => .bad
def dLt : D → D → MH → Res D := dCmpI fun i j => decide (i < j)
def dLe : D → D → MH → Res D := dCmpI fun i j => decide (i ≤ j)
def dGt : D → D → MH → Res D := dCmpI fun i j => decide (j < i)
def dGe : D → D → MH → Res D := dCmpI fun i j => decide (j ≤ i)
def isNon : D → Bool
  | .non => true
  | _ => false
def isBl (b : Bool) : D → Bool
  | .bl c => c == b
  | _ => false
def dIs (x y : D) (M : MH) : Res D := match y with
  | .non => .ok (.bl (isNon x)) M
  | .bl b => .ok (.bl (isBl b x)) M
  | _ => .bad
def dIsNot (x y : D) (M : MH) : Res D := match y with
  | .non => .ok (.bl (!isNon x)) M
  | .bl b => .ok (.bl (!isBl b x)) M
  | _ => .bad
mutual
/-- a tree as data; rf tells what stands at a place -/
def toPa (rf : Nat → Option PyData) : D → Option PyData
  | .non => some .none
  | .bl b => some (.bool b)
  | .int i => some (.int i)
  | .str x => some (.str x)
  | .tup ds => (toPas rf ds).map .tuple
  | .fro ds => (toPas rf ds).map .list
  | .ref n => rf n
  | .ty _ => none
  | .cls _ => none
  | .obj _ => none
  | .tk _ => none
  | .ins _ _ _ => none
def toPas (rf : Nat → Option PyData) : List D → Option (List PyData)
  | [] => some []
  | d :: ds => match toPa rf d, toPas rf ds with
    | some p, some ps => some (p :: ps)
    | _, _ => none
end
def rfOf (M : MH) : Nat → Nat → Option PyData
  | 0, _ => none
  | k + 1, n => match M[n]? with
    | some (.lst ds) => (toPas (rfOf M k) ds).map .list
    | _ => none
def toP (M : MH) (k : Nat) (d : D) : Option PyData := toPa (rfOf M k) d
def toPs (M : MH) (k : Nat) (ds : List D) : Option (List PyData) := toPas (rfOf M k) ds
theorem toP_tup {M : MH} {k : Nat} {ds : List D} : toP M k (.tup ds) = (toPs M k ds).map .tuple := by unfold toP toPs; rw [toPa]
theorem toP_fro {M : MH} {k : Nat} {ds : List D} : toP M k (.fro ds) = (toPs M k ds).map .list := by unfold toP toPs; rw [toPa]
theorem toP_ref {M : MH} {k n : Nat} : toP M (k + 1) (.ref n) = match M[n]? with
    | some (.lst ds) => (toPs M k ds).map .list
    | _ => none := by unfold toP toPs; rw [toPa, rfOf]
theorem toPs_cons {M : MH} {k : Nat} {d : D} {ds : List D} : toPs M k (d :: ds) = match toP M k d, toPs M k ds with
    | some p, some ps => some (p :: ps)
    | _, _ => none := by unfold toP toPs; rw [toPas]
def dEq (x y : D) (M : MH) : Res D := match toP M 4 x, toP M 4 y with
  | some p, some q => if SeqAt.shaped p = true ∧ SeqAt.shaped q = true then .ok (.bl (PyData.eqv p q)) M else .bad
  | _, _ => .bad
def dNe (x y : D) (M : MH) : Res D := match toP M 4 x, toP M 4 y with
  | some p, some q => if SeqAt.shaped p = true ∧ SeqAt.shaped q = true then .ok (.bl (!PyData.eqv p q)) M else .bad
  | _, _ => .bad
def dIx (x y : D) (M : MH) : Res D := match y with
  | .int i => match x with
    | .str z => if z.length ≤ big then (match atI z.cps.toList i with
      | some c => .ok (.str ⟨#[c]⟩) M
      | none => .bad) else .bad
    | x => match items M x with
      | some ds => (match atI ds i with
        | some d => .ok d M
        | none => .bad)
      | none => .bad
  | _ => .bad
def cutD (xs : List D) (lo hi : Option Int) : List D := (xs.drop (HT.sIx xs.length 0 lo)).take (HT.sIx xs.length xs.length hi - HT.sIx xs.length 0 lo)
def dLen (ds : List D) (M : MH) : Res D := match ds with
  | [.str z] => if z.length ≤ big then .ok (.int z.length) M else .bad
  | [x] => match items M x with
    | some ys => .ok (.int ys.length) M
    | none => .bad
  | _ => .bad
def dListL (ds : List D) (M : MH) : Res D := match ds with
  | [x] => match items M x with
    | some ys => mkL ys M
    | none => .bad
  | _ => .bad
def dListF (ds : List D) (M : MH) : Res D := match ds with
  | [x] => match items M x with
    | some ys => mkF ys M
    | none => .bad
  | _ => .bad
def dTupF (ds : List D) (M : MH) : Res D := match ds with
  | [x] => match items M x with
    | some ys => .ok (.tup ys) M
    | none => .bad
  | _ => .bad
def dInt (ds : List D) (M : MH) : Res D := match ds with
  | [.int i] => .ok (.int i) M
  | [.bl b] => .ok (.int (if b then 1 else 0)) M
  | _ => .bad
def dAbs (ds : List D) (M : MH) : Res D := match ds with
  | [.int i] => .ok (.int (if i < 0 then -i else i)) M
  | _ => .bad
theorem bigLine {n : Nat} (h : n ≤ big) : n ≤ sizeLine := Nat.le_trans h (by decide)
section
variable {X : Cx} {g : Wd}
theorem items_at {F : List Addr} {M : MH} {H : Hp} {x : D} {v : V} {ds : List D} (R : RelM g F M H) (r : Rep g F H x v) (h : items M x = some ds) : ∃ a vs, v = .ref a ∧ (SqL g.K H a vs ∨ SqT g.K H a vs) ∧ Reps g F H ds vs := by
  cases r with
  | tup h1 r => cases h; exact ⟨_, _, rfl, .inr h1, r⟩
  | fro h1 r => cases h; exact ⟨_, _, rfl, .inl h1.sq, r⟩
  | ref h1 =>
    dsimp only [items] at h
    split at h
    · rename_i ds' hd
      cases h
      obtain ⟨vs, hv, r⟩ := lst_at R h1 hd
      exact ⟨_, vs, rfl, .inl (SqL.of hv), r⟩
    · cases h
  | _ => cases h
theorem mkL_post {W : WX} {F : List Addr} {M : MH} {H : Hp} {σ : L2.St} {Q : VK} {ds : List D} {vs : List V} {p : Addr} (R : RelM g F M H) (r : Reps g F H ds vs) (q : post g rD W F σ H (mkL ds M) Q) (hp : H p = none) : Q (.ref p) (upd H p (.lst vs)) := by
  obtain ⟨g1, R1⟩ := R.laid (m := .lst ds) (o := .lst vs) hp fun F' H' gr => .lst (r.mono gr R.good)
  exact q.ok g1 R1 (.ref (by rw [← R.len]; simp))
theorem mkF_post {W : WX} {F : List Addr} {M : MH} {H : Hp} {σ : L2.St} {Q : VK} {ds : List D} {vs : List V} {p : Addr} (R : RelM g F M H) (r : Reps g F H ds vs) (q : post g rD W F σ H (mkF ds M) Q) (hp : H p = none) : Q (.ref p) (upd H p (.lst vs)) := by
  obtain ⟨g1, R1⟩ := R.still (o := .lst vs) hp
  exact q.ok g1 R1 (.fro (.inl ⟨upd_same, R.notin hp⟩) (r.mono g1 R.good))
theorem tup_post {W : WX} {F : List Addr} {M : MH} {H : Hp} {σ : L2.St} {Q : VK} {ds : List D} {vs : List V} {p : Addr} (R : RelM g F M H) (r : Reps g F H ds vs) (q : post g rD W F σ H (.ok (.tup ds) M) Q) (hp : H p = none) : Q (.ref p) (upd H p (.tup vs)) := by
  obtain ⟨g1, R1⟩ := R.still (o := .tup vs) hp
  exact q.ok g1 R1 (.tup (SqT.of upd_same) (r.mono g1 R.good))
theorem sim_sub : Sim2 g dSub (rI0 fun i j => .int (i - j)) := fun F M σ H W x y v w Q R rx ry q => by
  unfold dSub at q
  split at q
  · cases rx; cases ry; exact ⟨_, _, rfl, rfl, q.here R (.int _)⟩
  · exact q.elim
theorem sim_mul : Sim2 g dMul (rI CMul fun i j => .int (i * j)) := fun F M σ H W x y v w Q R rx ry q => by
  unfold dMul at q
  split at q
  · cases rx; cases ry
    split at q
    · rename_i hc; exact ⟨_, _, rfl, rfl, hc, q.here R (.int _)⟩
    · exact q.elim
  · exact q.elim
theorem sim_div : Sim2 g dDiv (rI CDiv fun i j => .int (i / j)) := fun F M σ H W x y v w Q R rx ry q => by
  unfold dDiv at q
  split at q
  · cases rx; cases ry
    split at q
    · rename_i hc; exact ⟨_, _, rfl, rfl, hc, q.here R (.int _)⟩
    · exact q.elim
  · exact q.elim
theorem sim_mod : Sim2 g dMod (rI (fun _ j => 0 < j) fun i j => .int (i % j)) := fun F M σ H W x y v w Q R rx ry q => by
  unfold dMod at q
  split at q
  · cases rx; cases ry
    split at q
    · rename_i hc; exact ⟨_, _, rfl, rfl, hc, q.here R (.int _)⟩
    · exact q.elim
  · exact q.elim
theorem sim_pow : Sim2 g dPow (rI CPow fun i j => .int (i ^ j.toNat)) := fun F M σ H W x y v w Q R rx ry q => by
  unfold dPow at q
  split at q
  · cases rx; cases ry
    split at q
    · rename_i hc; exact ⟨_, _, rfl, rfl, hc, q.here R (.int _)⟩
    · exact q.elim
  · exact q.elim
theorem sim_cmpI {f : Int → Int → Bool} : Sim2 g (dCmpI f) (rI0 fun i j => .bl (f i j)) := fun F M σ H W x y v w Q R rx ry q => by
  unfold dCmpI at q
  split at q
  · cases rx; cases ry; exact ⟨_, _, rfl, rfl, q.here R (.bl _)⟩
  · exact q.elim
def rAddA (K : PySem.W.Frag) : R2 := fun x y H Q => (∃ i j, x = .int i ∧ y = .int j ∧ Q (.int (i + j)) H) ∨ (∃ i j, x = .str i ∧ y = .str j ∧ i.length + j.length ≤ sizeLine ∧ Q (.str (i ++ j)) H) ∨ rCatA K x y H Q
theorem op_addA : OpR X (binaryOp .Add) (rAddA X.K) := op_add.or (op_add_str.or op_catA)
theorem sim_add (hK : g.K = X.K) : Sim2 g dAdd (rAddA X.K) := fun F M σ H W x y v w Q R rx ry q => by
  unfold dAdd at q
  split at q
  · cases rx; cases ry; exact .inl ⟨_, _, rfl, rfl, q.here R (.int _)⟩
  · cases rx; cases ry
    split at q
    · rename_i hl; exact .inr (.inl ⟨_, _, rfl, rfl, bigLine hl, q.here R (.str _)⟩)
    · exact q.elim
  · rename_i xs ys
    cases rx with | tup h1 r1 =>
    cases ry with | tup h2 r2 =>
    rename_i a1 v1 a2 v2
    split at q
    · rename_i hl
      refine .inr (.inr ⟨_, _, _, _, rfl, rfl, by rw [← hK]; exact h1, by rw [← hK]; exact h2, by rw [← r1.length, ← r2.length]; exact bigLine hl, fun z => ?_, fun z1 z => ?_, fun z1 z2 p hp => ?_⟩)
      · have : xs = [] := by cases r1 with | nil => rfl | cons => cases z
        subst this
        exact q.here R (.tup h2 (by simpa using r2))
      · have : ys = [] := by cases r2 with | nil => rfl | cons => cases z
        subst this
        exact q.here R (.tup h1 (by simpa using r1))
      · exact tup_post R (r1.append r2) q hp
    · exact q.elim
  · exact q.elim
def rIsA : R2 := fun x y H Q => (y = .non ∧ Q (.bl (decide (x = .non))) H) ∨ ∃ b, y = .bl b ∧ Q (.bl (decide (x = .bl b))) H
theorem op_isB2 : OpR X (compareOp .Is) (fun x y H Q => ∃ b, y = .bl b ∧ Q (.bl (decide (x = .bl b))) H) := by
  intro pins s σ H x y v u Q I rx ry h
  obtain ⟨b, rfl, q⟩ := h
  cases (show u = Value.bool b from ry)
  by_cases e : x = .bl b
  · subst e
    cases (show v = Value.bool b from rx)
    exact wpAny_is_self rfl ⟨.bl true, H, I, rfl, by simpa using q⟩
  · have hne : v ≠ Value.bool b := fun z => by
      subst z
      exact e (rx.inj (show RelV (.bl b) (Value.bool b) from rfl))
    refine wpAny_is_other ?_ hne ⟨.bl false, H, I, rfl, by simpa [e] using q⟩
    cases x <;> first
      | (cases rx; rfl)
      | (obtain ⟨t, rfl⟩ := rx; rfl)
theorem op_isA : OpR X (compareOp .Is) rIsA := op_isN.or op_isB2
theorem isNon_rep {F : List Addr} {H : Hp} {x : D} {v : V} (r : Rep g F H x v) : decide (v = .non) = isNon x := by cases r <;> rfl
theorem isBl_rep {F : List Addr} {H : Hp} {x : D} {v : V} {b : Bool} (r : Rep g F H x v) : decide (v = .bl b) = isBl b x := by
  cases r with
  | bl c => cases b <;> cases c <;> rfl
  | _ => rfl
theorem sim_is : Sim2 g dIs rIsA := fun F M σ H W x y v w Q R rx ry q => by
  unfold dIs at q
  split at q
  · cases ry; exact .inl ⟨rfl, by rw [isNon_rep rx]; exact q.here R (.bl _)⟩
  · cases ry; exact .inr ⟨_, rfl, by rw [isBl_rep rx]; exact q.here R (.bl _)⟩
  · exact q.elim
mutual
theorem toP_rep {F : List Addr} {M : MH} {H : Hp} (R : RelM g F M H) : ∀ (k : Nat) (d : D) (v : V) (p : PyData), Rep g F H d v → toP M k d = some p → Dp g.K H v p
  | k, .non, v, p, r, h => by cases r; simp only [toP, toPa] at h; cases h; exact .non
  | k, .bl b, v, p, r, h => by cases r; simp only [toP, toPa] at h; cases h; exact .bl b
  | k, .int i, v, p, r, h => by cases r; simp only [toP, toPa] at h; cases h; exact .int i
  | k, .str x, v, p, r, h => by cases r; simp only [toP, toPa] at h; cases h; exact .str x
  | k, .tup ds, v, p, r, h => by
    rw [toP_tup] at h
    cases r with | tup h1 r1 =>
    cases hq : toPs M k ds with
    | none => rw [hq] at h; cases h
    | some ps => rw [hq] at h; cases h; exact .tup h1 (toPs_rep R k ds _ ps r1 hq)
  | k, .fro ds, v, p, r, h => by
    rw [toP_fro] at h
    cases r with | fro h1 r1 =>
    cases hq : toPs M k ds with
    | none => rw [hq] at h; cases h
    | some ps => rw [hq] at h; cases h; exact .lst h1.sq (toPs_rep R k ds _ ps r1 hq)
  | k + 1, .ref n, v, p, r, h => by
    rw [toP_ref] at h
    cases r with | ref h1 =>
    split at h
    · rename_i ds hd
      obtain ⟨vs, hv, r1⟩ := lst_at R h1 hd
      cases hq : toPs M k ds with
      | none => rw [hq] at h; cases h
      | some ps => rw [hq] at h; cases h; exact .lst (SqL.of hv) (toPs_rep R k ds _ ps r1 hq)
    · cases h
  | 0, .ref n, v, p, r, h => by simp [toP, toPa, rfOf] at h
  | k, .ty n, v, p, r, h => by simp [toP, toPa, rfOf] at h
  | k, .cls n, v, p, r, h => by simp [toP, toPa, rfOf] at h
  | k, .obj n, v, p, r, h => by simp [toP, toPa, rfOf] at h
  | k, .ins c ns ds, v, p, r, h => by simp [toP, toPa, rfOf] at h
termination_by k d => (k, sizeOf d)
theorem toPs_rep {F : List Addr} {M : MH} {H : Hp} (R : RelM g F M H) : ∀ (k : Nat) (ds : List D) (vs : List V) (ps : List PyData), Reps g F H ds vs → toPs M k ds = some ps → DpAll g.K H vs ps
  | k, [], vs, ps, r, h => by cases r; simp only [toPs, toPas] at h; cases h; exact .nil
  | k, d :: ds, vs, ps, r, h => by
    rw [toPs_cons] at h
    cases r with | cons r1 r2 =>
    cases hp : toP M k d with
    | none => rw [hp] at h; cases h
    | some p =>
      cases hq : toPs M k ds with
      | none => rw [hp, hq] at h; cases h
      | some qs => rw [hp, hq] at h; cases h; exact .cons (toP_rep R k d _ p r1 hp) (toPs_rep R k ds _ qs r2 hq)
termination_by k ds => (k, sizeOf ds)
end
theorem sim_eq (hK : g.K = X.K) : Sim2 g dEq (rEqD X.K) := fun F M σ H W x y v w Q R rx ry q => by
  unfold dEq at q
  split at q
  · rename_i p1 p2 h1 h2
    split at q
    · rename_i hs
      rw [← hK]
      exact ⟨p1, p2, toP_rep R 4 x v p1 rx h1, toP_rep R 4 y w p2 ry h2, hs.1, hs.2, q.here R (.bl _)⟩
    · exact q.elim
  · exact q.elim
theorem sim_ne (hK : g.K = X.K) : Sim2 g dNe (rNeD X.K) := fun F M σ H W x y v w Q R rx ry q => by
  unfold dNe at q
  split at q
  · rename_i p1 p2 h1 h2
    split at q
    · rename_i hs
      rw [← hK]
      exact ⟨p1, p2, toP_rep R 4 x v p1 rx h1, toP_rep R 4 y w p2 ry h2, hs.1, hs.2, q.here R (.bl _)⟩
    · exact q.elim
  · exact q.elim
theorem atI_rep {F : List Addr} {H : Hp} {ds : List D} {vs : List V} {i : Int} {d : D} (r : Reps g F H ds vs) (h : atI ds i = some d) : ∃ v, atI vs i = some v ∧ Rep g F H d v := by
  unfold atI at h ⊢
  rw [r.length] at h
  cases hj : ixN vs.length i with
  | none => rw [hj] at h; cases h
  | some j =>
    rw [hj] at h
    exact r.get h
theorem sim_ix (hK : g.K = X.K) : Sim2 g dIx (rIx X.K) := fun F M σ H W x y v w Q R rx ry q => by
  unfold dIx at q
  split at q
  · cases ry
    split at q
    · cases rx
      split at q
      · rename_i hl
        split at q
        · rename_i c hc
          exact .inr (.inr ⟨_, _, c, rfl, rfl, bigLine hl, hc, q.here R (.str _)⟩)
        · exact q.elim
      · exact q.elim
    · split at q
      · rename_i ds hd
        obtain ⟨a, vs, rfl, hs, r⟩ := items_at R rx hd
        split at q
        · rename_i d hx
          obtain ⟨z, hz, rz⟩ := atI_rep r hx
          rw [hK] at hs
          rcases hs with hs | hs
          · exact .inl ⟨a, vs, _, z, rfl, rfl, hs, hz, q.here R rz⟩
          · exact .inr (.inl ⟨a, vs, _, z, rfl, rfl, hs, hz, q.here R rz⟩)
        · exact q.elim
      · exact q.elim
  · exact q.elim
end
/-! ### expressions by these operations -/
section
variable {X : Cx} {g : Wd} {W : WY} {a b c : Expr} {pos p : Pos} {m1 m2 m3 : EM} {ma : AM} {es : List Expr}
theorem de_add (hK : g.K = X.K) (ha : PE X a (tD g W m1)) (hb : PE X b (tD g W m2)) : PE X (.BinOp a .Add b pos) (tD g W (eBin dAdd m1 m2)) := de_op op_addA (sim_add hK) ha hb
theorem de_sub (ha : PE X a (tD g W m1)) (hb : PE X b (tD g W m2)) : PE X (.BinOp a .Sub b pos) (tD g W (eBin dSub m1 m2)) := de_op op_sub sim_sub ha hb
theorem de_mul (ha : PE X a (tD g W m1)) (hb : PE X b (tD g W m2)) : PE X (.BinOp a .Mult b pos) (tD g W (eBin dMul m1 m2)) := de_op op_mul sim_mul ha hb
theorem de_div (ha : PE X a (tD g W m1)) (hb : PE X b (tD g W m2)) : PE X (.BinOp a .FloorDiv b pos) (tD g W (eBin dDiv m1 m2)) := de_op op_fdiv sim_div ha hb
theorem de_mod (ha : PE X a (tD g W m1)) (hb : PE X b (tD g W m2)) : PE X (.BinOp a .Mod b pos) (tD g W (eBin dMod m1 m2)) := de_op op_mod sim_mod ha hb
theorem de_pow (ha : PE X a (tD g W m1)) (hb : PE X b (tD g W m2)) : PE X (.BinOp a .Pow b pos) (tD g W (eBin dPow m1 m2)) := de_op op_pow sim_pow ha hb
theorem de_ge (ha : PE X a (tD g W m1)) (hb : PE X b (tD g W m2)) : PE X (.Compare a [.GtE] [b] pos) (tD g W (eBin dGe m1 m2)) := de_cmp op_ge sim_cmpI ha hb (nomark _)
theorem de_is (ha : PE X a (tD g W m1)) (hb : PE X b (tD g W m2)) : PE X (.Compare a [.Is] [b] pos) (tD g W (eBin dIs m1 m2)) := de_cmp op_isA sim_is ha hb (nomark _)
theorem de_eq (hK : g.K = X.K) (hu : X.A.units + 64 < cLine) (ha : PE X a (tD g W m1)) (hb : PE X b (tD g W m2)) : PE X (.Compare a [.Eq] [b] pos) (tD g W (eBin dEq m1 m2)) := de_cmp (op_eqD hu) (sim_eq hK) ha hb (nomark _)
theorem dt_lt (ha : PE X a (tD g W m1)) (hb : PE X b (tD g W m2)) : PT X (.Compare a [.Lt] [b] pos) (tB2 g W (bVal (eBin dLt m1 m2))) := dt_cmp op_lt sim_cmpI ha hb (nomark _)
theorem dt_gt (ha : PE X a (tD g W m1)) (hb : PE X b (tD g W m2)) : PT X (.Compare a [.Gt] [b] pos) (tB2 g W (bVal (eBin dGt m1 m2))) := dt_cmp op_gt sim_cmpI ha hb (nomark _)
theorem dt_ge (ha : PE X a (tD g W m1)) (hb : PE X b (tD g W m2)) : PT X (.Compare a [.GtE] [b] pos) (tB2 g W (bVal (eBin dGe m1 m2))) := dt_cmp op_ge sim_cmpI ha hb (nomark _)
theorem dt_is (ha : PE X a (tD g W m1)) (hb : PE X b (tD g W m2)) : PT X (.Compare a [.Is] [b] pos) (tB2 g W (bVal (eBin dIs m1 m2))) := dt_cmp op_isA sim_is ha hb (nomark _)
theorem dt_eq (hK : g.K = X.K) (hu : X.A.units + 64 < cLine) (ha : PE X a (tD g W m1)) (hb : PE X b (tD g W m2)) : PT X (.Compare a [.Eq] [b] pos) (tB2 g W (bVal (eBin dEq m1 m2))) := dt_cmp (op_eqD hu) (sim_eq hK) ha hb (nomark _)
theorem dt_ne (hK : g.K = X.K) (hu : X.A.units + 64 < cLine) (ha : PE X a (tD g W m1)) (hb : PE X b (tD g W m2)) : PT X (.Compare a [.NotEq] [b] pos) (tB2 g W (bVal (eBin dNe m1 m2))) := dt_cmp (op_neD hu) (sim_ne hK) ha hb (nomark _)
/-- calls of built-ins -/
theorem de_callB {id : String} {x : Str} {r : List V → Hp → VK → Prop} {f : List D → MH → Res D} (hc : CallR X (.builtin id) r) (hs : SimA g f r) (hm : X.mg x = none) (hv : bootBuiltins x = some (.builtin id)) (ha : PA X (a :: es) (tA g W ma)) (hg : Gl X x := by rfl) (hn : x ≠ "__name__" := by decide)
    (hdb : (x == ("__debug__" : Str)) = false := by decide) (he : starEach (a :: es) X.env = (false, eval a X.env) :: starEach es X.env := by rfl) (hpl : (backTo pos (starEach es X.env)).any (·.1) = false := by rfl) : PE X (.Call (.Name x p) (a :: es) [] pos) (tD g W (eArgs f ma)) :=
  pe_imp (pe_callB hc hg hm hv ha hn hdb he hpl) fun σ H Q q => args_imp hs q
theorem de_callT {T : String} {x : Str} {r : List V → Hp → VK → Prop} {f : List D → MH → Res D} (hc : CallR X (.type T) r) (hs : SimA g f r) (hm : X.mg x = none) (hv : bootBuiltins x = some (.type T)) (ha : PA X (a :: es) (tA g W ma)) (hg : Gl X x := by rfl) (hn : x ≠ "__name__" := by decide)
    (hdb : (x == ("__debug__" : Str)) = false := by decide) (he : starEach (a :: es) X.env = (false, eval a X.env) :: starEach es X.env := by rfl) (hpl : (backTo pos (starEach es X.env)).any (·.1) = false := by rfl) : PE X (.Call (.Name x p) (a :: es) [] pos) (tD g W (eArgs f ma)) :=
  pe_imp (pe_callTy hc hg hm hv ha hn hdb he hpl) fun σ H Q q => args_imp hs q
end
end T2
namespace T2
open PySem L2
section
variable {X : Cx} {g : Wd} {W : WY} {a b c : Expr} {pos p : Pos} {m1 m2 m3 : EM} {ma : AM} {es : List Expr}
/-! ### built-ins -/
def rLenA (K : PySem.W.Frag) : List V → Hp → VK → Prop := fun xs H Q => (∃ p ys, xs = [.ref p] ∧ (SqL K H p ys ∨ SqT K H p ys) ∧ Q (.int ys.length) H) ∨ ∃ z, xs = [.str z] ∧ z.length ≤ sizeLine ∧ Q (.int z.length) H
theorem call_lenA : CallR X (.builtin "len") (rLenA X.K) := call_len_seq.or call_len_str
theorem one_rep {F : List Addr} {H : Hp} {d : D} {vs : List V} (r : Reps g F H [d] vs) : ∃ v, vs = [v] ∧ Rep g F H d v := by
  cases r with | cons h t => cases t; exact ⟨_, rfl, h⟩
theorem two_rep {F : List Addr} {H : Hp} {d e : D} {vs : List V} (r : Reps g F H [d, e] vs) : ∃ v w, vs = [v, w] ∧ Rep g F H d v ∧ Rep g F H e w := by
  cases r with | cons h t => cases t with | cons h2 t => cases t; exact ⟨_, _, rfl, h, h2⟩
theorem sim_len (hK : g.K = X.K) : SimA g dLen (rLenA X.K) := fun F M σ H W ds vs Q R r q => by
  unfold dLen at q
  split at q
  · obtain ⟨v, rfl, rv⟩ := one_rep r
    cases rv
    split at q
    · rename_i hl; exact .inr ⟨_, rfl, bigLine hl, q.here R (.int _)⟩
    · exact q.elim
  · obtain ⟨v, rfl, rv⟩ := one_rep r
    split at q
    · rename_i ys hy
      obtain ⟨a, us, rfl, hs, r⟩ := items_at R rv hy
      rw [hK] at hs
      exact .inl ⟨a, us, rfl, hs, by rw [← r.length]; exact q.here R (.int _)⟩
    · exact q.elim
  · exact q.elim
def rListA (K : PySem.W.Frag) : List V → Hp → VK → Prop := fun xs H Q => ∃ p ys, xs = [.ref p] ∧ (SqL K H p ys ∨ SqT K H p ys) ∧ ∀ l, H l = none → Q (.ref l) (upd H l (.lst ys))
theorem sim_listF (hK : g.K = X.K) : SimA g dListF (rListA X.K) := fun F M σ H W ds vs Q R r q => by
  unfold dListF at q
  split at q
  · obtain ⟨v, rfl, rv⟩ := one_rep r
    split at q
    · rename_i ys hy
      obtain ⟨a, us, rfl, hs, r⟩ := items_at R rv hy
      rw [hK] at hs
      exact ⟨a, us, rfl, hs, fun l hl => mkF_post R r q hl⟩
    · exact q.elim
  · exact q.elim
def rTupA (K : PySem.W.Frag) : List V → Hp → VK → Prop := fun xs H Q => ∃ p ys, xs = [.ref p] ∧ ((SqL K H p ys ∧ ∀ l, H l = none → Q (.ref l) (upd H l (.tup ys))) ∨ (SqT K H p ys ∧ Q (.ref p) H))
theorem sim_tupF (hK : g.K = X.K) : SimA g dTupF (rTupA X.K) := fun F M σ H W ds vs Q R r q => by
  unfold dTupF at q
  split at q
  · obtain ⟨v, rfl, rv⟩ := one_rep r
    split at q
    · rename_i ys hy
      obtain ⟨a, us, rfl, hs, r⟩ := items_at R rv hy
      rcases hs with hs | hs
      · rw [hK] at hs; exact ⟨a, us, rfl, .inl ⟨hs, fun l hl => tup_post R r q hl⟩⟩
      · have hs' := hs; rw [hK] at hs'; exact ⟨a, us, rfl, .inr ⟨hs', q.here R (.tup hs r)⟩⟩
    · exact q.elim
  · exact q.elim
theorem sim_int1 : SimA g dInt (fun xs H Q => (∃ i, xs = [.int i] ∧ Q (.int i) H) ∨ ∃ k, xs = [.bl k] ∧ Q (.int (if k then 1 else 0)) H) := fun F M σ H W ds vs Q R r q => by
  unfold dInt at q
  split at q
  · obtain ⟨v, rfl, rv⟩ := one_rep r; cases rv; exact .inl ⟨_, rfl, q.here R (.int _)⟩
  · obtain ⟨v, rfl, rv⟩ := one_rep r; cases rv; exact .inr ⟨_, rfl, q.here R (.int _)⟩
  · exact q.elim
theorem sim_abs : SimA g dAbs (fun xs H Q => ∃ i, xs = [.int i] ∧ Q (.int (if i < 0 then -i else i)) H) := fun F M σ H W ds vs Q R r q => by
  unfold dAbs at q
  split at q
  · obtain ⟨v, rfl, rv⟩ := one_rep r; cases rv; exact ⟨_, rfl, q.here R (.int _)⟩
  · exact q.elim
section
variable (hK : g.K = X.K) (ha : PA X (a :: es) (tA g W ma)) (he : starEach (a :: es) X.env = (false, eval a X.env) :: starEach es X.env := by rfl) (hpl : (backTo pos (starEach es X.env)).any (·.1) = false := by rfl)
include ha he hpl
theorem de_len (hK : g.K = X.K) (hm : X.mg "len" = none) (hg : Gl X "len" := by rfl) : PE X (.Call (.Name "len" p) (a :: es) [] pos) (tD g W (eArgs dLen ma)) := de_callB call_lenA (sim_len hK) hm PySem.boot_len ha hg (by decide) (by decide) he hpl
theorem de_abs (hm : X.mg "abs" = none) (hg : Gl X "abs" := by rfl) : PE X (.Call (.Name "abs" p) (a :: es) [] pos) (tD g W (eArgs dAbs ma)) := de_callB call_abs sim_abs hm (by decide +kernel) ha hg (by decide) (by decide) he hpl
theorem de_intc (hm : X.mg "int" = none) (hg : Gl X "int" := by rfl) : PE X (.Call (.Name "int" p) (a :: es) [] pos) (tD g W (eArgs dInt ma)) := de_callT call_int1 sim_int1 hm (by decide +kernel) ha hg (by decide) (by decide) he hpl
theorem de_listF (hK : g.K = X.K) (hm : X.mg "list" = none) (hg : Gl X "list" := by rfl) : PE X (.Call (.Name "list" p) (a :: es) [] pos) (tD g W (eArgs dListF ma)) := de_callT call_list_of (sim_listF hK) hm (by decide +kernel) ha hg (by decide) (by decide) he hpl
theorem de_tupc (hK : g.K = X.K) (hm : X.mg "tuple" = none) (hg : Gl X "tuple" := by rfl) : PE X (.Call (.Name "tuple" p) (a :: es) [] pos) (tD g W (eArgs dTupF ma)) := de_callT call_tuple_of (sim_tupF hK) hm (by decide +kernel) ha hg (by decide) (by decide) he hpl
end

/-! ### stores into lists -/
def dSetIx (o i v : D) (M : MH) : Option MH := match o, i with
  | .ref n, .int k => match M[n]? with
    | some (.lst ds) => match ixN ds.length k with
      | some j => some (M.set n (.lst (ds.set j v)))
      | none => none
    | _ => none
  | _, _ => none
/-- o[i] = v: v first, then o, then i -/
def sSetIx (f : D → D → D → MH → Option MH) (mo mi mv : EM) : SM := fun e M => (mv e M).toS e fun v M1 => (mo e M1).toS e fun o M2 => (mi e M2).toS e fun i M3 => match f o i v M3 with
  | some M4 => .nx e M4
  | none => .bad
def Sim3 (g : Wd) (f : D → D → D → MH → Option MH) (r : TSet) : Prop := ∀ (F : List Addr) (M M' : MH) (H : Hp) (o i x : D) (vo vi vx : V) (Q : Hp → Prop), RelM g F M H → Rep g F H o vo → Rep g F H i vi → Rep g F H x vx → f o i x M = some M' → (∀ H', Grow F H F H' → RelM g F M' H' → Q H') → r vo vi vx H Q
theorem sim_setL : Sim3 g dSetIx rSetL := fun F M M' H o i x vo vi vx Q R ro ri rx h k => by
  unfold dSetIx at h
  split at h
  · cases ro with | ref hn =>
    cases ri
    split at h
    · rename_i ds hd
      obtain ⟨vs, hv, r⟩ := lst_at R hn hd
      split at h
      · rename_i j hj
        cases h
        rw [r.length] at hj
        refine ⟨_, vs, _, j, rfl, rfl, hv, hj, ?_⟩
        obtain ⟨g1, R1⟩ := R.put (o := .lst (vs.set j vx)) (m := .lst (ds.set j x)) hn trivial fun H' gr => .lst ((r.mono gr R.good).set (rx.mono gr R.good) j)
        exact k _ g1 R1
      · cases h
    · cases h
  · cases h
theorem ds_setIx {f : D → D → D → MH → Option MH} {r : TSet} {o i : Expr} {pos' : Pos} (hp : PSet X r) (hs3 : Sim3 g f r) (ho : PE X o (tD g W m1)) (hi : PE X i (tD g W m2)) (hv : PE X a (tD g W m3))
    (hass : ∀ v, assign (.Subscript o i pos') X.env v = (do
      let ov ← holding [v] (eval o X.env)
      let iv ← holding [v, ov] (eval i X.env)
      standAt pos'
      holding [v, ov, iv] (setItem ov iv v)
      release [v, ov, iv] []) := by intro _; rfl)
    (hs : swapsWithSole [.Subscript o i pos'] a pos.line X.env = pure false := by rfl) (hw : swappedStores [.Subscript o i pos'] a X.env = pure none := by rfl) (h1 : (assignEach [.Subscript o i pos'] X.env).map (·.2) = [assign (.Subscript o i pos') X.env] := by rfl) :
    PS X (.Assign [.Subscript o i pos'] a pos) (tS g W (sSetIx f m1 m2 m3)) :=
  ps_imp (ps_asg hv (pg_sub ho hi hp hass) hs hw h1) fun E σ H ⟨F, e, M, RS, q⟩ => by
    refine ⟨F, e, M, RS, q.step RS fun x M1 F1 H1 vx _ g1 R1 rx q1 => ?_⟩
    refine ⟨F1, e, M1, RS.up g1 R1, q1.step (RS.up g1 R1) fun y M2 F2 H2 vo _ g2 R2 ro q2 => ?_⟩
    have RS2 := (RS.up g1 R1).up g2 R2
    refine ⟨F2, e, M2, RS2, q2.step RS2 fun z M3 F3 H3 vi _ g3 R3 ri q3 => ?_⟩
    have RS3 := RS2.up g3 R3
    split at q3
    · rename_i M4 h4
      refine hs3 F3 M3 M4 H3 y z x vo vi vx _ R3 (ro.mono g3 R2.good) ri ((rx.mono g2 R1.good).mono g3 R2.good) h4 fun H4 g4 R4 => ?_
      exact q3 F3 H4 σ g4 R4 (RS3.up g4 R4).e RS3.x
    · exact q3.elim
theorem ds_setL {o i : Expr} {pos' : Pos} (ho : PE X o (tD g W m1)) (hi : PE X i (tD g W m2)) (hv : PE X a (tD g W m3))
    (hass : ∀ v, assign (.Subscript o i pos') X.env v = (do
      let ov ← holding [v] (eval o X.env)
      let iv ← holding [v, ov] (eval i X.env)
      standAt pos'
      holding [v, ov, iv] (setItem ov iv v)
      release [v, ov, iv] []) := by intro _; rfl)
    (hs : swapsWithSole [.Subscript o i pos'] a pos.line X.env = pure false := by rfl) (hw : swappedStores [.Subscript o i pos'] a X.env = pure none := by rfl) (h1 : (assignEach [.Subscript o i pos'] X.env).map (·.2) = [assign (.Subscript o i pos') X.env] := by rfl) :
    PS X (.Assign [.Subscript o i pos'] a pos) (tS g W (sSetIx dSetIx m1 m2 m3)) := ds_setIx set_list sim_setL ho hi hv hass hs hw h1
end
end T2
namespace T2
open PySem L2
theorem fn_ok2 {P : Program} {w : World} {K : PySem.W.Frag} {mg : Str → Option Value} {base : Heap} {g : Wd} {x qual : Str} {st : Stmt} {f : Addr} {fd : FuncData} {N ps : List Str} {k : Nat} {b : SM} (F : Fun K x qual st f fd) (S : FnScope N ps (defScope st))
    (hbody : ∀ (cdv : Value) (A : Around) (outer : List Env) (s : Shared) (H : Hp) (E : XK), Room k (A.deeper (PyProof.Rows.envOfC qual (defScope st) s.heap.objs.size f cdv)) →
      L2N.Takes (cxOf (L2N.CX P w) P w K mg base N qual (defScope st) f cdv A outer s H E) (WY.mk (fun c d _ H => E c d H) ⟨[], []⟩).w →
      PassesOwn (model P w) (cxOf (L2N.CX P w) P w K mg base N qual (defScope st) f cdv A outer s H E).A (cxOf (L2N.CX P w) P w K mg base N qual (defScope st) f cdv A outer s H E).env (cxOf (L2N.CX P w) P w K mg base N qual (defScope st) f cdv A outer s H E).xe →
      PSs (cxOf (L2N.CX P w) P w K mg base N qual (defScope st) f cdv A outer s H E) (defBody st) (tS g ⟨fun c d _ H => E c d H, ⟨[], []⟩⟩ b)) : FnOk P w K mg base (L2N.CX P w) (k + 1) f fd ps (spD g ps.length (fnB N.length b)) :=
  fn_ok F S fun cdv A outer s H E hr => hbody cdv A outer s H E hr (L2N.takes_of rfl rfl rfl rfl) (passes_of (X := cxOf (L2N.CX P w) P w K mg base N qual (defScope st) f cdv A outer s H E) rfl)
end T2
namespace T2
open PySem L2

/-! ### instances: fields -/
def fieldOf (f : Str) (ns : List Str) (ds : List D) : Option D := (ns.zip ds).lookup f
/-- the class and the fields of an instance -/
def instOf (M : MH) : D → Option (Nat × List Str × List D)
  | .ins c ns ds => some (c, ns, ds)
  | .ref n => match M[n]? with
    | some (.ob c ns ds) => some (c, ns, ds)
    | _ => none
  | _ => none
def dFld (cs : List Nat) (f : Str) (x : D) (M : MH) : Res D := match instOf M x with
  | some (c, ns, ds) => if cs.contains c = true then (match fieldOf f ns ds with
    | some d => .ok d M
    | none => .bad) else .bad
  | none => .bad
def putN (f : Str) (d : D) : List Str → List D → List Str × List D
  | n :: ns, x :: ds => if n = f then (n :: ns, d :: ds) else ((n :: (putN f d ns ds).1), (x :: (putN f d ns ds).2))
  | _, _ => ([f], [d])
section
variable {g : Wd} {F : List Addr} {H : Hp} {M : MH}
theorem field_rep {f : Str} : ∀ {ns : List Str} {ds : List D} {vs : List V} {d : D}, Reps g F H ds vs → fieldOf f ns ds = some d → ∃ v, (ns.zip vs).lookup f = some v ∧ Rep g F H d v
  | [], _, _, _, _, h => by simp [fieldOf] at h
  | _ :: _, _, _, _, .nil, h => by simp [fieldOf] at h
  | n :: ns, _, _, d, .cons r t, h => by
    unfold fieldOf at h
    rw [List.zip_cons_cons, List.lookup_cons] at h ⊢
    cases hn : (f == n) with
    | true => rw [hn] at h; cases h; exact ⟨_, rfl, r⟩
    | false => rw [hn] at h; exact field_rep t h
theorem field_none {f : Str} : ∀ {ns : List Str} {vs : List V}, f ∉ ns → (ns.zip vs).lookup f = none
  | [], _, _ => by simp
  | _ :: _, [], _ => by simp
  | n :: ns, v :: vs, h => by
    rw [List.zip_cons_cons, List.lookup_cons]
    have hn : (f == n) = false := by simp at h ⊢; exact h.1
    rw [hn]
    exact field_none (by simp at h; exact h.2)
theorem inst_at {x : D} {v : V} {c : Nat} {ns : List Str} {ds : List D} (R : RelM g F M H) (r : Rep g F H x v) (h : instOf M x = some (c, ns, ds)) : ∃ a dx vs, v = .ref a ∧ H a = some (.ins (g.ca c) dx (ns.zip vs)) ∧ ns.length = vs.length ∧ Reps g F H ds vs := by
  cases r with
  | ins h1 h2 h3 r1 => cases h; exact ⟨_, _, _, rfl, h1, h3, r1⟩
  | ref h1 =>
    dsimp only [instOf] at h
    split at h
    · rename_i c' ns' ds' hd
      cases h
      obtain ⟨o, e, r1⟩ := R.obj _ _ _ h1 hd
      cases r1 with | ob hl r1 => exact ⟨_, _, _, rfl, e, hl, r1⟩
    · cases h
  | _ => cases h
end
structure ClsF (K : PySem.W.Frag) (ca : Nat → Addr) (cs : List Nat) (f : Str) : Prop where
  cl : ∀ c, cs.contains c = true → Cls K (ca c)
  na : ∀ c, cs.contains c = true → NoAttr K (ca c) f
section
variable {X : Cx} {g : Wd} {W : WY} {a b c : Expr} {pos p apos : Pos} {m1 m2 m3 : EM} {ma : AM} {es : List Expr} {o : Expr}
theorem de_fld {cs : List Nat} {f : Str} (hC : ClsF X.K g.ca cs f) (ha : PE X a (tD g W m1)) (hb : attributeBase a f X.env (eval a X.env) = eval a X.env := by rfl) : PE X (.Attribute a f pos) (tD g W (eUn (dFld cs f) m1)) :=
  pe_imp (pe_fld ha hb) fun σ H Q ⟨F, e, M, RS, q⟩ => ⟨F, e, M, RS, q.bind fun x M1 F1 H1 v e1 g1 R1 rx q1 => by
    unfold dFld at q1
    split at q1
    · rename_i c ns ds hi
      obtain ⟨ad, dx, vs, rfl, ha, hl, r⟩ := inst_at R1 rx hi
      split at q1
      · rename_i hc
        split at q1
        · rename_i d hd
          obtain ⟨u, hu, ru⟩ := field_rep r hd
          exact ⟨ad, _, dx, _, u, rfl, ha, hC.cl c hc, hC.na c hc, hu, q1.here R1 ru⟩
        · exact q1.elim
      · exact q1.elim
    · exact q1.elim⟩

/-! ### o.f = e -/
def dPutF (cs : List Nat) (f : Str) (x d : D) (M : MH) : Option MH := match x with
  | .ref n => match M[n]? with
    | some (.ob c ns ds) => if cs.contains c = true ∧ ns.length < 100 ∧ ns.length = ds.length then some (M.set n (.ob c (putN f d ns ds).1 (putN f d ns ds).2)) else none
    | _ => none
  | _ => none
def sPutF (cs : List Nat) (f : Str) (mo mv : EM) : SM := fun e M => (mv e M).toS e fun v M1 => (mo e M1).toS e fun o M2 => match dPutF cs f o v M2 with
  | some M3 => .nx e M3
  | none => .bad
theorem putN_rep {g : Wd} {F : List Addr} {H : Hp} {f : Str} {d : D} {v : V} (r : Rep g F H d v) : ∀ {ns : List Str} {ds : List D} {vs : List V}, ns.length = vs.length → Reps g F H ds vs →
    ∃ us, putF f v (ns.zip vs) = (putN f d ns ds).1.zip us ∧ (putN f d ns ds).1.length = us.length ∧ Reps g F H (putN f d ns ds).2 us
  | [], _, [], _, .nil => ⟨[v], rfl, rfl, .cons r .nil⟩
  | [], _, _ :: _, hl, _ => by simp at hl
  | _ :: _, _, [], hl, _ => by simp at hl
  | n :: ns, _, v0 :: vs, hl, .cons (d := d0) (ds := ds) r0 t => by
    simp only [List.length_cons, Nat.add_right_cancel_iff] at hl
    rw [List.zip_cons_cons]
    by_cases hn : n = f
    · refine ⟨v :: vs, ?_, ?_, ?_⟩
      · simp [putN, putF, hn]
      · simp [putN, hn, hl]
      · simp [putN, hn]; exact .cons r t
    · obtain ⟨us, h1, h2, h3⟩ := putN_rep (f := f) r hl t
      refine ⟨v0 :: us, ?_, ?_, ?_⟩
      · simp [putN, putF, hn, h1]
      · simp [putN, hn, h2]
      · simp [putN, hn]; exact .cons r0 h3
theorem ds_putF {cs : List Nat} {f : Str} (hC : ClsF X.K g.ca cs f) (ho : PE X o (tD g W m1)) (hv : PE X a (tD g W m2)) (hs : swapsWith a (some (.Attribute o f apos)) pos.line X.env = pure false := by rfl) :
    PS X (.Assign [.Attribute o f apos] a pos) (tS g W (sPutF cs f m1 m2)) :=
  ps_imp (ps_fld ho hv hs) fun E σ H ⟨F, e, M, RS, q⟩ => by
    refine ⟨F, e, M, RS, q.step RS fun x M1 F1 H1 vx _ g1 R1 rx q1 => ?_⟩
    refine ⟨F1, e, M1, RS.up g1 R1, q1.step (RS.up g1 R1) fun y M2 F2 H2 vo _ g2 R2 ro q2 => ?_⟩
    have RS2 := (RS.up g1 R1).up g2 R2
    split at q2
    · rename_i M4 h4
      unfold dPutF at h4
      split at h4
      · cases ro with | ref hn =>
        split at h4
        · rename_i c ns ds hd
          split at h4
          · rename_i hc
            cases h4
            obtain ⟨oo, e1, r1⟩ := R2.obj _ _ _ hn hd
            cases r1 with | ob hl r1 =>
            rename_i dx vs
            refine ⟨_, _, dx, _, rfl, e1, hC.cl c hc.1, hC.na c hc.1, ?_, ?_⟩
            · rw [List.length_zip, ← hl, Nat.min_self]; omega
            · obtain ⟨us, u1, u2, u3⟩ := putN_rep (f := f) (rx.mono g2 R1.good) hl r1
              obtain ⟨g3, R3⟩ := R2.put (o := .ins (g.ca c) dx (putF f vx (ns.zip vs))) (m := .ob c (putN f x ns ds).1 (putN f x ns ds).2) hn trivial fun H' gr => by
                rw [u1]; exact .ob u2 (u3.mono gr R2.good)
              exact q2 F2 _ σ g3 R3 (RS2.up g3 R3).e RS2.x
          · cases h4
        · cases h4
      · cases h4
    · exact q2.elim
end

/-! ### calls of methods, of classes; what is raised is wished for at the caller's slots -/
def tMethS (C : Addr) (m : Str) (sp : Sp) (E : L2.St → XK) (ta : TE) (t : TA) : TE := fun σ H Q => ta σ H fun x H1 => ∃ a dx fs, x = .ref a ∧ H1 a = some (.ins C dx fs) ∧ fs.lookup m = none ∧ t σ H1 fun vs H2 => sp (x :: vs) H2 Q (E σ)
def tMakeS (C : Addr) (sp : Sp) (E : L2.St → XK) (t : TA) : TE := fun σ H Q => t σ H fun vs H1 => ∀ x dx, H1 x = none → H1 dx = none → dx ≠ x →
  sp (.ref x :: vs) (upd (upd H1 dx (.own x)) x (.ins C dx [])) (fun v H2 => v = .non ∧ Q (.ref x) H2) (E σ)
section
variable {X : Cx} {CX : CXT} {k : Nat} {f C : Addr} {fd : FuncData} {ps : List Str} {sp : Sp} {E : L2.St → XK} {x m : Str} {p pos apos : Pos} {e o : Expr} {es : List Expr} {ta : TE} {t : TA}
theorem pe_methS {pl : Sem Bool} (he : PE X o ta) (c : Cls X.K C) (hm : Meth X.K C m f) (G : FnOk X.prog X.w X.K X.mg X.base CX k f fd ps sp) (hr : Room k X.A) (hb : Binds X.K fd ps []) (hx : ∀ σ, PassesAt CX X σ (E σ)) (ha : PA X (e :: es) t)
    (hst : starEach (e :: es) X.env = (false, eval e X.env) :: starEach es X.env) (hpl : (backTo pos (starEach es X.env)).any (·.1) = false)
    (ht : eval (.Call (.Attribute o m apos) (e :: es) [] pos) X.env = (do let ov ← eval o X.env; standAt apos.atName; let (f, first) ← holding [ov] (getMethod ov m pl); callWith pos f first (backTo pos (starEach (e :: es) X.env)) (backToKw pos (keywordEach [] X.env)))) :
    PE X (.Call (.Attribute o m apos) (e :: es) [] pos) (tMethS C m sp E ta t) := by
  refine ⟨fun pins s σ H Q I h => PySem.W.methodCall_KW (pl := pl) (thn (he.run pins s σ H _ I h) ?_) ht⟩
  rintro u s1 ⟨y, H1, I1, rx, a, dx, fs, rfl, ea, l, q⟩
  obtain rfl : u = Value.ref a := rx
  refine getmeth_ok I1 ea c hm l (PySem.W.callWith_K (first := [.ref a]) (h₀ := X.base) I.ok.mod.kin hm.kp (thn (ha.run pos pins s1 σ H1 _ I1 q) ?_) hst hpl)
  rintro us s2 ⟨vs, H2, I2, r, q2⟩
  exact ⟨I2.kIn, run_fnSD (dvs := []) (ds := []) (us := .ref a :: us) (vs := .ref a :: vs) G hr hb .nil (hx σ) I2 (.cons rfl r) (by simpa using q2)⟩
theorem run_makeS {pins : List (Addr × Obj)} {σ : L2.St} {H : Hp} {s : Shared} {Q : VK} {us : List Value} {vs : List V} (Mc : Mk X.K C f) (G : FnOk X.prog X.w X.K X.mg X.base CX k f fd ps sp) (hr : Room (k + 1) X.A) (hb : Binds X.K fd ps [])
    (hx : PassesAt CX X σ (E σ)) (I : Inv X pins σ H s) (r : Vals vs us)
    (h : ∀ x dx, H x = none → H dx = none → dx ≠ x → sp (.ref x :: vs) (upd (upd H dx (.own x)) x (.ins C dx [])) (fun v H2 => v = .non ∧ Q (.ref x) H2) (E σ)) :
    wpAny (model X.prog X.w) X.A (call (.ref C) us) (EP X pins σ Q) X.xe s := by
  have hq := h (s.heap.objs.size + 1) s.heap.objs.size (I.hok.fresh (Nat.le_succ _)) (I.hok.fresh (Nat.le_refl _)) (Nat.ne_of_lt (Nat.lt_succ_self _))
  have I2 := Inv.made (C := C) I
  have r2 : Vals (V.ref (s.heap.objs.size + 1) :: vs) (Value.ref (s.heap.objs.size + 1) :: us) := .cons rfl r
  have hl : (Value.ref (s.heap.objs.size + 1) :: us).length = ps.length := by rw [← r2.length]; exact G.len _ _ _ _ hq
  have hbd := hb _ (Value.ref (s.heap.objs.size + 1) :: us) I2.kIn (by simpa using hl)
  rw [List.append_nil] at hbd
  refine wpAny_call (make_map (f := f) I.kIn Mc.makes Mc.init (beq_iff_eq.mp Mc.fn) (codeAny_mono (G.run _ X.stack _ _ ⟨Value.ref (s.heap.objs.size + 1) :: us, []⟩ _ _ _ (E σ) (hr.make C us []) (I2.env0.make C us []) hbd r2 hq) ?_))
  intro r s' hq'
  cases r with
  | error e => exact hx pins _ _ e s' I2 hq'
  | ok fl =>
    cases fl with
    | ret u => obtain ⟨v, H', I3, rv, ev, q3⟩ := I2.after hq'; subst ev; exact ⟨rv, V.ref (s.heap.objs.size + 1), H', I3, rfl, q3⟩
    | next => exact hq'.elim
    | brk => exact hq'.elim
    | cont => exact hq'.elim
theorem pe_makeS (Mc : Mk X.K C f) (G : FnOk X.prog X.w X.K X.mg X.base CX k f fd ps sp) (hr : Room (k + 1) X.A) (hm : X.mg x = some (.ref C)) (hb : Binds X.K fd ps []) (hx : ∀ σ, PassesAt CX X σ (E σ)) (ha : PA X (e :: es) t) (hg : Gl X x) (hdb : (x == ("__debug__" : Str)) = false)
    (he : starEach (e :: es) X.env = (false, eval e X.env) :: starEach es X.env) (hpl : (backTo pos (starEach es X.env)).any (·.1) = false) : PE X (.Call (.Name x p) (e :: es) [] pos) (tMakeS C sp E t) := by
  refine ⟨fun pins s σ H Q I h => wpAny_Call_Name_kw (ld_glob I hg hm (PySem.W.callWith_K (h₀ := X.base) I.ok.mod.kin Mc.kp (thn (ha.run pos pins s σ H _ I h) ?_) he hpl) hdb)⟩
  rintro us s1 ⟨vs, H1, I1, r, q⟩
  exact ⟨I1.kIn, run_makeS Mc G hr hb (hx σ) I1 r q⟩
end

/-! ### .. over trees -/
/-- o.m(..): o an instance of the class c that has no field m -/
def eMeth (c : Nat) (m : Str) (n : Nat) (f : List D → MH → Res D) (mo : EM) (ma : AM) : EM := fun e M => (mo e M).bind fun x M1 => match instOf M1 x with
  | some (c', ns, _) => if c' = c ∧ m ∉ ns then (ma e M1).bind fun ds M2 => if ds.length + 1 = n then f (x :: ds) M2 else .bad else .bad
  | none => .bad
/-- C(..), an instance that may change -/
def eMake (c n : Nat) (f : List D → MH → Res D) (ma : AM) : EM := fun e M => (ma e M).bind fun ds M1 => if ds.length + 1 = n then (f (.ref M1.length :: ds) (M1 ++ [.ob c [] []])).bind fun r M2 => match r with
  | .non => .ok (.ref M1.length) M2
  | _ => .bad else .bad
/-- C(..), an instance that never changes -/
def eMakeF (c : Nat) (fs : List Str) (ma : AM) : EM := eArgs (fun ds M => if ds.length = fs.length then .ok (.ins c fs ds) M else .bad) ma
section
variable {X : Cx} {g : Wd} {W : WY} {a b o : Expr} {pos p apos : Pos} {m1 m2 : EM} {ma : AM} {es : List Expr} {k n : Nat} {f C : Addr} {fd : FuncData} {ps : List Str} {m : List D → MH → Res D} {x mn : Str} {c : Nat}
theorem meth_imp {σ : L2.St} {H : Hp} {Q : VK} {t : TA} (ht : ∀ σ H Q, tA g W ma σ H Q → t σ H Q) (q : tD g W (eMeth c mn n m m1 ma) σ H Q) : tMethS (g.ca c) mn (spD g n m) (WE W.w) (tD g W m1) t σ H Q := by
  obtain ⟨F, e, M, RS, q⟩ := q
  refine ⟨F, e, M, RS, q.bind fun y M1 F1 H1 v e1 g1 R1 rx q1 => ?_⟩
  split at q1
  · rename_i c' ns xs hi
    split at q1
    · rename_i hc
      obtain ⟨rfl, hn⟩ := hc
      obtain ⟨ad, dx, vs, rfl, ha, hl, r⟩ := inst_at R1 rx hi
      refine ⟨ad, dx, _, rfl, ha, field_none hn, ht _ _ _ ⟨F1, e, M1, RS.up g1 R1, q1.bind fun ds M2 F2 H2 us e2 g2 R2 rs q2 => ?_⟩⟩
      split at q2
      · rename_i hlen
        exact ⟨by simp [← rs.length, hlen], F2, M2, y :: ds, R2, .cons (rx.mono g2 R1.good) rs, post_call q2⟩
      · exact q2.elim
    · exact q1.elim
  · exact q1.elim
theorem de_meth {pl : Sem Bool} (ho : PE X o (tD g W m1)) (cl : Cls X.K (g.ca c)) (hm : Meth X.K (g.ca c) mn f) (G : FnOk X.prog X.w X.K X.mg X.base (L2N.CX X.prog X.w) k f fd ps (spD g n m)) (hr : Room k X.A) (tk : L2N.Takes X W.w) (hb : Binds X.K fd ps []) (ha : PA X (a :: es) (tA g W ma))
    (hst : starEach (a :: es) X.env = (false, eval a X.env) :: starEach es X.env := by rfl) (hpl : (backTo pos (starEach es X.env)).any (·.1) = false := by rfl)
    (ht : eval (.Call (.Attribute o mn apos) (a :: es) [] pos) X.env = (do let ov ← eval o X.env; standAt apos.atName; let (f, first) ← holding [ov] (getMethod ov mn pl); callWith pos f first (backTo pos (starEach (a :: es) X.env)) (backToKw pos (keywordEach [] X.env))) := by rfl) :
    PE X (.Call (.Attribute o mn apos) (a :: es) [] pos) (tD g W (eMeth c mn n m m1 ma)) :=
  pe_imp (pe_methS ho cl hm G hr hb (fun σ => L2N.passAt tk σ) ha hst hpl ht) fun σ H Q q => meth_imp (fun _ _ _ h => h) q
theorem make_imp {σ : L2.St} {H : Hp} {Q : VK} {t : TA} (ht : ∀ σ H Q, tA g W ma σ H Q → t σ H Q) (q : tD g W (eMake c n m ma) σ H Q) : tMakeS (g.ca c) (spD g n m) (WE W.w) t σ H Q := by
  obtain ⟨F, e, M, RS, q⟩ := q
  refine ht _ _ _ ⟨F, e, M, RS, q.bind fun ds M1 F1 H1 vs e1 g1 R1 rs q1 x dx hx hdx hne => ?_⟩
  split at q1
  · rename_i hl
    obtain ⟨g2, R2⟩ := R1.still (o := .own x) hdx
    have hx2 : upd H1 dx (.own x) x = none := by rw [upd_ne (Ne.symm hne)]; exact hx
    obtain ⟨g3, R3⟩ := R2.laid (m := .ob c [] []) (o := .ins (g.ca c) dx []) hx2 fun F' H' gr => .ob (vs := []) rfl .nil
    have gr := g2.trans g3
    refine ⟨by simp [← rs.length, hl], F1 ++ [x], M1 ++ [.ob c [] []], .ref M1.length :: ds, R3, .cons (.ref (by rw [← R1.len]; simp)) (rs.mono gr R1.good), ?_⟩
    refine (post_call (q1.up gr)).bind fun d M4 F4 H4 v e4 g4 R4 rv q4 => ?_
    cases d with
    | non =>
      cases rv
      refine ⟨rfl, q4.here R4 (.ref (pre_get g4.pre (by rw [← R1.len]; simp)))⟩
    | _ => exact q4.elim
  · exact q1.elim
theorem de_make (Mc : Mk X.K (g.ca c) f) (G : FnOk X.prog X.w X.K X.mg X.base (L2N.CX X.prog X.w) k f fd ps (spD g n m)) (hr : Room (k + 1) X.A) (tk : L2N.Takes X W.w) (hm : X.mg x = some (.ref (g.ca c))) (hb : Binds X.K fd ps []) (ha : PA X (a :: es) (tA g W ma)) (hg : Gl X x := by rfl)
    (hdb : (x == ("__debug__" : Str)) = false := by decide) (he : starEach (a :: es) X.env = (false, eval a X.env) :: starEach es X.env := by rfl) (hpl : (backTo pos (starEach es X.env)).any (·.1) = false := by rfl) :
    PE X (.Call (.Name x p) (a :: es) [] pos) (tD g W (eMake c n m ma)) := pe_imp (pe_makeS Mc G hr hm hb (fun σ => L2N.passAt tk σ) ha hg hdb he hpl) fun σ H Q q => make_imp (fun _ _ _ h => h) q
end
end T2
namespace T2
open PySem L2

/-! ### flat values, membership -/
def vOf : D → V
  | .bl b => .bl b
  | .int i => .int i
  | .str x => .str x
  | _ => .non
def flatD : D → Bool
  | .non => true
  | .bl _ => true
  | .int _ => true
  | .str _ => true
  | _ => false
theorem flat_rep {g : Wd} {F : List Addr} {H : Hp} {d : D} {v : V} (r : Rep g F H d v) (h : flatD d = true) : v = vOf d ∧ flatV v = true := by cases r <;> first | exact ⟨rfl, rfl⟩ | cases h
theorem flats_rep {g : Wd} {F : List Addr} {H : Hp} : ∀ {ds : List D} {vs : List V}, Reps g F H ds vs → ds.all flatD = true → vs = ds.map vOf ∧ vs.all flatV = true
  | _, _, .nil, _ => ⟨rfl, rfl⟩
  | _, _, .cons r t, h => by
    rw [List.all_cons, Bool.and_eq_true] at h
    obtain ⟨h1, h2⟩ := flat_rep r h.1
    obtain ⟨h3, h4⟩ := flats_rep t h.2
    exact ⟨by rw [h1, h3]; rfl, by rw [List.all_cons, h2, h4]; rfl⟩
def memD (x : D) (ys : List D) : Bool := inV (vOf x) (ys.map vOf)
/-- x in y: flat items; a sign in a text -/
def inRes (x y : D) (M : MH) : Option Bool := match y with
  | .str z => match x with
    | .str w => match w.cps.toList with
      | [c] => some (decide (c ∈ z.cps.toList))
      | _ => none
    | _ => none
  | y => match items M y with
    | some ds => if flatD x = true ∧ ds.all flatD = true then some (memD x ds) else none
    | none => none
def dIn (x y : D) (M : MH) : Res D := match inRes x y M with
  | some b => .ok (.bl b) M
  | none => .bad
def dNotIn (x y : D) (M : MH) : Res D := match inRes x y M with
  | some b => .ok (.bl (!b)) M
  | none => .bad
def rInA (K : PySem.W.Frag) : R2 := fun x y H Q => rIn K false x y H Q ∨ ∃ (c : Nat) (z : Str), x = .str ⟨#[c]⟩ ∧ y = .str z ∧ Q (.bl (decide (c ∈ z.cps.toList))) H
def rNotInA (K : PySem.W.Frag) : R2 := fun x y H Q => rIn K true x y H Q ∨ ∃ (c : Nat) (z : Str), x = .str ⟨#[c]⟩ ∧ y = .str z ∧ Q (.bl (!decide (c ∈ z.cps.toList))) H
theorem op_inA {X : Cx} : OpR X (compareOp .In) (rInA X.K) := op_in_seq.or op_in_sign
theorem op_notInA {X : Cx} : OpR X (compareOp .NotIn) (rNotInA X.K) := op_notIn_seq.or op_notIn_sign
theorem in_at {g : Wd} {F : List Addr} {M : MH} {H : Hp} {x y : D} {v w : V} {b : Bool} (R : RelM g F M H) (rx : Rep g F H x v) (ry : Rep g F H y w) (h : inRes x y M = some b) :
    (∃ p vs, w = .ref p ∧ (SqL g.K H p vs ∨ SqT g.K H p vs) ∧ flatV v = true ∧ vs.all flatV = true ∧ inV v vs = b) ∨ ∃ (c : Nat) (z : Str), v = .str ⟨#[c]⟩ ∧ w = .str z ∧ decide (c ∈ z.cps.toList) = b := by
  have key : ∀ ds, items M y = some ds → (if flatD x = true ∧ ds.all flatD = true then some (memD x ds) else none) = some b → ∃ p vs, w = .ref p ∧ (SqL g.K H p vs ∨ SqT g.K H p vs) ∧ flatV v = true ∧ vs.all flatV = true ∧ inV v vs = b := fun ds hd h => by
    split at h
    · rename_i hf
      cases h
      obtain ⟨p, vs, rfl, hs, r⟩ := items_at R ry hd
      obtain ⟨h1, h2⟩ := flat_rep rx hf.1
      obtain ⟨h3, h4⟩ := flats_rep r hf.2
      exact ⟨p, vs, rfl, hs, h2, h4, by rw [h1, h3]; rfl⟩
    · cases h
  cases y with
  | str z =>
    cases x with
    | str u =>
      dsimp only [inRes] at h
      split at h
      · rename_i c hc
        cases h; cases rx; cases ry
        refine .inr ⟨c, z, ?_, rfl, rfl⟩
        obtain ⟨arr⟩ := u
        have : arr = #[c] := by
          have h2 : arr.toList = [c] := hc
          rw [← Array.toList_inj, h2]
        rw [this]
      · cases h
    | _ => cases h
  | _ =>
    dsimp only [inRes] at h
    split at h
    · rename_i ds hd
      exact .inl (key ds hd h)
    · cases h
section
variable {X : Cx} {g : Wd} {W : WY} {a b c : Expr} {pos p : Pos} {m1 m2 m3 : EM} {ma : AM} {es : List Expr}
theorem sim_in (hK : g.K = X.K) : Sim2 g dIn (rInA X.K) := fun F M σ H W x y v w Q R rx ry q => by
  unfold dIn at q
  split at q
  · rename_i bb hb
    rcases in_at R rx ry hb with ⟨ad, vs, rfl, hs, f1, f2, e⟩ | ⟨cc, z, rfl, rfl, e⟩
    · rw [hK] at hs; exact .inl ⟨ad, vs, rfl, hs, f1, f2, by simp only [Bool.false_eq_true, if_false]; rw [e]; exact q.here R (.bl _)⟩
    · exact .inr ⟨cc, z, rfl, rfl, by rw [e]; exact q.here R (.bl _)⟩
  · exact q.elim
theorem sim_notIn (hK : g.K = X.K) : Sim2 g dNotIn (rNotInA X.K) := fun F M σ H W x y v w Q R rx ry q => by
  unfold dNotIn at q
  split at q
  · rename_i bb hb
    rcases in_at R rx ry hb with ⟨ad, vs, rfl, hs, f1, f2, e⟩ | ⟨cc, z, rfl, rfl, e⟩
    · rw [hK] at hs; exact .inl ⟨ad, vs, rfl, hs, f1, f2, by simp only [if_true]; rw [e]; exact q.here R (.bl _)⟩
    · exact .inr ⟨cc, z, rfl, rfl, by rw [e]; exact q.here R (.bl _)⟩
  · exact q.elim
/-! ### a dict of the text with text keys -/
end
end T2
namespace T2
open PySem L2
section
variable {X : Cx} {g : Wd} {W : WY} {a b c : Expr} {pos p apos : Pos} {m1 m2 m3 : EM} {ma : AM} {es : List Expr}
/-! ### slices -/
abbrev OM := Env2 → MH → Res (Option Int)
def oNone : OM := fun _ M => .ok none M
def oSome (m : EM) : OM := fun e M => (m e M).bind fun d M1 => match d with
  | .int i => .ok (some i) M1
  | _ => .bad
abbrev rO : RAT (Option Int) (Option Int) := fun _ _ _ a b => a = b
abbrev tO (g : Wd) (W : WY) (m : OM) : TO := tG g rO W m
theorem po_imp {e : Option Expr} {t t' : TO} (h : PO X e t) (i : ∀ σ H Q, t' σ H Q → t σ H Q) : PO X e t' := ⟨fun pins s σ H Q I q => h.run pins s σ H Q I (i σ H Q q)⟩
theorem do_none : PO X none (tO g W oNone) := po_imp po_none fun σ H Q ⟨F, e, M, RS, q⟩ => q.here RS.m rfl
theorem do_some (ha : PE X a (tD g W m1)) : PO X (some a) (tO g W (oSome m1)) := po_imp (po_some ha) fun σ H Q ⟨F, e, M, RS, q⟩ => ⟨F, e, M, RS, q.bind fun x M1 F1 H1 v e1 g1 R1 rx q1 => by
  cases rx with
  | int i => exact ⟨i, rfl, q1.here R1 rfl⟩
  | _ => exact q1.elim⟩
def dSl (mk : List D → MH → Res D) (x : D) (lo hi : Option Int) (M : MH) : Res D := match x with
  | .str z => if z.length ≤ big then .ok (.str (cutS z lo hi)) M else .bad
  | .tup ds => .ok (.tup (cutD ds lo hi)) M
  | x => match items M x with
    | some ds => mk (cutD ds lo hi) M
    | none => .bad
def eSl (mk : List D → MH → Res D) (m : EM) (l h : OM) : EM := fun e M => (m e M).bind fun x M1 => (l e M1).bind fun lo M2 => (h e M2).bind fun hi M3 => dSl mk x lo hi M3
/-- a new list -/
def MkOk (g : Wd) (mk : List D → MH → Res D) : Prop := ∀ (W : WX) (F : List Addr) (M : MH) (H : Hp) (σ : L2.St) (Q : VK) (ds : List D) (vs : List V) (p : Addr), RelM g F M H → Reps g F H ds vs → post g rD W F σ H (mk ds M) Q → H p = none → Q (.ref p) (upd H p (.lst vs))
theorem mkL_ok : MkOk g mkL := fun W F M H σ Q ds vs p R r q hp => mkL_post R r q hp
theorem mkF_ok : MkOk g mkF := fun W F M H σ Q ds vs p R r q hp => mkF_post R r q hp
def rSlAll (K : PySem.W.Frag) : V → Option Int → Option Int → Hp → VK → Prop := fun x lo hi H Q => rSlS x lo hi H Q ∨ rSlA K x lo hi H Q ∨ rSlL K x lo hi H Q
theorem sl_all : SlR X (rSlAll X.K) := sl_str.or (sl_tupA.or sl_list)
theorem cut_rep {F : List Addr} {H : Hp} {ds : List D} {vs : List V} (r : Reps g F H ds vs) (lo hi : Option Int) : Reps g F H (cutD ds lo hi) (cutV vs lo hi) := by
  unfold cutD cutV
  rw [r.length]
  exact (r.drop _).take _
theorem cut_whole {ds : List D} {lo hi : Option Int} (h : HT.sIx ds.length 0 lo = 0 ∧ HT.sIx ds.length ds.length hi = ds.length) : cutD ds lo hi = ds := by
  unfold cutD
  rw [h.1, h.2]; simp
theorem de_sl {lo hi : Option Expr} {l h : OM} {mk : List D → MH → Res D} {p2 : Pos} (hK : g.K = X.K) (hmk : MkOk g mk) (ha : PE X a (tD g W m1)) (hl : PO X lo (tO g W l)) (hh : PO X hi (tO g W h)) : PE X (.Subscript a (.Slice lo hi none p2) pos) (tD g W (eSl mk m1 l h)) :=
  pe_imp (pe_slice sl_all ha hl hh) fun σ H Q ⟨F, e, M, RS, q⟩ => ⟨F, e, M, RS, q.bind fun x M1 F1 H1 v e1 g1 R1 rx q1 =>
    ⟨F1, e, M1, RS.up g1 R1, q1.bind fun l0 M2 F2 H2 l1 e2 g2 R2 rl q2 => by
      cases rl
      refine ⟨F2, e, M2, (RS.up g1 R1).up g2 R2, q2.bind fun h0 M3 F3 H3 h1 e3 g3 R3 rh q3 => ?_⟩
      cases rh
      have r3 := (rx.mono g2 R1.good).mono g3 R2.good
      have key : ∀ ds, items M3 x = some ds → (∀ zs, x ≠ .tup zs) → post g rD W.w F3 σ H3 (mk (cutD ds l0 h0) M3) Q → rSlAll X.K v l0 h0 H3 Q := fun ds hd hx q4 => by
        cases r3 with
        | tup => exact absurd rfl (hx _)
        | fro h1 r1 => cases hd; exact .inr (.inr ⟨_, _, rfl, by rw [← hK]; exact h1.sq, fun p hp => hmk W.w F3 M3 H3 σ Q _ _ p R3 (cut_rep r1 _ _) q4 hp⟩)
        | ref h1 =>
          dsimp only [items] at hd
          split at hd
          · rename_i ds' hm
            cases hd
            obtain ⟨vs, hv, r⟩ := lst_at R3 h1 hm
            exact .inr (.inr ⟨_, vs, rfl, SqL.of hv, fun p hp => hmk W.w F3 M3 H3 σ Q _ _ p R3 (cut_rep r _ _) q4 hp⟩)
          · cases hd
        | _ => cases hd
      cases x with
      | str z =>
        cases r3
        dsimp only [dSl] at q3
        split at q3
        · rename_i hz; exact .inl ⟨z, rfl, bigLine hz, q3.here R3 (.str _)⟩
        · exact q3.elim
      | tup ds =>
        cases r3 with | tup h1 r1 =>
        refine .inr (.inl ⟨_, _, rfl, by rw [← hK]; exact h1, fun hw => ?_, fun hw p hp => ?_⟩)
        · rw [← r1.length] at hw
          dsimp only [dSl] at q3
          rw [cut_whole hw] at q3
          exact q3.here R3 (.tup h1 r1)
        · exact tup_post R3 (cut_rep r1 l0 h0) q3 hp
      | _ =>
        dsimp only [dSl] at q3
        split at q3
        · rename_i ds hd; exact key ds hd (by intro zs z; cases z) q3
        · exact q3.elim⟩⟩

/-! ### further operations -/
/-- a op b op' c, the answers bools -/
def eChain (f f' : D → D → MH → Res D) (m1 m2 m3 : EM) : EM := fun e M => (m1 e M).bind fun x M1 => (m2 e M1).bind fun y M2 => (f x y M2).bind fun r M3 => match r with
  | .bl true => (m3 e M3).bind fun z M4 => f' y z M4
  | .bl false => .ok (.bl false) M3
  | _ => .bad
/-- xs.append(e) -/
def eApp (mo ma : EM) : EM := fun e M => (mo e M).bind fun x M1 => match x with
  | .ref n => match M1[n]? with
    | some (.lst _) => (ma e M1).bind fun y M2 => match M2[n]? with
      | some (.lst ds) => if ds.length < big then .ok .non (M2.set n (.lst (ds ++ [y]))) else .bad
      | _ => .bad
    | _ => .bad
  | _ => .bad
theorem de_app {o : Expr} (ho : PE X o (tD g W m1)) (ha : PE X a (tD g W m2)) (hst : starEach [a] X.env = (false, eval a X.env) :: starEach [] X.env := by rfl)
    (hpe : ∀ {to : TE} {t : TA}, PE X o to → PA X [a] t → PE X (.Call (.Attribute o "append" apos) [a] [] pos) (tBM X.K "list" rAppend to t) := by intro _ _ h1 h2; exact pe_bm PySem.F.plainAttrs_list PySem.F.slot_list_append PySem.F.type_list_append mt_append h1 h2) :
    PE X (.Call (.Attribute o "append" apos) [a] [] pos) (tD g W (eApp m1 m2)) :=
  pe_imp (hpe ho (de_cons ha de_nil hst)) fun σ H Q ⟨F, e, M, RS, q⟩ => ⟨F, e, M, RS, q.bind fun x M1 F1 H1 v e1 g1 R1 rx q1 => by
    cases x with
    | ref n =>
      cases rx with | ref hn =>
      dsimp only at q1
      split at q1
      · rename_i ds0 hd0
        obtain ⟨vs0, hv0, r0⟩ := lst_at R1 hn hd0
        refine ⟨.inl ⟨rfl, vs0, SqL.of hv0⟩, F1, e, M1, RS.up g1 R1, ?_⟩
        unfold eCons eNil
        refine (?_ : post g rDs W.w F1 σ H1 ((m2 e M1).bind fun x M1 => .ok [x] M1) _)
        cases h2 : m2 e M1 with
        | ok y M2 =>
          rw [h2] at q1
          intro F2 H2 us g2 R2 r2
          obtain ⟨u, rfl, ru⟩ := one_rep r2
          have hn2 := pre_get g2.pre hn
          dsimp only [Res.bind] at q1
          split at q1
          · rename_i ds hd
            obtain ⟨vs, hv, r⟩ := lst_at R2 hn2 hd
            split at q1
            · rename_i hl
              refine ⟨_, vs, u, rfl, rfl, hv, by rw [← r.length]; exact Nat.lt_of_lt_of_le hl (by decide), ?_⟩
              obtain ⟨g3, R3⟩ := R2.put (o := .lst (vs ++ [u])) (m := .lst (ds ++ [y])) hn2 trivial fun H' gr => .lst ((r.mono gr R2.good).append (.cons (ru.mono gr R2.good) .nil))
              exact (q1.up g2).ok g3 R3 .non
            · exact q1.elim
          · exact q1.elim
        | exc c ns ds M2 => rw [h2] at q1; exact q1
        | bad => rw [h2] at q1; exact q1.elim
      · exact q1.elim
    | _ => exact q1.elim⟩
end
end T2
namespace T2
open PySem L2

/-! ### isinstance -/
abbrev Tg := Sum String Nat
def tagOf (M : MH) : D → Option Tg
  | .non => some (.inl "NoneType")
  | .bl _ => some (.inl "bool")
  | .int _ => some (.inl "int")
  | .str _ => some (.inl "str")
  | .tup _ => some (.inl "tuple")
  | .fro _ => some (.inl "list")
  | .ins c _ _ => some (.inr c)
  | .ref n => match M[n]? with
    | some (.lst _) => some (.inl "list")
    | some (.dk _ _) => some (.inl "dict")
    | some (.dt _ _) => some (.inl "dict")
    | some (.ob c _ _) => some (.inr c)
    | _ => none
  | _ => none
def clsTag : D → Option Tg
  | .ty n => some (.inl n)
  | .cls c => some (.inr c)
  | _ => none
def dIsi (isi : Tg → Tg → Option Bool) (ds : List D) (M : MH) : Res D := match ds with
  | [x, c] => match tagOf M x, clsTag c with
    | some t, some u => (match isi t u with
      | some b => .ok (.bl b) M
      | none => .bad)
    | _, _ => .bad
  | _ => .bad
def tagV (g : Wd) : Tg → Value
  | .inl n => .type n
  | .inr c => .ref (g.ca c)
structure ClsI (K : PySem.W.Frag) (C : Addr) : Prop where
  cl : Cls K C
  ha : PySem.W.findIn K (.ref C) "__class__" = some (some (.builtin "object.__class__"))
  hn : PySem.W.specialIn K (.builtin "object.__class__") "__get__" = some (some (.builtin "getset_descriptor.__get__"))
  ht : PySem.W.takesIn K (.builtin "object.__class__") = some true
  hm : PySem.W.mroIn K C (.type "object") = some true
structure IsiOk (g : Wd) (isi : Tg → Tg → Option Bool) : Prop where
  kit : ∀ t c b, isi t c = some b → PySem.W.kitOne g.K (tagV g t) (tagV g c) = some b
  own : ∀ c t b, isi (.inr c) t = some b → ClsI g.K (g.ca c)
section
variable {X : Cx} {g : Wd} {W : WY} {a b c : Expr} {pos p apos : Pos} {m1 m2 m3 : EM} {ma : AM} {es : List Expr}
theorem tag_ty {isi : Tg → Tg → Option Bool} (I : IsiOk g isi) {F : List Addr} {M : MH} {H : Hp} {x : D} {v : V} {t u : Tg} {bb : Bool} (R : RelM g F M H) (r : Rep g F H x v) (h : tagOf M x = some t) (hi : isi t u = some bb) : TyX g.K H v (tagV g t) := by
  cases r with
  | non => cases h; exact .base .non
  | bl => cases h; exact .base (.bl _)
  | int => cases h; exact .base (.int _)
  | str => cases h; exact .base (.str _)
  | ty => cases h
  | cls => cases h
  | obj => cases h
  | tk => cases h
  | tup h1 r1 =>
    cases h
    rcases h1 with (h1 | ⟨o, h1⟩) | ⟨o, its, n, h1, h2, _⟩
    · exact .base (.tup h1)
    · exact .fTuple h1
    · exact .kTuple h1 h2
  | fro h1 r1 =>
    cases h
    rcases h1 with ⟨h1, _⟩ | ⟨o, h1⟩ | ⟨o, its, n, h1, h2, _⟩
    · exact .base (.lst h1)
    · exact .base (.frz h1)
    · exact .kList h1 h2
  | ins h1 h2 h3 r1 =>
    cases h
    have C := I.own _ _ _ hi
    exact .base (.ins h1 C.cl C.ha C.hn C.ht C.hm)
  | ref hn =>
    dsimp only [tagOf] at h
    split at h
    · rename_i hm; cases h; obtain ⟨o, e, ro⟩ := R.obj _ _ _ hn hm; cases ro; exact .base (.lst e)
    · rename_i hm; cases h; obtain ⟨o, e, ro⟩ := R.obj _ _ _ hn hm; cases ro; exact .base (.dK e)
    · rename_i hm; cases h; obtain ⟨o, e, ro⟩ := R.obj _ _ _ hn hm; cases ro; exact .base (.dT e)
    · rename_i hm; cases h; obtain ⟨o, e, ro⟩ := R.obj _ _ _ hn hm; cases ro
      have C := I.own _ _ _ hi
      exact .base (.ins e C.cl C.ha C.hn C.ht C.hm)
    · cases h
theorem sim_isi {isi : Tg → Tg → Option Bool} (I : IsiOk g isi) (hK : g.K = X.K) : SimA g (dIsi isi) (rIsi X.K) := fun F M σ H W ds vs Q R r q => by
  unfold dIsi at q
  split at q
  · rename_i x cc
    obtain ⟨v, w, rfl, rv, rw⟩ := two_rep r
    split at q
    · rename_i t u h1 h2
      split at q
      · rename_i bb hb
        have ty := tag_ty I R rv h1 hb
        have kt := I.kit _ _ _ hb
        rw [hK] at ty kt
        refine ⟨v, w, tagV g t, tagV g u, bb, rfl, ?_, ty, kt, q.here R (.bl _)⟩
        cases rw with
        | ty n => cases h2; exact .ty n
        | cls n => cases h2; exact .own _
        | _ => cases h2
      · exact q.elim
    · exact q.elim
  · exact q.elim
theorem de_isi {isi : Tg → Tg → Option Bool} (I : IsiOk g isi) (hK : g.K = X.K) (ha : PA X (a :: es) (tA g W ma)) (hm : X.mg "isinstance" = none) (hg : Gl X "isinstance" := by rfl) (he : starEach (a :: es) X.env = (false, eval a X.env) :: starEach es X.env := by rfl)
    (hpl : (backTo pos (starEach es X.env)).any (·.1) = false := by rfl) : PE X (.Call (.Name "isinstance" p) (a :: es) [] pos) (tD g W (eArgs (dIsi isi) ma)) := de_callB call_isi (sim_isi I hK) hm (by decide +kernel) ha hg (by decide) (by decide) he hpl
end

/-! ### list comprehensions (one clause) -/
def wipe2 (e : Env2) : List Nat → Env2
  | [] => e
  | v :: vs => (wipe2 e vs).set v none
theorem wipe_rep {g : Wd} {F : List Addr} {H : Hp} {e : Env2} {σ : L2.St} (r : EnvR g F H e σ) : ∀ vs : List Nat, EnvR g F H (wipe2 e vs) (wipe σ vs)
  | [] => r
  | v :: vs => (wipe_rep r vs).unset v none
/-- what is raised within a comprehension is not spoken of -/
def noX {A : Type} (r : Res A) : Res A := match r with
  | .exc _ _ _ _ => .bad
  | r => r
def lcStep (tg : TgM) (tt : BM) (m : EM) (e : Env2) (x : D) (M : MH) : Res (Option D) := match tg x e with
  | none => .bad
  | some e1 => (noX (tt e1 M)).bind fun b M1 => if b = true then (noX (m e1 M1)).bind fun y M2 => .ok (some y) M2 else .ok none M1
/-- y goes behind the list at n -/
def pushAt (n : Nat) (o : Option D) (M : MH) : Option MH := match o with
  | none => some M
  | some y => match M[n]? with
    | some (.lst acc) => if acc.length < big then some (M.set n (.lst (acc ++ [y]))) else none
    | _ => none
def lcV (tg : TgM) (tt : BM) (m : EM) (e : Env2) (n : Nat) : List D → MH → Res D
  | [], M => .ok (.ref n) M
  | x :: xs, M => (lcStep tg tt m e x M).bind fun o M1 => match pushAt n o M1 with
    | some M2 => lcV tg tt m e n xs M2
    | none => .bad
def lcL (tg : TgM) (tt : BM) (m : EM) (e : Env2) (n s : Nat) : Nat → Nat → MH → Res D
  | 0, i, M => match M[s]? with
    | some (.lst ds) => if ds.length ≤ i then .ok (.ref n) M else .bad
    | _ => .bad
  | k + 1, i, M => match M[s]? with
    | some (.lst ds) => match ds[i]? with
      | none => .ok (.ref n) M
      | some x => (lcStep tg tt m e x M).bind fun o M1 => match pushAt n o M1 with
        | some M2 => lcL tg tt m e n s k (i + 1) M2
        | none => .bad
    | _ => .bad
/-- [m for .. in it if tt]: the list stands at its place from the start -/
def eLc (it : Env2 → MH → Res IV) (tg : TgM) (tt : BM) (m : EM) (vs : List Nat) : EM := fun e M => match it e M with
  | .ok (.vals ds) M1 => lcV tg tt m (wipe2 e vs) M1.length ds (M1 ++ [.lst []])
  | .ok (.live s) M1 => match M1[s]? with
    | some (.lst ds) => lcL tg tt m (wipe2 e vs) M1.length s ds.length 0 (M1 ++ [.lst []])
    | _ => .bad
  | .exc c ns ds M1 => .exc c ns ds M1
  | .bad => .bad
def bYes : BM := fun _ M => .ok true M
abbrev W0 : WY := ⟨fun _ _ _ _ => False, ⟨[], []⟩⟩
/-- the target's slots are the comprehension's own -/
def TgOwn (tg : TgM) (gt : TG) (vs : List Nat) : Prop := ∀ (v : V) (σ : L2.St) (H : Hp) (Q : L2.St → Hp → Prop), gt v (wipe σ vs) H Q → gt v (wipe σ vs) H fun σ2 H2 => wipe σ2 vs = wipe σ vs ∧ Q σ2 H2
theorem wipe_get (σ : L2.St) : ∀ (vs : List Nat) (i : Nat), i ∈ vs → ∀ x, (wipe (σ.set i x) vs) = wipe σ vs
  | [], _, h, _ => by simp at h
  | v :: vs, i, h, x => by
    unfold wipe
    by_cases hi : i ∈ vs
    · rw [wipe_get σ vs i hi x]
    · have : i = v := by simp at h; rcases h with h | h; exact h; exact absurd h hi
      subst this
      have key : ∀ (ws : List Nat) (y : Option V), i ∉ ws → wipe (σ.set i y) ws = (wipe σ ws).set i y := by
        intro ws y
        induction ws with
        | nil => intro _; rfl
        | cons w ws ih =>
          intro hn
          simp at hn
          unfold wipe
          rw [ih hn.2]
          exact List.set_comm _ _ hn.1
      rw [key vs x hi, List.set_set]
theorem wipe_wipe (σ : L2.St) : ∀ (vs ws : List Nat), (∀ i ∈ vs, i ∈ ws) → wipe (wipe σ vs) ws = wipe σ ws
  | [], ws, _ => rfl
  | v :: vs, ws, h => by
    show wipe ((wipe σ vs).set v none) ws = _
    rw [wipe_get _ ws v (h v (by simp)) none]
    exact wipe_wipe σ vs ws fun i hi => h i (by simp [hi])
theorem tgName_own (i : Nat) {vs : List Nat} (h : i ∈ vs) : TgOwn (tgName i) (gName i) vs := fun v σ H Q q => ⟨by
  rw [wipe_get _ vs i h]
  exact wipe_wipe σ vs vs fun _ z => z, q⟩
section
variable {X : Cx} {g : Wd} {W : WY} {pos : Pos} {m : EM} {tt : BM}
/-- one item of the comprehension -/
theorem lcStep_run {F : List Addr} {e : Env2} {M : MH} {σ : L2.St} {H : Hp} {x : D} {v : V} {tg : TgM} {gt : TG} {vs : List Nat} {n : Nat} {ad : Addr} {k : MH → Res D} {Q : VK} {Nx : Hp → Prop} {τ : L2.St}
    (RS : RelS g ⟨[], []⟩ F (wipe2 e vs) M (wipe σ vs) H) (ts : TgSim g tg gt) (ow : TgOwn tg gt vs) (r : Rep g F H x v) (hn : F[n]? = some ad)
    (q : post g rD W.w F τ H ((lcStep tg tt m (wipe2 e vs) x M).bind fun o M1 => match pushAt n o M1 with | some M2 => k M2 | none => .bad) Q)
    (f : ∀ M1 F1 H1, Grow F H F1 H1 → RelM g F1 M1 H1 → post g rD W.w F1 τ H1 (k M1) Q → Nx H1) :
    gt v (wipe σ vs) H fun σ2 H2 => wipe σ2 vs = wipe σ vs ∧ tB2 g W0 tt σ2 H2 fun b H3 => if b = true then tD g W0 m σ2 H3 fun y H4 => ∃ acc, H4 ad = some (.lst acc) ∧ acc.length < sizeLine ∧ Nx (upd H4 ad (.lst (acc ++ [y]))) else Nx H3 := by
  unfold lcStep at q
  cases ht : tg x (wipe2 e vs) with
  | none => rw [ht] at q; exact q.elim
  | some e1 =>
    rw [ht] at q
    dsimp only at q
    refine ow v σ H _ (ts F M _ e1 _ H x v _ RS.m RS.e r ht fun σ2 E2 => ?_)
    refine ⟨F, e1, M, ⟨RS.m, E2, pin_nil, xrs_nil⟩, ?_⟩
    cases hb : tt e1 M with
    | bad => rw [hb] at q; exact q.elim
    | exc c ns ds M1 => rw [hb] at q; exact q.elim
    | ok b M1 =>
      rw [hb] at q
      intro F1 H1 b' g1 R1 eb
      cases eb
      dsimp only [Res.bind, noX] at q
      have RS1 : RelS g ⟨[], []⟩ F1 e1 M1 σ2 H1 := RelS.up ⟨RS.m, E2, pin_nil, xrs_nil⟩ g1 R1
      cases b with
      | false => exact f M1 F1 H1 g1 R1 (q.up g1)
      | true =>
        refine ⟨F1, e1, M1, RS1, ?_⟩
        rw [if_pos rfl] at q
        cases hm : m e1 M1 with
        | bad => rw [hm] at q; exact q.elim
        | exc c ns ds M2 => rw [hm] at q; exact q.elim
        | ok y M2 =>
          rw [hm] at q
          intro F2 H2 u g2 R2 ru
          have hn2 : F2[n]? = some ad := pre_get g2.pre (pre_get g1.pre hn)
          have g12 := g1.trans g2
          dsimp only [Res.bind, pushAt, noX] at q
          cases hM : M2[n]? with
          | none => rw [hM] at q; exact q.elim
          | some o =>
            rw [hM] at q
            cases o with
            | lst acc =>
              dsimp only at q
              by_cases hl : acc.length < big
              · rw [if_pos hl] at q
                obtain ⟨us, hu, ra⟩ := lst_at R2 hn2 hM
                refine ⟨us, hu, by rw [← ra.length]; exact Nat.lt_of_lt_of_le hl (by decide), ?_⟩
                obtain ⟨g3, R3⟩ := R2.put (o := .lst (us ++ [u])) (m := .lst (acc ++ [y])) hn2 trivial fun H' gr => .lst ((ra.mono gr R2.good).append (.cons (ru.mono gr R2.good) .nil))
                exact f _ F2 _ (g12.trans g3) R3 (q.up (g12.trans g3))
              · rw [if_neg hl] at q; exact q.elim
            | _ => exact q.elim
theorem eLc_imp {it : Env2 → MH → Res IV} {wi : TI} {tg : TgM} {gt : TG} {vs : List Nat} (hsim : ItSim g W it wi) (ts : TgSim g tg gt) (ow : TgOwn tg gt vs) {σ : L2.St} {H : Hp} {Q : VK} (q : tD g W (eLc it tg tt m vs) σ H Q) : tLc wi gt (tB2 g W0 tt) (tD g W0 m) vs σ H Q := by
  obtain ⟨F, e, M, RS, q⟩ := q
  refine hsim σ H F e M _ RS ?_
  unfold eLc at q
  cases hi : it e M with
  | bad => rw [hi] at q; exact q
  | exc c ns ds M1 => rw [hi] at q; exact q
  | ok iv M1 =>
    rw [hi] at q
    cases iv with
    | vals ds =>
      intro F1 H1 J g1 R1 itv ad had
      obtain ⟨g2, R2⟩ := R1.laid (m := .lst []) (o := .lst []) had fun F' H' gr => .lst .nil
      have RS2 : RelS g W.p (F1 ++ [ad]) e (M1 ++ [.lst []]) σ (upd H1 ad (.lst [])) := (RS.up g1 R1).up g2 R2
      have hn0 : (F1 ++ [ad])[M1.length]? = some ad := by rw [← R1.len]; simp
      refine ⟨fun i k H' => i + k = ds.length ∧ ∃ F' M', Grow (F1 ++ [ad]) (upd H1 ad (.lst [])) F' H' ∧ RelM g F' M' H' ∧ post g rD W.w F' σ H' (lcV tg tt m (wipe2 e vs) M1.length (ds.drop i) M') Q, ⟨ds.length, by simp, F1 ++ [ad], M1 ++ [.lst []], .same, R2, by simpa using q.up (g1.trans g2)⟩, ?_⟩
      rintro i k H3 ⟨hk, F3, M3, g3, R3, q3⟩
      have hn3 : F3[M1.length]? = some ad := pre_get g3.pre hn0
      by_cases hlt : i < ds.length
      · refine .inr ⟨itv.go F3 H3 i (g2.trans g3) hlt, fun H' => ∃ F' M', Grow (F1 ++ [ad]) (upd H1 ad (.lst [])) F' H' ∧ RelM g F' M' H' ∧ post g rD W.w F' σ H' (lcV tg tt m (wipe2 e vs) M1.length (ds.drop (i + 1)) M') Q, fun H' z => ⟨k - 1, by omega, by omega, z⟩, fun x H4 hy => ?_⟩
        obtain ⟨hk4, d, hd, rd⟩ := itv.yld F3 H3 i x H4 (g2.trans g3) hlt hy
        obtain ⟨gk, Rk⟩ := R3.keep hk4
        replace q3 := q3.up gk
        replace g3 := g3.trans gk
        replace R3 := Rk
        rw [drop_cons' hd] at q3
        unfold lcV at q3
        have RS3 : RelS g ⟨[], []⟩ F3 (wipe2 e vs) M3 (wipe σ vs) H4 := ⟨R3, wipe_rep (RS2.up g3 R3).e vs, pin_nil, xrs_nil⟩
        exact lcStep_run RS3 ts ow rd hn3 q3 fun M5 F5 H5 g5 R5 q5 => ⟨F5, M5, g3.trans g5, R5, q5⟩
      · have hge : ds.length ≤ i := Nat.le_of_not_lt hlt
        rw [List.drop_eq_nil_of_le hge] at q3
        exact .inl ⟨itv.stop F3 H3 i (g2.trans g3) hge, q3.here R3 (.ref hn3)⟩
    | live sr =>
      dsimp only at q
      split at q
      · rename_i ds0 hd0
        refine ⟨ds0, hd0, fun F1 H1 as g1 R1 has ad had => ?_⟩
        obtain ⟨g2, R2⟩ := R1.laid (m := .lst []) (o := .lst []) had fun F' H' gr => .lst .nil
        have RS2 : RelS g W.p (F1 ++ [ad]) e (M1 ++ [.lst []]) σ (upd H1 ad (.lst [])) := (RS.up g1 R1).up g2 R2
        have hn0 : (F1 ++ [ad])[M1.length]? = some ad := by rw [← R1.len]; simp
        have hs0 : (F1 ++ [ad])[sr]? = some as := pre_get (List.prefix_append _ _) has
        refine ⟨fun i k H' => ∃ F' M', Grow (F1 ++ [ad]) (upd H1 ad (.lst [])) F' H' ∧ RelM g F' M' H' ∧ post g rD W.w F' σ H' (lcL tg tt m (wipe2 e vs) M1.length sr k i M') Q, ⟨ds0.length, F1 ++ [ad], M1 ++ [.lst []], .same, R2, q.up (g1.trans g2)⟩, ?_⟩
        rintro i k H3 ⟨F3, M3, g3, R3, q3⟩
        have hn3 : F3[M1.length]? = some ad := pre_get g3.pre hn0
        have hs3 : F3[sr]? = some as := pre_get g3.pre hs0
        cases k with
        | zero =>
          unfold lcL at q3
          split at q3
          · rename_i ds hd
            obtain ⟨us, hu, ru⟩ := lst_at R3 hs3 hd
            split at q3
            · rename_i hl
              exact .inl ⟨⟨us, SqL.of hu, by rw [← ru.length]; exact hl⟩, q3.here R3 (.ref hn3)⟩
            · exact q3.elim
          · exact q3.elim
        | succ k =>
          unfold lcL at q3
          split at q3
          · rename_i ds hd
            obtain ⟨us, hu, ru⟩ := lst_at R3 hs3 hd
            split at q3
            · rename_i hx
              exact .inl ⟨⟨us, SqL.of hu, by rw [← ru.length]; exact List.getElem?_eq_none_iff.mp hx⟩, q3.here R3 (.ref hn3)⟩
            · rename_i d hx
              obtain ⟨v, hv, rv⟩ := ru.get hx
              refine .inr ⟨⟨us, v, SqL.of hu, hv⟩, fun H' => ∃ F' M', Grow (F1 ++ [ad]) (upd H1 ad (.lst [])) F' H' ∧ RelM g F' M' H' ∧ post g rD W.w F' σ H' (lcL tg tt m (wipe2 e vs) M1.length sr k (i + 1) M') Q, fun H' z => ⟨k, Nat.lt_succ_self k, z⟩, ?_⟩
              rintro x H4 ⟨rfl, hy⟩
              have ex : v = x := Option.some.inj (hv.symm.trans (hy us (SqL.of hu)))
              subst ex
              have RS3 : RelS g ⟨[], []⟩ F3 (wipe2 e vs) M3 (wipe σ vs) H4 := ⟨R3, wipe_rep (RS2.up g3 R3).e vs, pin_nil, xrs_nil⟩
              exact lcStep_run RS3 ts ow rv hn3 q3 fun M5 F5 H5 g5 R5 q5 => ⟨F5, M5, g3.trans g5, R5, q5⟩
          · exact q3.elim
      · exact q.elim
variable {elt tgE iter : Expr} {ifs : List Expr} {scope : Scope} {own : List (Str × Nat)}
theorem de_lc {it : Env2 → MH → Res IV} {wi : TI} {tg : TgM} {gt : TG} (hN : X.N.Nodup) (hi : PI X tgE iter wi) (hsim : ItSim g W it wi) (ok : BlkOk X.N X.env.scope scope own) (ts : TgSim g tg gt) (ow : TgOwn tg gt (own.map (·.2)))
    (hg : ∀ (s : Shared) (H : Hp) (C : Addr) (cl : List (Str × Addr)) (fp : List Addr), PG (X.blk s H scope (compEnvC scope cl C X.env) fp) tgE gt) (ht : ∀ (s : Shared) (H : Hp) (C : Addr) (cl : List (Str × Addr)) (fp : List Addr), PTs (X.blk s H scope (compEnvC scope cl C X.env) fp) ifs (tB2 g W0 tt))
    (he : ∀ (s : Shared) (H : Hp) (C : Addr) (cl : List (Str × Addr)) (fp : List Addr), PE (X.blk s H scope (compEnvC scope cl C X.env) fp) elt (tD g W0 m)) (hc : X.calm = true := by rfl) (hs : ∀ x, foldedSetIterable iter X.env x = pure x := by intro _; rfl) :
    PE X (.ListComp elt [⟨tgE, iter, ifs, 0⟩] scope pos) (tD g W (eLc it tg tt m (own.map (·.2)))) := pe_imp (pe_lc hc hN hi ok hg ht he hs) fun σ H Q q => eLc_imp hsim ts ow q
theorem ds_setLc {it : Env2 → MH → Res IV} {wi : TI} {tg : TgM} {gt : TG} {i : Nat} {y : Str} {py spos : Pos} (hpin : ∀ p ∈ W.p.xs, i ≠ p.1) (hN : X.N.Nodup) (hi : PI X tgE iter wi) (hsim : ItSim g W it wi) (ok : BlkOk X.N X.env.scope scope own) (ts : TgSim g tg gt) (ow : TgOwn tg gt (own.map (·.2)))
    (hg : ∀ (s : Shared) (H : Hp) (C : Addr) (cl : List (Str × Addr)) (fp : List Addr), PG (X.blk s H scope (compEnvC scope cl C X.env) fp) tgE gt) (ht : ∀ (s : Shared) (H : Hp) (C : Addr) (cl : List (Str × Addr)) (fp : List Addr), PTs (X.blk s H scope (compEnvC scope cl C X.env) fp) ifs (tB2 g W0 tt))
    (he : ∀ (s : Shared) (H : Hp) (C : Addr) (cl : List (Str × Addr)) (fp : List Addr), PE (X.blk s H scope (compEnvC scope cl C X.env) fp) elt (tD g W0 m)) (hsw : swapsWith (.ListComp elt [⟨tgE, iter, ifs, 0⟩] scope pos) (some (.Name y py)) spos.line X.env = pure true)
    (hy : X.N[i]? = some y := by rfl) (hyl : X.env.scope.names.lookup y = some .local := by rfl) (hc : X.calm = true := by rfl) (hs : ∀ x, foldedSetIterable iter X.env x = pure x := by intro _; rfl) :
    PS X (.Assign [.Name y py] (.ListComp elt [⟨tgE, iter, ifs, 0⟩] scope pos) spos) (tS g W (sSet i (eLc it tg tt m (own.map (·.2))))) :=
  ps_imp (ps_setLc hc hN hy hyl hsw hi ok hg ht he hs) fun E σ H ⟨F, e, M, RS, q⟩ => eLc_imp hsim ts ow ⟨F, e, M, RS, q.step RS fun d M1 F1 H1 v _ g1 R1 r q1 => q1 F1 H1 _ .same R1 ((RS.up g1 R1).e.set r i) (RS.x.set hpin)⟩
theorem dts_nil : PTs X [] (tB2 g W bYes) := ⟨fun pins s σ H Q I ⟨F, e, M, RS, q⟩ => pts_nil.run pins s σ H Q I (q.here RS.m rfl)⟩
theorem dts_one {c : Expr} {b1 : BM} (h : PT X c (tB2 g W b1)) : PTs X [c] (tB2 g W b1) := pts_one h
end
end T2
namespace T2
open PySem L2

/-! ### raise, try -/
def sRaise0 (c : Nat) : SM := fun e M => .ex c [] [] e M
/-- behind a suite its name is gone -/
def unbind (i : Nat) (r : SR) : SR := match r with
  | .nx e2 M2 => .nx (e2.set i none) M2
  | .bk e2 M2 => .bk (e2.set i none) M2
  | .ct e2 M2 => .ct (e2.set i none) M2
  | .rt d M2 => .rt d M2
  | _ => .bad
/-- try: body except C as n: suite (n in slot i); ct tells whether the clause takes an exception of the class -/
def sTry (i : Nat) (ct : Nat → Option Bool) (body : SM) (suite : Nat → List Str → List D → SM) : SM := fun e M => match body e M with
  | .ex c ns ds e1 M1 => match ct c with
    | some true => if i < e1.length then unbind i (suite c ns ds (e1.set i none) M1) else .bad
    | some false => .ex c ns ds e1 M1
    | none => .bad
  | r => r
section
variable {X : Cx} {g : Wd} {W : WY} {a b : Expr} {pos p apos : Pos} {m1 m2 m3 : EM} {ma : AM} {es : List Expr} {s1 : SM}
end
end T2
namespace T2
open PySem L2

/-! ### defs with defaults; calls with keywords -/
theorem kbn0 {K : PySem.W.Frag} {x qual : Str} {params : Arguments} {body : List Stmt} {scope : Scope} {kws : List (Str × V)} {f : Addr} {fd : FuncData} {ps : List Str} (F : FunD K x qual params body scope [] kws f fd) (n : Nat) (ks : List Str) (ms : List (Str × V)) (G : {A : Type} → List A → List A → List A → List A) (hk : kws ≠ []) (hms : ∀ q ∈ ms, q ∈ kws)
    (hrel : ∀ {vs mz zs : List V} {us mv ws : List Value}, Vals vs us → Vals mz mv → Vals zs ws → Vals (G vs mz zs) (G us mv ws))
    (h : ∀ (D : Addr) (doc pm : Value) (an : Option Addr) (cdv ct : Value) (us mv ws : List Value), us.length = n → mv.length = ms.length → ws.length = ks.length →
      KwChain D ((ms.map (·.1)).zip mv) (bindArgs (PySem.W.fnOf x qual params body scope .none (.ref D) doc pm an cdv ct) ⟨us, ks.zip ws⟩) (ps.zip (G us mv ws))) :
    ∃ mv : List Value, KBn K fd ps n ks (fun us ws => G us mv ws) (fun vs zs => G vs (ms.map (·.2)) zs) := by
  obtain ⟨oc, od, dV, kV, doc, pm, an, cdv, ct, osl, rfl, lk, hcd, hD, hK⟩ := F.ex
  rcases hD with ⟨_, rfl⟩ | ⟨z, _⟩
  · rcases hK with z | ⟨D, rfl, hq⟩
    · exact absurd z hk
    · obtain ⟨mv, hl, rk, hks⟩ := kwd_vals (ms := ms) fun q hm => hq q (hms q hm)
      exact ⟨mv, fun s us ws KI l1 l2 => L2.BindsTo.of_looks fun M => KwChain.looks KI hks (h D doc pm an cdv ct us mv ws l1 hl l2), fun r1 r2 => hrel r1 rk r2⟩
  · exact absurd rfl z
def eCallK (n k : Nat) (gD : List D → List D → List D) (f : List D → MH → Res D) (ma mk : AM) : EM := fun e M => (ma e M).bind fun ds M1 => (mk e M1).bind fun zs M2 => if ds.length = n ∧ zs.length = k then f (gD ds zs) M2 else .bad
section
variable {X : Cx} {g : Wd} {W : WY} {a : Expr} {pos p apos kpos : Pos} {m1 m2 m3 : EM} {ma mk : AM} {es : List Expr} {kws : List Keyword}
theorem pk_imp {t t' : TA} (h : PK X kws t) (i : ∀ σ H Q, t' σ H Q → t σ H Q) : PK X kws t' := ⟨fun pos pins s σ H Q I q => h.run pos pins s σ H Q I (i σ H Q q)⟩
theorem dk_nil : PK X [] (tA g W eNil) := pk_imp pk_nil fun σ H Q ⟨F, e, M, RS, q⟩ => q.here RS.m .nil
theorem dk_cons {nm : Option Str} (ha : PE X a (tD g W m1)) (hb : PK X kws (tA g W ma)) : PK X (⟨nm, a, kpos⟩ :: kws) (tA g W (eCons m1 ma)) :=
  pk_imp (pk_cons ha hb) fun σ H Q ⟨F, e, M, RS, q⟩ => by
    refine ⟨F, e, M, RS, q.bind fun x M1 F1 H1 v e1 g1 R1 rx q1 => ?_⟩
    refine ⟨F1, e, M1, RS.up g1 R1, q1.bind fun y M2 F2 H2 w e2 g2 R2 ry q2 => ?_⟩
    exact q2.here R2 (.cons (rx.mono g2 R1.good) ry)
variable {CX : CXT} {k n N : Nat} {f : Addr} {fd : FuncData} {ps ks : List Str} {sp : Sp} {E : L2.St → XK} {x : Str} {t tq : TA} {gg : List Value → List Value → List Value} {gV : List V → List V → List V}
end
/-! ### methods of texts -/
section
variable {X : Cx} {g : Wd} {W : WY} {a : Expr} {pos p apos kpos : Pos} {m1 m2 m3 : EM}
end
theorem fnD_ok2 {P : Program} {w : World} {K : PySem.W.Frag} {mg : Str → Option Value} {base : Heap} {g : Wd} {x qual : Str} {st : Stmt} {f : Addr} {fd : FuncData} {N ps : List Str} {k : Nat} {b : SM} {dvs : List V} {kws : List (Str × V)} (F : FunD K x qual (defArgs st) (defBody st) (defScope st) dvs kws f fd) (S : FnScope N ps (defScope st))
    (hbody : ∀ (cdv : Value) (A : Around) (outer : List Env) (s : Shared) (H : Hp) (E : XK), Room k (A.deeper (PyProof.Rows.envOfC qual (defScope st) s.heap.objs.size f cdv)) →
      L2N.Takes (cxOf (L2N.CX P w) P w K mg base N qual (defScope st) f cdv A outer s H E) (WY.mk (fun c d _ H => E c d H) ⟨[], []⟩).w →
      PassesOwn (model P w) (cxOf (L2N.CX P w) P w K mg base N qual (defScope st) f cdv A outer s H E).A (cxOf (L2N.CX P w) P w K mg base N qual (defScope st) f cdv A outer s H E).env (cxOf (L2N.CX P w) P w K mg base N qual (defScope st) f cdv A outer s H E).xe →
      PSs (cxOf (L2N.CX P w) P w K mg base N qual (defScope st) f cdv A outer s H E) (defBody st) (tS g ⟨fun c d _ H => E c d H, ⟨[], []⟩⟩ b)) : FnOk P w K mg base (L2N.CX P w) (k + 1) f fd ps (spD g ps.length (fnB N.length b)) :=
  F.ok S (fun vs H Q E h => h.1) fun cdv A outer s H vs Q E hr h => ⟨_, hbody cdv A outer s H E hr (L2N.takes_of rfl rfl rfl rfl) (passes_of (X := cxOf (L2N.CX P w) P w K mg base N qual (defScope st) f cdv A outer s H E) rfl), body_run h⟩
end T2
namespace T2
open PySem L2
section
variable {X : Cx}
theorem pe_or {e : Expr} {t1 t2 : TE} (h1 : PE X e t1) (h2 : PE X e t2) : PE X e (fun σ H Q => t1 σ H Q ∨ t2 σ H Q) := ⟨fun pins s σ H Q I q => q.elim (h1.run pins s σ H Q I) (h2.run pins s σ H Q I)⟩
theorem pt_or {e : Expr} {t1 t2 : TT} (h1 : PT X e t1) (h2 : PT X e t2) : PT X e (fun σ H Q => t1 σ H Q ∨ t2 σ H Q) := ⟨fun pins s σ H Q I q => q.elim (h1.run pins s σ H Q I) (h2.run pins s σ H Q I)⟩
end

/-! ### dicts with int and text keys -/
def keyOf : D → Option Key
  | .int i => some (.inl i)
  | .str x => some (.inr x)
  | _ => none
def kGet {k A : Type} [DecidableEq k] (ks : List k) (ds : List A) (x : k) : Option A := ((ks.zip ds).find? fun p => decide (p.1 = x)).map (·.2)
theorem key_rep {g : Wd} {F : List Addr} {H : Hp} {d : D} {v : V} {k : Key} (r : Rep g F H d v) (h : keyOf d = some k) : v = kV k := by cases r <;> first | (cases h; rfl) | cases h
theorem kGet_rep {g : Wd} {F : List Addr} {H : Hp} {κ : Type} [DecidableEq κ] {x : κ} : ∀ {ks : List κ} {ds : List D} {vs : List V}, Reps g F H ds vs → (match kGet ks ds x with
    | some d => ∃ v, valV (ks.zip vs) x = some v ∧ Rep g F H d v
    | none => valV (ks.zip vs) x = none)
  | [], _, _, _ => by simp [kGet, valV]
  | _ :: _, _, _, .nil => by simp [kGet, valV]
  | n :: ns, _, _, .cons (d := d) (v := v) (ds := ds) (vs := vs) r t => by
    unfold kGet valV
    rw [List.zip_cons_cons, List.zip_cons_cons, List.find?_cons, List.find?_cons]
    by_cases hn : n = x
    · simp only [hn, decide_true]
      exact ⟨_, rfl, r⟩
    · simp only [hn, decide_false]
      exact kGet_rep t
section
variable {X : Cx} {g : Wd} {W : WY} {a b c : Expr} {pos p apos : Pos} {m1 m2 m3 : EM} {ma : AM} {es : List Expr}
theorem dk_at {F : List Addr} {M : MH} {H : Hp} {n : Nat} {ad : Addr} {ks : List Key} {ds : List D} (R : RelM g F M H) (hn : F[n]? = some ad) (hm : M[n]? = some (.dk ks ds)) : ∃ vs, H ad = some (.dK (ks.zip vs)) ∧ ks.length = vs.length ∧ Reps g F H ds vs := by
  obtain ⟨h, e, r⟩ := R.obj n ad _ hn hm
  cases r with | dk hl r => exact ⟨_, e, hl, r⟩
/-- any x[y] -/
def dIxA (x y : D) (M : MH) : Res D := match x with
  | .ref n => match M[n]? with
    | some (.dk ks ds) => match keyOf y with
      | some k => (match kGet ks ds k with
        | some d => .ok d M
        | none => .bad)
      | none => .bad
    | _ => dIx x y M
  | _ => dIx x y M
theorem de_ixA (hK : g.K = X.K) (hu : X.A.units + 1 < cLine) (ha : PE X a (tD g W m1)) (hb : PE X b (tD g W m2)) (hs : PlainIx b := by intro _ _; rfl) (hs2 : NoSl b := by intro _ _; rfl) : PE X (.Subscript a b pos) (tD g W (eBin dIxA m1 m2)) :=
  pe_imp (pe_or (pe_ix ix_seq ha hb hs) (pe_dget hu ha hb hs2)) fun σ H Q ⟨F, e, M, RS, q⟩ => by
    cases h1 : m1 e M with
    | bad => unfold eBin at q; rw [h1] at q; exact q.elim
    | exc c ns ds M1 => exact .inl ⟨F, e, M, RS, by rw [h1]; unfold eBin at q; rw [h1] at q; exact q⟩
    | ok x M1 =>
      cases h2 : m2 e M1 with
      | bad => unfold eBin at q; rw [h1] at q; dsimp only [Res.bind] at q; rw [h2] at q; exact q.elim
      | exc c ns ds M2 =>
        refine .inl ⟨F, e, M, RS, ?_⟩
        rw [h1]
        intro F1 H1 v g1 R1 rx
        refine ⟨F1, e, M1, RS.up g1 R1, ?_⟩
        rw [h2]
        unfold eBin at q; rw [h1] at q; dsimp only [Res.bind] at q; rw [h2] at q
        exact q.up g1
      | ok y M2 =>
        have q0 : post g rD W.w F σ H (dIxA x y M2) Q := by unfold eBin at q; rw [h1] at q; dsimp only [Res.bind] at q; rw [h2] at q; exact q
        by_cases hd : ∃ n ks ds, x = .ref n ∧ M2[n]? = some (.dk ks ds)
        · obtain ⟨n, ks, ds, rfl, hM⟩ := hd
          refine .inr ⟨F, e, M, RS, ?_⟩
          rw [h1]
          intro F1 H1 v g1 R1 rx
          refine ⟨F1, e, M1, RS.up g1 R1, ?_⟩
          rw [h2]
          intro F2 H2 w g2 R2 ry
          cases rx with | ref hn =>
          have hn2 := pre_get g2.pre hn
          obtain ⟨vs, hv, hl, r⟩ := dk_at R2 hn2 hM
          dsimp only [dIxA] at q0
          rw [hM] at q0
          dsimp only at q0
          cases hk : keyOf y with
          | none => rw [hk] at q0; exact q0.elim
          | some k =>
            rw [hk] at q0
            dsimp only at q0
            have ek := key_rep ry hk
            subst ek
            have kg := kGet_rep (x := k) (ks := ks) r
            cases hg : kGet ks ds k with
            | none => rw [hg] at q0; exact q0.elim
            | some d =>
              rw [hg] at q0 kg
              obtain ⟨u, hu2, ru⟩ := kg
              exact ⟨_, u, rfl, hu2 ▸ DGet.k hv, (q0.up (g1.trans g2)).here R2 ru⟩
        · have e0 : dIxA x y M2 = dIx x y M2 := by
            unfold dIxA
            split
            · split
              · rename_i hM; exact absurd ⟨_, _, _, rfl, hM⟩ hd
              · rfl
            · rfl
          rw [e0] at q0
          refine .inl (bin_imp (sim_ix hK) ⟨F, e, M, RS, ?_⟩)
          unfold eBin
          rw [h1]; dsimp only [Res.bind]; rw [h2]
          exact q0
/-- x in y, y a dict or a sequence -/
def inResA (x y : D) (M : MH) : Option Bool := match y with
  | .ref n => match M[n]? with
    | some (.dk ks ds) => (keyOf x).map fun k => (kGet ks ds k).isSome
    | _ => inRes x y M
  | _ => inRes x y M
def dInA (x y : D) (M : MH) : Res D := match inResA x y M with
  | some b => .ok (.bl b) M
  | none => .bad
def dNotInA (x y : D) (M : MH) : Res D := match inResA x y M with
  | some b => .ok (.bl (!b)) M
  | none => .bad
theorem inA_imp {f0 fA : D → D → MH → Res D} {r : R2} {gb : Bool → Bool} (hs : Sim2 g f0 r) (hA : ∀ x y M, fA x y M = match inResA x y M with | some b => .ok (.bl (gb b)) M | none => .bad) (h0 : ∀ x y M, f0 x y M = match inRes x y M with | some b => .ok (.bl (gb b)) M | none => .bad)
    {σ : L2.St} {H : Hp} {Q : VK} (q : tD g W (eBin fA m1 m2) σ H Q) :
    tOp r (tD g W m1) (tD g W m2) σ H Q ∨ (tD g W m1 σ H fun y H1 => tD g W m2 σ H1 fun x H2 => ∃ a o, x = .ref a ∧ DGet H2 a y o ∧ Q (.bl (gb o.isSome)) H2) := by
  obtain ⟨F, e, M, RS, q⟩ := q
  cases h1 : m1 e M with
  | bad => unfold eBin at q; rw [h1] at q; exact q.elim
  | exc c ns ds M1 => exact .inl ⟨F, e, M, RS, by rw [h1]; unfold eBin at q; rw [h1] at q; exact q⟩
  | ok x M1 =>
    cases h2 : m2 e M1 with
    | bad => unfold eBin at q; rw [h1] at q; dsimp only [Res.bind] at q; rw [h2] at q; exact q.elim
    | exc c ns ds M2 =>
      refine .inl ⟨F, e, M, RS, ?_⟩
      rw [h1]
      intro F1 H1 v g1 R1 rx
      refine ⟨F1, e, M1, RS.up g1 R1, ?_⟩
      rw [h2]
      unfold eBin at q; rw [h1] at q; dsimp only [Res.bind] at q; rw [h2] at q
      exact q.up g1
    | ok y M2 =>
      have q0 : post g rD W.w F σ H (fA x y M2) Q := by unfold eBin at q; rw [h1] at q; dsimp only [Res.bind] at q; rw [h2] at q; exact q
      rw [hA] at q0
      by_cases hd : ∃ n ks ds, y = .ref n ∧ M2[n]? = some (.dk ks ds)
      · obtain ⟨n, ks, ds, rfl, hM⟩ := hd
        refine .inr ⟨F, e, M, RS, ?_⟩
        rw [h1]
        intro F1 H1 v g1 R1 rx
        refine ⟨F1, e, M1, RS.up g1 R1, ?_⟩
        rw [h2]
        intro F2 H2 w g2 R2 ry
        cases ry with | ref hn2 =>
        obtain ⟨vs, hv, hl, r⟩ := dk_at R2 hn2 hM
        dsimp only [inResA] at q0
        rw [hM] at q0
        dsimp only at q0
        cases hk : keyOf x with
        | none => rw [hk] at q0; exact q0.elim
        | some k =>
          rw [hk] at q0
          dsimp only [Option.map] at q0
          have ek := key_rep (rx.mono g2 R1.good) hk
          subst ek
          refine ⟨_, _, rfl, DGet.k hv, ?_⟩
          have kg := kGet_rep (x := k) (ks := ks) r
          have es : (valV (ks.zip vs) k).isSome = (kGet ks ds k).isSome := by
            cases hg : kGet ks ds k with
            | none => rw [hg] at kg; rw [kg]; rfl
            | some d => rw [hg] at kg; obtain ⟨u, hu, _⟩ := kg; rw [hu]; rfl
          rw [es]
          exact (q0.up (g1.trans g2)).here R2 (.bl _)
      · have e0 : inResA x y M2 = inRes x y M2 := by
          unfold inResA
          split
          · split
            · rename_i hM; exact absurd ⟨_, _, _, rfl, hM⟩ hd
            · rfl
          · rfl
        rw [e0, ← h0] at q0
        refine .inl (bin_imp hs ⟨F, e, M, RS, ?_⟩)
        unfold eBin
        rw [h1]; dsimp only [Res.bind]; rw [h2]
        exact q0
theorem dt_inA (hK : g.K = X.K) (hu : X.A.units + 1 < cLine) (ha : PE X a (tD g W m1)) (hb : PE X b (tD g W m2)) (hm : behindInMarks .In b = false := by rfl) : PT X (.Compare a [.In] [b] pos) (tB2 g W (bVal (eBin dInA m1 m2))) :=
  pt_imp (pt_or (pt_cmpR op_inA ha hb hm) (pt_cmp (pc_din hu ha hb) hm)) fun σ H Q q => inA_imp (gb := fun b => b) (sim_in hK) (fun _ _ _ => rfl) (fun _ _ _ => rfl) (val_imp q)
theorem dt_notinA (hK : g.K = X.K) (hu : X.A.units + 1 < cLine) (ha : PE X a (tD g W m1)) (hb : PE X b (tD g W m2)) (hm : behindInMarks .NotIn b = false := by rfl) : PT X (.Compare a [.NotIn] [b] pos) (tB2 g W (bVal (eBin dNotInA m1 m2))) :=
  pt_imp (pt_or (pt_cmpR op_notInA ha hb hm) (pt_cmp (pc_dnotin hu ha hb) hm)) fun σ H Q q => inA_imp (gb := fun b => !b) (sim_notIn hK) (fun _ _ _ => rfl) (fun _ _ _ => rfl) (val_imp q)
end
end T2
namespace T2
open PySem L2
section
variable {X : Cx} {g : Wd} {W : WY} {a b c : Expr} {pos p apos : Pos} {m1 m2 m3 : EM} {ma : AM} {es : List Expr}
/-! ### dict displays with written keys -/
def eDNew : EM := fun _ M => .ok (.ref M.length) (M ++ [.dk [] []])
theorem de_dnew : PE X (.Dict [] [] pos) (tD g W eDNew) := pe_imp pe_dnewK fun σ H Q ⟨F, e, M, RS, q⟩ ad had => by
  obtain ⟨g1, R1⟩ := RS.m.laid (m := .dk [] []) (o := .dK []) had fun F' H' gr => .dk (ks := []) (vs := []) rfl .nil
  exact q.ok g1 R1 (.ref (by rw [← RS.m.len]; simp))
end
end T2
namespace T2
open PySem L2
/-! ### arguments put in order -/
def pick {A : Type} (idx : List Nat) (l : List A) : List A := idx.filterMap fun i => l[i]?
theorem pick_vals {vs : List V} {us : List Value} (r : Vals vs us) : ∀ idx : List Nat, Vals (pick idx vs) (pick idx us)
  | [] => .nil
  | i :: idx => by
    unfold pick
    rw [List.filterMap_cons, List.filterMap_cons]
    cases h : vs[i]? with
    | none => rw [r.none_of h]; exact pick_vals r idx
    | some v => obtain ⟨u, hu, ru⟩ := r.get h; rw [hu]; exact .cons ru (pick_vals r idx)
theorem pick_reps {g : Wd} {F : List Addr} {H : Hp} {ds : List D} {vs : List V} (r : Reps g F H ds vs) : ∀ idx : List Nat, Reps g F H (pick idx ds) (pick idx vs)
  | [] => .nil
  | i :: idx => by
    unfold pick
    rw [List.filterMap_cons, List.filterMap_cons]
    cases h : ds[i]? with
    | none =>
      have h2 : vs[i]? = none := by
        rw [List.getElem?_eq_none_iff] at h ⊢
        rw [← r.length]; exact h
      rw [h2]; exact pick_reps r idx
    | some d => obtain ⟨u, hu, ru⟩ := r.get h; rw [hu]; exact .cons ru (pick_reps r idx)
theorem pick_len {A : Type} {l : List A} : ∀ idx : List Nat, (idx.all fun i => decide (i < l.length)) = true → (pick idx l).length = idx.length
  | [], _ => rfl
  | i :: idx, h => by
    rw [List.all_cons, Bool.and_eq_true, decide_eq_true_eq] at h
    unfold pick
    rw [List.filterMap_cons, List.getElem?_eq_getElem h.1]
    have := pick_len idx h.2
    unfold pick at this
    simp [this]
/-- a def that is not spoken of -/
theorem fn_bad {P : Program} {w : World} {K : PySem.W.Frag} {mg : Str → Option Value} {base : Heap} {CX : CXT} {g : Wd} {f : Addr} {fd : FuncData} {ps : List Str} (k : Nat) : FnOk P w K mg base CX k f fd ps (spD g ps.length fun _ _ => .bad) :=
  ⟨fun vs H Q E h => h.1, fun A outer s H args us vs Q E hr e0 hb hv ⟨_, _, _, _, _, _, q⟩ => q.elim⟩
/-! ### isinstance by a table -/
abbrev IsiTab := List ((Tg × Tg) × Bool)
def isiOf (tab : IsiTab) (t c : Tg) : Option Bool := (tab.find? fun e => decide (e.1.1 = t ∧ e.1.2 = c)).map (·.2)
theorem isiOf_mem {tab : IsiTab} {t c : Tg} {b : Bool} (h : isiOf tab t c = some b) : ((t, c), b) ∈ tab := by
  unfold isiOf at h
  cases hf : tab.find? fun e => decide (e.1.1 = t ∧ e.1.2 = c) with
  | none => rw [hf] at h; cases h
  | some e =>
    rw [hf] at h; cases h
    have h1 := List.find?_some hf
    have h2 := List.mem_of_find?_eq_some hf
    simp only [decide_eq_true_eq] at h1
    obtain ⟨⟨t', c'⟩, b'⟩ := e
    obtain ⟨rfl, rfl⟩ := h1
    exact h2
def bltTab : IsiTab := (["NoneType", "bool", "int", "str", "tuple", "list", "dict"].flatMap fun a => ["int", "bool", "str", "tuple", "list", "dict"].map fun b => ((Sum.inl a, Sum.inl b), a == b || (a == "bool" && b == "int")))
theorem blt_ok (K : PySem.W.Frag) (g : Wd) : ∀ e ∈ bltTab, PySem.W.kitOne K (tagV g e.1.1) (tagV g e.1.2) = some e.2 := by
  intro e he
  simp only [bltTab, List.flatMap_cons, List.flatMap_nil, List.map_cons, List.map_nil, List.cons_append, List.nil_append, List.append_nil, List.mem_cons, List.not_mem_nil, or_false] at he
  rcases he with rfl | rfl | rfl | rfl | rfl | rfl | rfl | rfl | rfl | rfl | rfl | rfl | rfl | rfl | rfl | rfl | rfl | rfl | rfl | rfl | rfl | rfl | rfl | rfl | rfl | rfl | rfl | rfl | rfl | rfl | rfl | rfl | rfl | rfl | rfl | rfl | rfl | rfl | rfl | rfl | rfl | rfl
  all_goals first | rfl | (exact kit_ty (by decide +kernel))
end T2
namespace T2
open PySem L2
/-! ### what the written part says -/
end T2
namespace T2
open PySem L2
/-! ### the law -/
def spLaw (K : PySem.W.Frag) : Sp := fun vs H Q _ => ∃ (a : Addr) (ns : List Int), vs = [.ref a] ∧ ns.length ≤ 63 ∧ SqL K H a (ns.map V.int) ∧ ∀ H', Q (.bl true) H'
theorem reps_ints {g : Wd} {F : List Addr} {H : Hp} : ∀ ns : List Int, Reps g F H (ns.map D.int) (ns.map V.int)
  | [] => .nil
  | n :: ns => .cons (.int n) (reps_ints ns)
theorem sp_of_true {K : PySem.W.Frag} {ad : Nat → Addr} {m : List D → MH → Res D} (h : ∀ ns : List Int, ns.length ≤ 63 → ∃ M', m [.fro (ns.map D.int)] [] = .ok (.bl true) M') {vs : List V} {H : Hp} {Q : VK} {E : XK} (hs : spLaw K vs H Q E) : spD ⟨K, ad⟩ 1 m vs H Q E := by
  obtain ⟨a, ns, rfl, hl, hS, hq⟩ := hs
  obtain ⟨M', hm⟩ := h ns hl
  refine ⟨rfl, [], [], [.fro (ns.map D.int)], ⟨rfl, List.nodup_nil, fun n a o e => by simp at e⟩, .cons (.fro (vs := ns.map V.int) ?_ (reps_ints ns)) .nil, ?_⟩
  · rcases hS with (h1 | h1) | h1
    · exact .inl ⟨h1, by simp⟩
    · exact .inr (.inl h1)
    · exact .inr (.inr h1)
  · rw [hm]
    intro F' H' v gr R r
    cases r
    exact hq H'
theorem no_exc {P : Program} {w : World} {H : Hp} {s : Shared} {e : Value} {s' : Shared} (h : L2N.CX P w [] H s (fun _ _ _ => False) e s') : False := by
  obtain ⟨_, _, _, _, _, _, _, _, _, _, _, _, z⟩ := h
  exact z
end T2
namespace T2
open PySem L2

/-! ### running the shallow functions -/
/-! ### the law's box of draws -/
structure Bx where
  ns : List Int
  i : Int
  c : Int
  k : Int
  f : Int
def Bx.obj (s : Bx) : MO := .lst [.fro (s.ns.map D.int), .int s.i, .int s.c, .int s.k, .int s.f]
structure BxOk (s : Bx) : Prop where
  i0 : 0 ≤ s.i
/-- the box stands at b -/
def BoxAt (M : MH) (b : Nat) (s : Bx) : Prop := M[b]? = some s.obj ∧ BxOk s
abbrev drawB : SM :=
    sSeq (sIf (bVal (eBin dEq (eBin dIxA (eVar 0) (eC (.int 3))) (eC (.int 0))))
    (sSeq (sIf (bVal (eBin dGe (eBin dIxA (eVar 0) (eC (.int 1))) (eArgs dLen (eCons (eBin dIxA (eVar 0) (eC (.int 0))) (eNil)))))
    (sRet (eC (.int 0)))
    (sNil))
    (sSeq (sSetIx dSetIx (eVar 0) (eC (.int 2)) (eArgs dAbs (eCons (eArgs dInt (eCons (eBin dIxA (eBin dIxA (eVar 0) (eC (.int 0))) (eBin dIxA (eVar 0) (eC (.int 1)))) (eNil))) (eNil))))
    (sSeq (sSetIx dSetIx (eVar 0) (eC (.int 1)) (eBin dAdd (eBin dIxA (eVar 0) (eC (.int 1))) (eC (.int 1))))
    (sSeq (sSetIx dSetIx (eVar 0) (eC (.int 4)) (eArgs dInt (eCons (eBin dGe (eBin dIxA (eVar 0) (eC (.int 2))) (eBin dPow (eC (.int 10)) (eC (.int 18)))) (eNil))))
    (sSetIx dSetIx (eVar 0) (eC (.int 3)) (eBin dAdd (eC (.int 12)) (eBin dMul (eC (.int 48)) (eBin dIxA (eVar 0) (eC (.int 4)))))))))) 
    (sNil))
    (sSeq (sSetIx dSetIx (eVar 0) (eC (.int 3)) (eBin dSub (eBin dIxA (eVar 0) (eC (.int 3))) (eC (.int 1))))
    (sSeq (sIf (bVal (eBin dEq (eBin dIxA (eVar 0) (eC (.int 4))) (eC (.int 1))))
    (sSeq (sSet 2 (eBin dMod (eArgs dInt (eCons (eBin dIxA (eVar 0) (eC (.int 2))) (eNil))) (eVar 1)))
    (sSeq (sSetIx dSetIx (eVar 0) (eC (.int 2)) (eBin dDiv (eArgs dInt (eCons (eBin dIxA (eVar 0) (eC (.int 2))) (eNil))) (eVar 1)))
    (sSeq (sIf (bVal (eBin dEq (eBin dIxA (eVar 0) (eC (.int 2))) (eC (.int 0))))
    (sSetIx dSetIx (eVar 0) (eC (.int 3)) (eC (.int 0)))
    (sNil))
    (sRet (eVar 2)))))
    (sNil))
    (sSeq (sSet 3 (eBin dMod (eArgs dInt (eCons (eBin dAdd (eBin dAdd (eBin dMul (eArgs dInt (eCons (eBin dIxA (eVar 0) (eC (.int 2))) (eNil))) (eC (.int 48271))) (eBin dMul (eBin dIxA (eVar 0) (eC (.int 3))) (eC (.int 69621)))) (eC (.int 13))) (eNil))) (eC (.int 2147483647))))
    (sSeq (sSet 3 (eBin dMod (eArgs dInt (eCons (eBin dAdd (eBin dAdd (eBin dMul (eVar 3) (eC (.int 16807))) (eBin dMul (eBin dIxA (eVar 0) (eC (.int 3))) (eC (.int 40692)))) (eC (.int 7))) (eNil))) (eC (.int 2147483629))))
    (sRet (eBin dMod (eArgs dInt (eCons (eVar 3) (eNil))) (eVar 1)))))))
def drawM : List D → MH → Res D := fnB 4 drawB
/-- an item of a list that stands there -/
theorem ix_lst {M : MH} {b : Nat} {ds : List D} {i : Int} {d : D} (h : M[b]? = some (.lst ds)) (ha : atI ds i = some d) : dIxA (.ref b) (.int i) M = .ok d M := by
  simp only [dIxA, dIx, items, h, ha]
theorem ix_fro {M : MH} {ds : List D} {i : Int} {d : D} (ha : atI ds i = some d) : dIxA (.fro ds) (.int i) M = .ok d M := by
  unfold dIxA dIx items
  dsimp only
  rw [ha]
theorem eq_int {i j : Int} {M : MH} : dEq (.int i) (.int j) M = .ok (.bl (i == j)) M := by
  unfold dEq
  simp [toP, toPa, SeqAt.shaped, PyData.canLay0, PyData.depth, PyData.eqv]
theorem eq_str {i j : Str} {M : MH} (h1 : PyData.strOk i = true) (h2 : PyData.strOk j = true) : dEq (.str i) (.str j) M = .ok (.bl (i == j)) M := by
  unfold dEq
  simp [toP, toPa, SeqAt.shaped, PyData.canLay0, PyData.depth, PyData.eqv, h1, h2]

theorem atI_0 {A : Type} {x : A} {l : List A} : atI (x :: l) 0 = some x := by unfold atI ixN; simp
theorem atI_1 {A : Type} {x y : A} {l : List A} : atI (x :: y :: l) 1 = some y := atI_nat (j := 1) rfl
theorem atI_2 {A : Type} {x y z : A} {l : List A} : atI (x :: y :: z :: l) 2 = some z := atI_nat (j := 2) rfl
theorem atI_3 {A : Type} {x y z u : A} {l : List A} : atI (x :: y :: z :: u :: l) 3 = some u := atI_nat (j := 3) rfl
theorem atI_4 {A : Type} {x y z u v : A} {l : List A} : atI (x :: y :: z :: u :: v :: l) 4 = some v := atI_nat (j := 4) rfl
theorem bx_self {M : MH} {b : Nat} {s : Bx} (h : M[b]? = some s.obj) : M.set b s.obj = M := by
  obtain ⟨hl, he⟩ := List.getElem?_eq_some_iff.mp h
  rw [← he]; exact List.set_getElem_self hl
section
variable {M : MH} {b : Nat} {s : Bx} {v : Int} (hb : b < M.length)
include hb
theorem bx_at : (M.set b s.obj)[b]? = some (.lst [.fro (s.ns.map D.int), .int s.i, .int s.c, .int s.k, .int s.f]) := List.getElem?_set_self hb
theorem bg0 : dIxA (.ref b) (.int 0) (M.set b s.obj) = .ok (.fro (s.ns.map D.int)) (M.set b s.obj) := ix_lst (bx_at hb) atI_0
theorem bg1 : dIxA (.ref b) (.int 1) (M.set b s.obj) = .ok (.int s.i) (M.set b s.obj) := ix_lst (bx_at hb) atI_1
theorem bg2 : dIxA (.ref b) (.int 2) (M.set b s.obj) = .ok (.int s.c) (M.set b s.obj) := ix_lst (bx_at hb) atI_2
theorem bg3 : dIxA (.ref b) (.int 3) (M.set b s.obj) = .ok (.int s.k) (M.set b s.obj) := ix_lst (bx_at hb) atI_3
theorem bg4 : dIxA (.ref b) (.int 4) (M.set b s.obj) = .ok (.int s.f) (M.set b s.obj) := ix_lst (bx_at hb) atI_4
theorem bs1 : dSetIx (.ref b) (.int 1) (.int v) (M.set b s.obj) = some (M.set b { s with i := v }.obj) := by unfold dSetIx; dsimp only; rw [bx_at hb]; show some ((M.set b _).set b _) = _; rw [List.set_set]; rfl
theorem bs2 : dSetIx (.ref b) (.int 2) (.int v) (M.set b s.obj) = some (M.set b { s with c := v }.obj) := by unfold dSetIx; dsimp only; rw [bx_at hb]; show some ((M.set b _).set b _) = _; rw [List.set_set]; rfl
theorem bs3 : dSetIx (.ref b) (.int 3) (.int v) (M.set b s.obj) = some (M.set b { s with k := v }.obj) := by unfold dSetIx; dsimp only; rw [bx_at hb]; show some ((M.set b _).set b _) = _; rw [List.set_set]; rfl
theorem bs4 : dSetIx (.ref b) (.int 4) (.int v) (M.set b s.obj) = some (M.set b { s with f := v }.obj) := by unfold dSetIx; dsimp only; rw [bx_at hb]; show some ((M.set b _).set b _) = _; rw [List.set_set]; rfl
end
theorem atI_of {A : Type} {l : List A} {i : Int} (h0 : 0 ≤ i) (h1 : i < l.length) : ∃ x, atI l i = some x ∧ x ∈ l := by
  unfold atI ixN
  rw [if_pos h0, if_pos h1]
  have hl : i.toNat < l.length := by omega
  exact ⟨l[i.toNat], by simp [hl], List.getElem_mem hl⟩
theorem len_fro {ds : List D} {M : MH} : dLen [.fro ds] M = .ok (.int ds.length) M := rfl
/-- the second half of a draw -/
abbrev drawB2 : SM := (sSeq (sSetIx dSetIx (eVar 0) (eC (.int 3)) (eBin dSub (eBin dIxA (eVar 0) (eC (.int 3))) (eC (.int 1))))
    (sSeq (sIf (bVal (eBin dEq (eBin dIxA (eVar 0) (eC (.int 4))) (eC (.int 1))))
    (sSeq (sSet 2 (eBin dMod (eArgs dInt (eCons (eBin dIxA (eVar 0) (eC (.int 2))) (eNil))) (eVar 1)))
    (sSeq (sSetIx dSetIx (eVar 0) (eC (.int 2)) (eBin dDiv (eArgs dInt (eCons (eBin dIxA (eVar 0) (eC (.int 2))) (eNil))) (eVar 1)))
    (sSeq (sIf (bVal (eBin dEq (eBin dIxA (eVar 0) (eC (.int 2))) (eC (.int 0))))
    (sSetIx dSetIx (eVar 0) (eC (.int 3)) (eC (.int 0)))
    (sNil))
    (sRet (eVar 2)))))
    (sNil))
    (sSeq (sSet 3 (eBin dMod (eArgs dInt (eCons (eBin dAdd (eBin dAdd (eBin dMul (eArgs dInt (eCons (eBin dIxA (eVar 0) (eC (.int 2))) (eNil))) (eC (.int 48271))) (eBin dMul (eBin dIxA (eVar 0) (eC (.int 3))) (eC (.int 69621)))) (eC (.int 13))) (eNil))) (eC (.int 2147483647))))
    (sSeq (sSet 3 (eBin dMod (eArgs dInt (eCons (eBin dAdd (eBin dAdd (eBin dMul (eVar 3) (eC (.int 16807))) (eBin dMul (eBin dIxA (eVar 0) (eC (.int 3))) (eC (.int 40692)))) (eC (.int 7))) (eNil))) (eC (.int 2147483629))))
    (sRet (eBin dMod (eArgs dInt (eCons (eVar 3) (eNil))) (eVar 1)))))))
theorem draw2 {M : MH} {b : Nat} {s : Bx} {n : Int} (hb : b < M.length) (hi : BxOk s) (h1 : 0 < n) (h2 : n < 1073741824) : ∃ r s', toR (drawB2 [some (.ref b), some (.int n), none, none] (M.set b s.obj)) = .ok (.int r) (M.set b s'.obj) ∧ 0 ≤ r ∧ r < n ∧ BxOk s' := by
  have hm : ∀ x : Int, 0 ≤ x % n ∧ x % n < n := fun x => ⟨Int.emod_nonneg _ (by omega), Int.emod_lt_of_pos _ h1⟩
  simp only [drawB2, sSeq, sSetIx, sIf, sSet, sRet, sNil, bVal, eBin, eVar, eC, eArgs, eCons, eNil, Res.bind, Res.toS, Res.toSB, asB, dSub, bg3 hb, bs3 hb, bg4 hb, List.getElem?_cons_zero, List.getElem?_cons_succ, eq_int]
  by_cases hf : s.f = 1
  · simp only [hf, beq_self_eq_true, if_true, bg2 hb, dInt, dMod, h1, if_true, List.set_cons_succ, List.set_cons_zero, List.getElem?_cons_zero, List.getElem?_cons_succ, dDiv, h2, and_self, bs2 hb, eq_int]
    by_cases hz : s.c / n = 0
    · simp only [hz, beq_self_eq_true, if_true, bs3 hb, toR]
      exact ⟨_, _, rfl, (hm _).1, (hm _).2, ⟨hi.i0⟩⟩
    · simp only [show (s.c / n == 0) = false by simp [hz], Bool.false_eq_true, if_false, toR]
      exact ⟨_, _, rfl, (hm _).1, (hm _).2, ⟨hi.i0⟩⟩
  · simp only [show (s.f == 1) = false by simp [hf], Bool.false_eq_true, if_false, bg2 hb, bg3 hb, dInt, dMul, dAdd, dMod, h1, if_true, List.set_cons_succ, List.set_cons_zero, List.getElem?_cons_zero, List.getElem?_cons_succ, show (-(2 ^ 64) < (48271 : Int) ∧ (48271 : Int) < 2 ^ 64) by decide, show (-(2 ^ 64) < (69621 : Int) ∧ (69621 : Int) < 2 ^ 64) by decide, show (-(2 ^ 64) < (16807 : Int) ∧ (16807 : Int) < 2 ^ 64) by decide, show (-(2 ^ 64) < (40692 : Int) ∧ (40692 : Int) < 2 ^ 64) by decide, and_self, or_true, show (0 : Int) < 2147483647 by decide, show (0 : Int) < 2147483629 by decide, toR]
    exact ⟨_, _, rfl, (hm _).1, (hm _).2, ⟨hi.i0⟩⟩
/-- a draw: a number below the size, and the box goes on -/
theorem draw_spec {M : MH} {b : Nat} {s : Bx} {n : Int} (h : BoxAt M b s) (h1 : 0 < n) (h2 : n < 1073741824) : ∃ r s', drawM [.ref b, .int n] M = .ok (.int r) (M.set b s'.obj) ∧ 0 ≤ r ∧ r < n ∧ BxOk s' := by
  obtain ⟨hM, hi⟩ := h
  have hb : b < M.length := (List.getElem?_eq_some_iff.mp hM).1
  have e0 := bx_self hM
  rw [← e0]
  show ∃ (r : Int) (s' : Bx), toR (sSeq _ drawB2 [some (.ref b), some (.int n), none, none] (M.set b s.obj)) = .ok (.int r) ((M.set b s.obj).set b s'.obj) ∧ _
  simp only [List.set_set]
  have fin : ∀ s1 : Bx, BxOk s1 → ∀ X : SR, X = .nx [some (.ref b), some (.int n), none, none] (M.set b s1.obj) → ∃ r s', toR (match X with | .nx e1 M1 => drawB2 e1 M1 | r => r) = .ok (.int r) (M.set b s'.obj) ∧ 0 ≤ r ∧ r < n ∧ BxOk s' := by
    intro s1 h X hX
    rw [hX]
    exact draw2 hb h h1 h2
  by_cases hk : s.k = 0
  · by_cases hl : (s.ns.length : Int) ≤ s.i
    · refine ⟨0, s, ?_, by omega, by omega, hi⟩
      simp only [sSeq, sSetIx, sIf, sSet, sRet, sNil, bVal, eBin, eVar, eC, eArgs, eCons, eNil, Res.bind, Res.toS, Res.toSB, asB, bg3 hb, bg1 hb, bg0 hb, List.getElem?_cons_zero, eq_int, hk, beq_self_eq_true, if_true, len_fro, dGe, dCmpI, List.length_map, decide_eq_true hl, toR]
    · obtain ⟨x, hx, hxm⟩ := atI_of (l := s.ns.map D.int) hi.i0 (by rw [List.length_map]; omega)
      obtain ⟨y, _, rfl⟩ := List.mem_map.mp hxm
      refine fin ⟨s.ns, s.i + 1, if y < 0 then -y else y, 12 + 48 * (if (10 : Int) ^ 18 ≤ (if y < 0 then -y else y) then 1 else 0), if (10 : Int) ^ 18 ≤ (if y < 0 then -y else y) then 1 else 0⟩ ⟨by have := hi.i0; show 0 ≤ s.i + 1; omega⟩ _ ?_
      simp only [sSeq, sSetIx, sIf, sSet, sRet, sNil, bVal, eBin, eVar, eC, eArgs, eCons, eNil, Res.bind, Res.toS, Res.toSB, asB, bg3 hb, bg1 hb, bg0 hb, List.getElem?_cons_zero, eq_int, hk, beq_self_eq_true, if_true, len_fro, dGe, dCmpI, List.length_map, decide_eq_false hl, Bool.false_eq_true, if_false, ix_fro hx, dInt, dAbs, bs2 hb, dAdd, bs1 hb, bg2 hb, dPow, show (0 : Int) ≤ 18 ∧ (18 : Int) ≤ 1000000 ∧ (10 : Int).natAbs < 2 ^ 64 by decide, show (18 : Int).toNat = 18 by rfl, bs4 hb, bg4 hb, dMul, show (-(2 ^ 64) < (48 : Int) ∧ (48 : Int) < 2 ^ 64) by decide, and_self, true_or, bs3 hb]
      simp only [decide_eq_true_eq]
  · refine fin s hi _ ?_
    simp only [sIf, sNil, bVal, eBin, eVar, eC, Res.bind, Res.toSB, asB, bg3 hb, List.getElem?_cons_zero, eq_int, show (s.k == 0) = false by simp [hk], Bool.false_eq_true, if_false]
end T2
namespace T2
open PySem L2 PyProof.Rows

/-! ### operators of an own class -/
section
variable {X : Cx} {CX : CXT} {k : Nat} {f C : Addr} {fd : FuncData} {ps : List Str} {sp : Sp} {E : L2.St → XK} {x m : Str} {p pos apos : Pos} {a b e o : Expr} {es : List Expr} {ta tb : TE} {t : TA}
end

/-! ### .. over trees -/
def both (M : MH) (c : Nat) (x y : D) : Bool := match instOf M x, instOf M y with
  | some (c1, _, _), some (c2, _, _) => decide (c1 = c ∧ c2 = c)
  | _, _ => false
def eOwn2 (c : Nat) (f : List D → MH → Res D) (a b : EM) : EM := fun e M => (a e M).bind fun x M1 => (b e M1).bind fun y M2 => if both M2 c x y = true then f [x, y] M2 else .bad
def eOwn1 (c : Nat) (f : List D → MH → Res D) (a : EM) : EM := fun e M => (a e M).bind fun x M1 => match instOf M1 x with
  | some (c1, _, _) => if c1 = c then f [x] M1 else .bad
  | none => .bad
/-- an outcome that is no exception -/
def okR (r : Res D) : Res D := match r with
  | .ok d M => .ok d M
  | _ => .bad
/-- o.f, f a property -/
def eProp (c : Nat) (f : List D → MH → Res D) (a : EM) : EM := eOwn1 c (fun ds M => okR (f ds M)) a
/-- C.m(..), m a staticmethod -/
def eStat (c n : Nat) (f : List D → MH → Res D) (a : AM) : EM := eArgs (fun ds M => if ds.length = n then f ds M else .bad) a
section
variable {X : Cx} {g : Wd} {W : WY} {a b o : Expr} {pos p apos : Pos} {m1 m2 : EM} {ma : AM} {es : List Expr} {k n : Nat} {f C : Addr} {fd : FuncData} {ps : List Str} {m : List D → MH → Res D} {x mn : Str} {c : Nat}
end

/-! ### != where the class has == alone; bool(x) by an own __bool__ -/
section
variable {prog : Program} {w : World} {A : Around} {E : Value → Shared → Prop} {s : Shared} {K : PySem.W.Frag} {x C L f y : Addr} {h₀ : Heap} {m : Str → Option Value} {ox : Obj} {od : Option Obj} {name : Str} {b tb : Value}
end
end T2
namespace T2
open PySem L2 PyProof.Rows
/-! ### .. as readings -/
section
variable {X : Cx} {CX : CXT} {k : Nat} {f C : Addr} {fd : FuncData} {ps : List Str} {sp : Sp} {E : L2.St → XK} {x m : Str} {p pos apos : Pos} {a b e o : Expr} {es : List Expr} {ta tb : TE} {t : TA}
theorem run_at {A' : Around} {pins : List (Addr × Obj)} {σ : L2.St} {H : Hp} {s : Shared} {Q : VK} {us : List Value} {vs : List V} (F : FnOk X.prog X.w X.K X.mg X.base CX k f fd ps sp) (hr : Room k A') (e0 : Env0 X.prog X.w X.K X.mg X.base A' X.stack s H) (hb : Binds X.K fd ps []) (hx : PassesAt CX X σ (E σ))
    (I : Inv X pins σ H s) (r : Vals vs us) (h : sp vs H Q (E σ)) : wpAny (model X.prog X.w) A' (call (.ref f) us) (EP X pins σ Q) X.xe s := by
  have args := hb s us I.kIn (by simpa using r.length.symm.trans (F.len _ _ _ _ h))
  refine wpAny_call (codeAny_mono (F.run A' X.stack s H ⟨us, []⟩ us vs Q (E σ) hr e0 (by simpa using args) r h) fun res s' q => ?_)
  match res, q with
  | .error e, q => exact hx pins H s e s' I q
  | .ok (.ret u), q => exact I.after q
  | .ok .next, q | .ok .brk, q | .ok .cont, q => exact q.elim
end
def blR (r : Res D) : Res D := match r with
  | .ok (.bl k) M => .ok (.bl k) M
  | .ok _ _ => .bad
  | r => r
section
variable {X : Cx} {g : Wd} {W : WY} {a b o : Expr} {pos p apos : Pos} {m1 m2 : EM} {ma : AM} {es : List Expr} {k n : Nat} {f C : Addr} {fd : FuncData} {ps : List Str} {m : List D → MH → Res D} {x mn : Str} {c : Nat}
end
end T2
namespace T2
open PySem L2 PyProof.Rows
/-! ### t.index(x), l.index(x): texts -/
def strsOf : List D → Option (List Str)
  | [] => some []
  | .str x :: ds => (strsOf ds).map (x :: ·)
  | _ => none
section
variable {X : Cx} {g : Wd} {W : WY} {a b o : Expr} {pos p apos : Pos} {m1 m2 : EM}
end
end T2
namespace T2
open PySem L2
end T2
namespace T2
open PySem L2 PyProof.Rows

/-! ### super().__init__(..) in an own exception over ValueError -/
section
variable {prog : Program} {w : World} {A : Around} {E : Value → Shared → Prop} {h : Heap} {g : Array GenState} {d : Drawn} {t : Nat} {os : OsState} {nm q : Str} {C N : Addr} {bs bm : List Value} {hdct : Bool} {sn : List Str} {sub : List Value} {ab : Bool} {col : Option Bool} {dd : Option Addr} {k0 k1 k2 k3 k5 : Option Value}
/-- the bound __init__ of ValueError, called -/
theorem call_mw {u e t0 : Addr} {rest : List Value} {Q : Value → Shared → Prop} (hC : h.get? C = some (excClassObj nm q C N bs bm hdct sn sub ab col dd k0 k1 k2 k3 k5 "ValueError.__new__")) (he : h.get? e = some (HandSPX.excO C t0)) (hu : h.get? u = some (PySem.W.kxs_mw "ValueError.__init__" e)) (hz : rest.length ≤ sizeLine)
    (hq : ∀ h' t1, (∀ b o, b ≠ e → h.get? b = some o → h'.get? b = some o) → h'.get? e = some (HandSPX.excO C t1) → Q .none ⟨h', g, d, t, os⟩) : wpAny (model prog w) A (call (.ref u) rest) Q E ⟨h, g, d, t, os⟩ := by
  refine wpAny_call (codeAny_of_tree (show wpAny _ A.in1 (callAny (.ref u) ⟨rest, []⟩) _ _ _ from ?_))
  simp only [callAny]
  refine wpAny_bind (wpAny_load hu ?_)
  simp only [PySem.W.kxs_mw, show ((Value.type "method-wrapper" == Value.type "method" || Value.type "method-wrapper" == Value.type "builtin_function_or_method") || Value.type "method-wrapper" == Value.type "method-wrapper") = true by decide, if_true]
  refine W.KFB.if_so (by decide) (wpAny_bind (PySem.ESX.check_bound F.excBase_ValueError hC he rfl (wpAny_bind (wpAny_pure (wpAny_pure ?_)))))
  refine ⟨plainId_quiet F.excBase_ValueError.init.plain _, codeAny_builtin F.excBase_ValueError.initEntry ?_⟩
  rw [Around.under_plainId F.excBase_ValueError.init.plain _]
  wp_walk
  refine hq _ h.objs.size (fun b o hb ho => by rw [Heap.get?_update_other _ _ (Ne.symm hb)]; exact Heap.get?_push_of_some _ ho) ?_
  rw [Heap.get?_update_self _ (Heap.get?_push_of_some _ he) rfl]; rfl
end
/-- the scope of such an __init__ -/
structure ScopeS (N ps : List Str) (sc : Scope) : Prop where
  kind : sc.kind = .function
  co : sc.isCoroutine = false
  gen : sc.isGenerator = false
  nd : N.Nodup
  pre : N.take ps.length = ps
  par : ∀ x ∈ ps, sc.names.lookup x = some .local
  nocell : ∀ y ∈ sc.names, y.2 ≠ .cell
  sup : sc.names.lookup ("super" : Str) = some .globalImplicit
  cls : sc.names.lookup ("__class__" : Str) = some .free
  free : ∀ y ∈ sc.names, y.2 = .free → y.1 = "__class__"
def cxS (CX : CXT) (P : Program) (w : World) (K : PySem.W.Frag) (mg : Str → Option Value) (base : Heap) (N : List Str) (qual : Str) (scope : Scope) (f : Addr) (cd : Value) (cc : Addr) (A : Around) (outer : List Env) (s : Shared) (H : Hp) (E : XK) : Cx where
  prog := P
  w := w
  K := K
  mg := mg
  base := base
  A := A.deeper (PySem.W.ksEnv qual scope s.heap.objs.size f cd cc)
  N := N
  s_0 := s
  H_0 := H
  env := PySem.W.ksEnv qual scope s.heap.objs.size f cd cc
  outer := outer
  stack := PySem.W.ksEnv qual scope s.heap.objs.size f cd cc :: outer
  ex := []
  calm := true
  fn := fun x => x != "__class__"
  pn := []
  xe := fun e s' => wpAny (model P w) (A.deeper (PySem.W.ksEnv qual scope s.heap.objs.size f cd cc)) (leaving (PySem.W.ksEnv qual scope s.heap.objs.size f cd cc) e) (fun _ s'' => CX outer H s E e s'') (fun e' s'' => CX outer H s E e' s'') s'
theorem look_nodup {x : Str} {u : Value} : ∀ {l : List (Str × Value)}, (l.map (·.1)).Nodup → (x, u) ∈ l → l.lookup x = some u
  | [], _, h => by simp at h
  | (y, v) :: l, nd, h => by
    rw [List.map_cons, List.nodup_cons] at nd
    rw [List.lookup_cons]
    rcases List.mem_cons.mp h with e | e
    · cases e; simp
    · have : (x == y) = false := by
        rw [beq_eq_false_iff_ne]
        rintro rfl
        exact nd.1 (List.mem_map.mpr ⟨_, e, rfl⟩)
      rw [this]
      exact look_nodup nd.2 e
theorem one_cell {c d : Addr} {x y : Str} (h : ([(y, c)] : List (Str × Addr)).lookup x = some d) : x = y ∧ c = d := by
  rw [List.lookup_cons] at h
  cases e : (x == y) with
  | true => rw [e] at h; exact ⟨beq_iff_eq.mp e, Option.some.inj h⟩
  | false => rw [e] at h; cases h
theorem start_val {N : List Str} {vs : List V} {i : Nat} {v : V} (h : (L2.start N vs)[i]? = some (some v)) : vs[i]? = some v := by
  unfold L2.start at h
  rw [List.getElem?_append] at h
  split at h
  · simpa using h
  · rw [List.getElem?_replicate] at h
    split at h <;> simp at h
theorem inv_startS {CX : CXT} {P : Program} {w : World} {K : PySem.W.Frag} {mg : Str → Option Value} {base : Heap} {N ps : List Str} {qual : Str} {scope : Scope} {f cc : Addr} {cd : Value} {A : Around} {outer : List Env} {s : Shared} {H : Hp} {E : XK} {us : List Value} {vs : List V} {h1 : Heap} {tk : Nat} {cv : Option Value}
    (S : ScopeS N ps scope) (hd : A.handled = none) (e0 : Env0 P w K mg base A outer s H) (hl : vs.length = ps.length) (r : Vals vs us) (hc : ∃ o, K.lookup cc = some o ∧ o.data = .cell cv)
    (hns : h1.Ns s.heap.objs.size (fun x => (ps.zip us).reverse.lookup x)) (hk : ∀ b o, s.heap.get? b = some o → h1.get? b = some o) :
    Inv (cxS CX P w K mg base N qual scope f cd cc A outer s H E) [] (start N vs) H { s with heap := h1, toks := tk } := by
  have hpl : ps.length ≤ N.length := by have := congrArg List.length S.pre; rw [List.length_take] at this; omega
  have ndP : ps.Nodup := by rw [← S.pre]; exact S.nd.sublist (List.take_sublist _ _)
  obtain ⟨co, lc, dc⟩ := hc
  have bc := e0.mod.kin _ _ lc
  have sc := e0.bs _ _ bc
  have noA : ∀ b : Addr, b ∉ (cxS CX P w K mg base N qual scope f cd cc A outer s H E).ex := fun b z => absurd (show b ∈ ([] : List Addr) from z) (by simp)
  refine ⟨⟨e0.mod, S.kind, rfl, rfl, Nat.le_refl _, fun y z c h1 h2 => (one_cell h1).1.trans (one_cell h2).1.symm, fun y hy => ?_, fun y c hn h => ?_, fun _ => hd, Around.frames_deeper e0.frames, .inr ⟨rfl, rfl⟩, fun b z => absurd z (noA b), e0.bs, e0.bsz, fun b _ _ => noA b, fun b z => absurd z (noA b), e0.funs, e0.frf⟩,
    rfl, e0.bare, Un.kept hk, ⟨_, hns, fun i y v h1 h2 h3 => ?_⟩, fun y c h => ?_, e0.hok.fresh (Nat.le_refl _), fun y c h => ?_, fun p hp => absurd (show p ∈ ([] : List (Addr × Obj)) from hp) (by simp), e0.hok.kept hk, ?_⟩
  · have hy : scope.names.lookup y = some .cell ∨ scope.names.lookup y = some .free := hy
    rcases hy with hy | hy
    · exact absurd rfl (S.nocell _ (PySem.mem_of_lookup hy))
    · have : y = "__class__" := S.free _ (PySem.mem_of_lookup hy) rfl
      subst this
      exact ⟨cc, by rfl⟩
  · obtain ⟨rfl, _⟩ := one_cell h
    exact absurd (show (("__class__" : Str) != "__class__") = true from hn) (by decide)
  · have ha : vs[i]? = some v := start_val h2
    have hi : i < vs.length := (List.getElem?_eq_some_iff.mp ha).1
    obtain ⟨u, hu, rv⟩ := r.get ha
    have hp : ps[i]? = some y := by rw [← S.pre, List.getElem?_take_of_lt (by omega)]; exact h1
    refine ⟨u, rv, .inl ⟨S.par y (List.mem_of_getElem? hp), ?_⟩⟩
    have hul : us.length = ps.length := by rw [← r.length]; exact hl
    refine look_nodup ?_ ?_
    · rw [List.map_reverse, List.map_fst_zip (by omega)]
      exact List.pairwise_reverse.mpr (ndP.imp fun h => Ne.symm h)
    · rw [List.mem_reverse]
      exact List.mem_of_getElem? (by rw [List.getElem?_zip_eq_some]; exact ⟨hp, hu⟩)
  · obtain ⟨rfl, rfl⟩ := one_cell h
    exact ⟨cv, co, hk _ _ sc.1, dc⟩
  · obtain ⟨rfl, rfl⟩ := one_cell h
    exact sc.2
  · unfold L2.start
    show _ = N.length
    rw [List.length_append, List.length_map, List.length_replicate]
    omega
end T2
namespace T2
open PySem L2 PyProof.Rows

/-! ### changes at places that no value reads -/
def NExt (o : HO) : Prop := ∀ p, o ≠ .ext p
section
variable {g : Wd} {F : List Addr} {H H' : Hp}
theorem FroL.ext (k : ∀ b o, H b = some o → NExt o → H' b = some o) {a : Addr} {vs : List V} (h : FroL g F H a vs) : FroL g F H' a vs := by
  rcases h with ⟨h, n⟩ | ⟨o, h⟩ | h
  · exact .inl ⟨k _ _ h (fun _ z => by cases z), n⟩
  · exact .inr (.inl ⟨o, k _ _ h (fun _ z => by cases z)⟩)
  · exact .inr (.inr h)
theorem sqT_ext (k : ∀ b o, H b = some o → NExt o → H' b = some o) {a : Addr} {vs : List V} (h : SqT g.K H a vs) : SqT g.K H' a vs := by
  rcases h with (h | ⟨o, h⟩) | h
  · exact .inl (.inl (k _ _ h (fun _ z => by cases z)))
  · exact .inl (.inr ⟨o, k _ _ h (fun _ z => by cases z)⟩)
  · exact .inr h
mutual
theorem Rep.ext (k : ∀ b o, H b = some o → NExt o → H' b = some o) : ∀ {d : D} {v : V}, Rep g F H d v → Rep g F H' d v
  | _, _, .non => .non
  | _, _, .bl b => .bl b
  | _, _, .int i => .int i
  | _, _, .str x => .str x
  | _, _, .ty n => .ty n
  | _, _, .cls c => .cls c
  | _, _, .obj a => .obj a
  | _, _, .tk h => .tk (k _ _ h (fun _ z => by cases z))
  | _, _, .ref h => .ref h
  | _, _, .tup h r => .tup (sqT_ext k h) (Reps.ext k r)
  | _, _, .fro h r => .fro (h.ext k) (Reps.ext k r)
  | _, _, .ins h hn hl r => .ins (k _ _ h (fun _ z => by cases z)) hn hl (Reps.ext k r)
theorem Reps.ext (k : ∀ b o, H b = some o → NExt o → H' b = some o) : ∀ {ds : List D} {vs : List V}, Reps g F H ds vs → Reps g F H' ds vs
  | _, _, .nil => .nil
  | _, _, .cons h t => .cons (Rep.ext k h) (Reps.ext k t)
end
theorem ObjR.ext (k : ∀ b o, H b = some o → NExt o → H' b = some o) {o : MO} {h : HO} (r : ObjR g F H o h) : ObjR g F H' o h := by
  cases r with
  | lst r => exact .lst (r.ext k)
  | dk hl r => exact .dk hl (r.ext k)
  | dt hl r => exact .dt hl (r.ext k)
  | ob hl r => exact .ob hl (r.ext k)
  | lk hl r => exact .lk hl (r.ext k)
  | lt hl r => exact .lt hl (r.ext k)
theorem ObjR.nx {o : MO} {h : HO} (r : ObjR g F H o h) : NExt h := by cases r <;> exact fun _ z => by cases z
theorem RelM.ext (k : ∀ b o, H b = some o → NExt o → H' b = some o) {M : MH} (R : RelM g F M H) : RelM g F M H' :=
  ⟨R.len, R.nd, fun n a o e m => by
    obtain ⟨h, e2, r⟩ := R.obj n a o e m
    exact ⟨h, k _ _ e2 r.nx, r.ext k⟩⟩
theorem EnvR.ext (k : ∀ b o, H b = some o → NExt o → H' b = some o) : ∀ {e : Env2} {s : L2.St}, EnvR g F H e s → EnvR g F H' e s
  | _, _, .nil => .nil
  | _, _, .cons .none t => .cons .none (EnvR.ext k t)
  | _, _, .cons (.some r) t => .cons (.some (r.ext k)) (EnvR.ext k t)
theorem grow_same {F F' : List Addr} {M : MH} {H' : Hp} (h : F <+: F') (R : RelM g F M H) (R' : RelM g F' M H') : F' = F := by
  obtain ⟨t, rfl⟩ := h
  have := R'.len
  rw [List.length_append, R.len] at this
  have : t = [] := List.eq_nil_of_length_eq_zero (by omega)
  rw [this, List.append_nil]
end

/-! ### the stores of an own exception's __init__ -/
def WN : WY := ⟨fun _ _ _ _ => False, ⟨[], []⟩⟩
inductive Sto (X : Cx) (g : Wd) (C : Addr) : List Stmt → List (Str × EM) → Prop
  | nil : Sto X g C [] []
  | cons {f : Str} {p p' pos : Pos} {e : Expr} {m : EM} {sts : List Stmt} {l : List (Str × EM)} (hs : PE X (.Name "self" p) (tVar 0)) (he : PE X e (tD g WN m)) (hf : PySem.W.findIn X.K (.ref C) f = some none)
      (hw : swapsWith e (some (.Attribute (.Name "self" p) f p')) pos.line X.env = pure false) (h : Sto X g C sts l) : Sto X g C (.Assign [.Attribute (.Name "self" p) f p'] e pos :: sts) ((f, m) :: l)
/-- the exception at a, its dict at d with the fields fs -/
inductive XS (a C : Addr) (H : Hp) : Option Addr → List (Str × V) → Prop
  | no (h : H a = some (exo a C none)) : XS a C H none []
  | so {d : Addr} {fs : List (Str × V)} (h : H a = some (exo a C (some d))) (hd : H d = some (exd d fs)) (hne : d ≠ a) : XS a C H (some d) fs
def evs (env : Env2) (M : MH) : List (Str × EM) → List (Str × D) → Prop
  | [], acc => acc = []
  | (f, m) :: l, acc => ∃ d r, m env M = .ok d M ∧ evs env M l r ∧ acc = (f, d) :: r
theorem sto_run {X : Cx} {g : Wd} {C a : Addr} (T : OexC X.K C) {F : List Addr} {env : Env2} {M : MH} {H0 : Hp} {pins : List (Addr × Obj)} {E : Ends} {σ : L2.St} (h0 : σ[0]? = some (some (.ref a))) :
    ∀ {sts : List Stmt} {l : List (Str × EM)}, Sto X g C sts l → ∀ (H : Hp) (s : Shared) (o : Option Addr) (ns : List Str) (ds : List D) (vs : List V) (acc : List (Str × D)), Inv X pins σ H s → RelM g F M H → EnvR g F H env σ → XS a C H o (ns.zip vs) → ns.length = vs.length → ns.length + l.length ≤ 100 → Reps g F H ds vs →
      (∀ b u, b ≠ a → (b ∉ F ∨ ¬ NoLk (some u)) → H0 b = some u → H b = some u) → (∀ b, H b = none → H0 b = none) → (∀ d, o = some d → H0 d = none) → evs env M l acc →
      (∀ H2 o2 vs2, (∀ b u, b ≠ a → (b ∉ F ∨ ¬ NoLk (some u)) → H0 b = some u → H2 b = some u) → XS a C H2 o2 (((acc.map (·.1)).reverse ++ ns).zip vs2) → ((acc.map (·.1)).reverse ++ ns).length = vs2.length → (∀ d, o2 = some d → H0 d = none) → RelM g F M H2 → Reps g F H2 ((acc.map (·.2)).reverse ++ ds) vs2 → E.nx σ H2) →
      wpAny (model X.prog X.w) X.A (execs sts X.env) (SP X pins E) X.xe s := by
  intro sts l S
  induction S with
  | nil =>
    intro H s o ns ds vs acc I R e xs hl hz r k kd ko ev fin
    cases ev
    rw [execs_nil]
    refine wpAny_pure ⟨σ, H, I, fin H o vs k ?_ ?_ ko R ?_⟩ <;> simpa
  | @cons f p p' pos ex m sts l hs he hf hw hS ih =>
    intro H s o ns ds vs acc I R e xs hl hz r k kd ko ev fin
    obtain ⟨d, ar, hm, ev, rfl⟩ := ev
    have key : tOst X.K f (tVar 0) (tD g WN m) { nx := fun σ' H' => σ' = σ ∧ ∃ o2 v vs', RelM g F M H' ∧ EnvR g F H' env σ ∧ XS a C H' o2 ((f :: ns).zip (v :: vs')) ∧ ns.length = vs'.length ∧ Reps g F H' (d :: ds) (v :: vs') ∧ (∀ b u, b ≠ a → (b ∉ F ∨ ¬ NoLk (some u)) → H0 b = some u → H' b = some u) ∧ (∀ b, H' b = none → H0 b = none) ∧ (∀ d, o2 = some d → H0 d = none), rt := fun _ _ => False } σ H := by
      refine ⟨F, env, M, ⟨R, e, pin_nil, xrs_nil⟩, ?_⟩
      rw [hm]
      intro F1 H1 v g1 R1 rv
      have hF : F = F1 := (grow_same g1.pre R R1).symm
      subst hF
      refine ⟨.ref a, h0, a, C, rfl, T, hf, ?_⟩
      have nF : ∀ {b : Addr} {u : HO}, H b = some u → ¬ MutO (some u) → b ∉ F := fun hb hu => R.good.notin hb hu
      generalize hfs : ns.zip vs = fs at xs
      cases xs with
      | no h =>
        obtain rfl : ns = [] := by
          cases ns with
          | nil => rfl
          | cons x xs => cases vs with
            | nil => cases hl
            | cons y ys => cases hfs
        obtain rfl : vs = [] := List.eq_nil_of_length_eq_zero hl.symm
        have ha : a ∉ F := nF h (fun z => z)
        have h1 := g1.keep _ _ h ha
        refine .inl ⟨h1, fun dx hd hda => ⟨rfl, some dx, v, [], ?_⟩⟩
        have kk : ∀ b o, H1 b = some o → NExt o → upd (upd H1 dx (exd dx [(f, v)])) a (exo a C (some dx)) b = some o := fun b o hb hn => by
          have b1 : b ≠ a := fun z => by rw [z, h1] at hb; exact hn _ (Option.some.inj hb).symm
          have b2 : b ≠ dx := fun z => by rw [z, hd] at hb; cases hb
          rw [upd_ne b1, upd_ne b2]; exact hb
        refine ⟨R1.ext kk, (e.mono g1 R.good).ext kk, .so (d := dx) upd_same (by rw [upd_ne hda]; exact upd_same) hda, rfl, .cons (rv.ext kk) ((r.mono g1 R.good).ext kk), fun b u hb hf hu => ?_, fun b hb => ?_, fun d hd' => ?_⟩
        · have z := g1.keep2 (k b u hb hf hu) hf
          have b2 : b ≠ dx := fun y => by rw [y, hd] at z; cases z
          rw [upd_ne hb, upd_ne b2]; exact z
        · by_cases b1 : b = a
          · rw [b1, upd_same] at hb; cases hb
          · rw [upd_ne b1] at hb
            by_cases b2 : b = dx
            · rw [b2, upd_same] at hb; cases hb
            · rw [upd_ne b2] at hb
              by_cases hbF : b ∈ F
              · have := R1.good b hbF; rw [hb] at this; exact this.elim
              · cases z : H b with
                | none => exact kd b z
                | some u => rw [g1.keep _ _ z hbF] at hb; cases hb
        · cases hd'
          have hdF : dx ∉ F := R1.notin hd
          cases z : H dx with
          | none => exact kd dx z
          | some u => rw [g1.keep _ _ z hdF] at hd; cases hd
      | so h hd hne =>
        rename_i dx
        subst hfs
        have ha : a ∉ F := nF h (fun z => z)
        have hdF : dx ∉ F := nF hd (fun z => z)
        have h1 := g1.keep _ _ h ha
        have hd1 := g1.keep _ _ hd hdF
        have hzl : (ns.zip vs).length ≤ 900 := by rw [List.length_zip]; omega
        refine .inr ⟨dx, ns.zip vs, h1, hd1, hzl, ⟨rfl, some dx, v, vs, ?_⟩⟩
        have hda : a ≠ dx := Ne.symm hne
        have kk : ∀ b o, H1 b = some o → NExt o → upd H1 dx (exd dx ((f, v) :: ns.zip vs)) b = some o := fun b o hb hn => by
          have b2 : b ≠ dx := fun z => by rw [z, hd1] at hb; exact hn _ (Option.some.inj hb).symm
          rw [upd_ne b2]; exact hb
        refine ⟨R1.ext kk, (e.mono g1 R.good).ext kk, .so (d := dx) (by rw [upd_ne hda]; exact h1) upd_same hne, hl, .cons (rv.ext kk) ((r.mono g1 R.good).ext kk), fun b u hb hf hu => ?_, fun b hb => ?_, fun d hd' => ko d hd'⟩
        · have z := g1.keep2 (k b u hb hf hu) hf
          have b2 : b ≠ dx := fun y => by rw [y] at hu; rw [ko dx rfl] at hu; cases hu
          rw [upd_ne b2]; exact z
        · by_cases b2 : b = dx
          · rw [b2, upd_same] at hb; cases hb
          · rw [upd_ne b2] at hb
            by_cases hbF : b ∈ F
            · have := R1.good b hbF; rw [hb] at this; exact this.elim
            · cases z : H b with
              | none => exact kd b z
              | some u => rw [g1.keep _ _ z hbF] at hb; cases hb
    refine wpAny_execs_cons (thn ((ps_ost (p' := p') (f := f) (pos := pos) hs he hw).run pins s σ H _ I key) fun fl s1 q => ?_)
    cases fl with
    | next =>
      obtain ⟨σ', H', I', rfl, o2, v, vs', R', e', xs', hl', r', k', kd', ko'⟩ := q
      refine ih H' s1 o2 (f :: ns) (d :: ds) (v :: vs') ar I' R' e' xs' (by simp [hl']) (by simp at hz ⊢; omega) r' k' kd' ko' ev fun H2 o3 vs2 k2 x2 l2 ko2 R2 r2 => fin H2 o3 vs2 k2 ?_ ?_ ko2 R2 ?_
      · simpa using x2
      · simpa using l2
      · simpa using r2
    | ret v => obtain ⟨_, _, _, _, _, q⟩ := q; exact q.elim
    | brk => obtain ⟨_, _, _, q⟩ := q; exact q.elim
    | cont => obtain ⟨_, _, _, q⟩ := q; exact q.elim

/-! ### super().__init__(text), first in such an __init__ -/
structure SupIn (P : Program) (K : PySem.W.Frag) (mg : Str → Option Value) (C f cc cda : Addr) (fd : FuncData) : Prop where
  lk : ∃ oc od osl, K.lookup f = some ⟨oc, od, .func fd, osl⟩
  par : ∃ ar : Arg, (fd.params.posonlyargs ++ fd.params.args).head? = some ar ∧ ar.arg = "self"
  code : ∃ ccl cdd vs ccs file tf, K.lookup cda = some ⟨ccl, cdd, .fields vs, ccs⟩ ∧ vs[2]? = some (.str file tf) ∧ ((P.main.file : Str) == file) = true
  cell : ∃ cl cld csl, K.lookup cc = some ⟨cl, cld, .cell (some (.ref C)), csl⟩
  self : PySem.W.mroIn K C (.ref C) = some true
  sup : mg "super" = none
  third : PySem.W.nsIn K cStatics "thirdparty.any" = some none
  sin : PySem.W.ks_superIn K C C "__init__" = some (some (.builtin "ValueError.__init__"))
  isV : PySem.W.subIn K (.ref C) (.type "ValueError") = some true
  top : (P.main.scope.names.lookup ("super" : Str)).isSome = false
theorem boot_super : bootBuiltins "super" = some (.type "super") := by decide +kernel
abbrev supSt (txt : Str) (j : Nat) (p0 p1 p2 p3 p4 p5 : Pos) : Stmt := .Expr (.Call (.Attribute (.Call (.Name "super" p0) [] [] p1) "__init__" p2) [.Constant (.str txt) j p3] [] p4) p5
theorem sup_first {CX : CXT} {P : Program} {w : World} {K : PySem.W.Frag} {mg : Str → Option Value} {base : Heap} {N ps : List Str} {qual : Str} {scope : Scope} {f cda cc C a : Addr} {fd : FuncData} {A : Around} {outer : List Env} {s0 : Shared} {H0 : Hp} {E0 : XK} {σ : L2.St} {H : Hp} {s : Shared} {body rest : List Stmt}
    {txt : Str} {j : Nat} {p0 p1 p2 p3 p4 p5 : Pos} {Q : Flow → Shared → Prop}
    (S : ScopeS N ps scope) (T : OexC K C) (U : SupIn P K mg C f cc cda fd) (hN : N[0]? = some ("self" : Str)) (hl : scope.names.lookup ("self" : Str) = some .local)
    (I : Inv (cxS CX P w K mg base N qual scope f (.ref cda) cc A outer s0 H0 E0) [] σ H s) (ea : H a = some (exo a C none)) (h0 : σ[0]? = some (some (.ref a)))
    {pl : Sem Bool} (he : eval (.Call (.Attribute (.Call (.Name "super" p0) [] [] p1) "__init__" p2) [.Constant (.str txt) j p3] [] p4) (PySem.W.ksEnv qual scope s0.heap.objs.size f (.ref cda) cc) = (do
      let ov ← attributeBase (.Call (.Name "super" p0) [] [] p1) "__init__" (PySem.W.ksEnv qual scope s0.heap.objs.size f (.ref cda) cc) (eval (.Call (.Name "super" p0) [] [] p1) (PySem.W.ksEnv qual scope s0.heap.objs.size f (.ref cda) cc))
      standAt p2.atName
      let (f', first) ← holding [ov] (getMethod ov "__init__" pl)
      callWith p4 f' first (backTo p4 (starEach [.Constant (.str txt) j p3] (PySem.W.ksEnv qual scope s0.heap.objs.size f (.ref cda) cc))) []))
    (hi : interactive (PySem.W.ksEnv qual scope s0.heap.objs.size f (.ref cda) cc) = false)
    (k : ∀ s', Inv (cxS CX P w K mg base N qual scope f (.ref cda) cc A outer s0 H0 E0) [] σ H s' → wpAny (model P w) (cxS CX P w K mg base N qual scope f (.ref cda) cc A outer s0 H0 E0).A (execs rest (cxS CX P w K mg base N qual scope f (.ref cda) cc A outer s0 H0 E0).env) Q (cxS CX P w K mg base N qual scope f (.ref cda) cc A outer s0 H0 E0).xe s') :
    _root_.PySem.wpAt (model P w) (cxS CX P w K mg base N qual scope f (.ref cda) cc A outer s0 H0 E0).A (.func body (PySem.W.ksEnv qual scope s0.heap.objs.size f (.ref cda) cc))
      (execs (supSt txt j p0 p1 p2 p3 p4 p5 :: rest) (PySem.W.ksEnv qual scope s0.heap.objs.size f (.ref cda) cc)) Q (cxS CX P w K mg base N qual scope f (.ref cda) cc A outer s0 H0 E0).xe s := by
  obtain ⟨nm, q, N', bs, bm, sn, sub, ab, col, dd, k0, k1, k2, k3, k5, hC, hbm⟩ := T.cls
  obtain ⟨oc, od, osl, lk⟩ := U.lk
  obtain ⟨ar, hp, har⟩ := U.par
  obtain ⟨ccl, cdd, vs, ccs, file, tf, hco, hvs, hfile⟩ := U.code
  obtain ⟨cl, cld, csl, hcc⟩ := U.cell
  obtain ⟨t1, ho⟩ := exo_at I.hok ea
  have KX := I.kIn
  have KX : K.In s.heap := KX
  obtain ⟨m, hns, hloc⟩ := I.loc
  obtain ⟨u, ru, hlk⟩ := hloc 0 "self" (.ref a) hN h0 (.inl hl)
  obtain rfl : u = Value.ref a := ru
  have hms : m ar.arg = some (.ref a) := by
    rw [har]
    rcases hlk with ⟨_, h⟩ | ⟨h, _⟩
    · exact h
    · have h : scope.names.lookup ("self" : Str) = some .cell ∨ scope.names.lookup ("self" : Str) = some .free := h
      rw [hl] at h; rcases h with h | h <;> cases h
  obtain ⟨mb, hb1, hb2⟩ := I.mod.blt
  have hgl := I.mod.glob.keeps I.bk
  obtain ⟨hh, g, d, t, os⟩ := s
  have hcl : PySem.W.clsIn K C = some { name := nm, bases := bs, mro := .ref C :: bm, ns := N', qualname := q, hasDict := true, slotNames := sn, subclasses := sub, abstract := ab, collection := col, hasDel := false } := by unfold PySem.W.clsIn; rw [hC] <;> rfl
  have hCo := KX _ _ hC
  have IA : PySem.W.InstAt hh a { cls := .ref C, dict := none, data := .fields #[.ref t1, .none, .none, .none, .bool false, .none] } C none := ⟨ho, rfl, rfl, trivial⟩
  refine ks_wpAt_execs_cons (ks_wpAt_Expr_any (ks_wpAt_MethodCall (pl := pl) ?_ he) hi)
  refine ks_wpAt_super_base (env := PySem.W.ksEnv qual scope s0.heap.objs.size f (.ref cda) cc) S.sup S.cls (by decide) rfl (KX _ _ lk) rfl hp rfl (KX _ _ hco) rfl hvs hfile U.top ?_
  refine PySem.W.ks_loadName_global S.kind S.sup (PySem.Calls.loadGlobal_builtin (env := PySem.W.ksEnv qual scope s0.heap.objs.size f (.ref cda) cc) hgl U.sup (hb1.keeps I.bk) ((hb2 _ (by decide)).trans boot_super) ⟨rfl, ?_⟩)
  refine wpAny_loadName_free S.kind S.cls rfl ⟨_, KX _ _ hcc, rfl⟩ ?_
  refine wpAny_loadName_local S.kind (by rw [har]; exact hl) hns hms ?_
  refine ks_wpAny_isType_cls hCo rfl ⟨rfl, ?_⟩
  refine ks_wpAny_call_super hCo rfl ho rfl (fun c e => by cases e) (PySem.W.looks_mroIn KX U.self) (fun h1 e1 kk1 => ?_)
  have KX1 : K.In h1 := fun b o e => kk1 b o (KX b o e)
  have hI1 : PySem.W.Looks (model P w) h1 (isInstance (.ref a) (.type "ValueError")) true := (show PySem.W.InstAt h1 a _ C none from ⟨kk1 _ _ ho, rfl, rfl, trivial⟩).type.andThen (PySem.W.looks_subIn KX1 U.isV)
  have hsin := U.sin
  unfold PySem.W.ks_superIn at hsin
  rw [hcl, Option.bind_some] at hsin
  refine PySem.W.kxs_getMethod PySem.W.kxs_ValueError e1 (PySem.W.looks_opaque KX1 U.third) (l₀ := .ref C :: bm) ?_ rfl KX1 hsin hI1 (PySem.W.ks_ne KX IA hcl) (by decide) ?_
  · exact fun A Q E s k q => wpAny_bind ((PySem.W.looks_clsIn KX1 hcl) A _ E s k (wpAny_pure q))
  have kk2 : ∀ b o, hh.get? b = some o → (h1.push (PySem.W.kxs_mw "ValueError.__init__" a)).get? b = some o := fun b o e => Heap.get?_push_of_some _ (kk1 b o e)
  have I2 := I.kept (h' := h1.push (PySem.W.kxs_mw "ValueError.__init__" a)) (t' := t + 1) kk2
  have hsz : hh.objs.size ≤ h1.objs.size := Nat.le_of_lt (Heap.lt_size e1)
  have hu : (h1.push (PySem.W.kxs_mw "ValueError.__init__" a)).get? h1.objs.size = some (PySem.W.kxs_mw "ValueError.__init__" a) := Heap.get?_push_at rfl rfl
  have I3 := I2.pins_of (pins' := [(h1.objs.size, PySem.W.kxs_mw "ValueError.__init__" a)]) (fun p hp => by
    rcases List.mem_singleton.mp hp with rfl
    refine ⟨hu, I.hok.fresh hsz, ?_, I.nofs hsz, fun v z => by cases z⟩
    exact Nat.ne_of_gt (Nat.lt_of_lt_of_le I.lt hsz))
  refine PySem.W.kxs_callWith (i := "ValueError.__init__") (x := a) (by rfl) (PySem.Calls.evalArgs_plain (thn ((pa_cons pe_str pa_nil (by rfl)).run p4 _ _ σ H (fun vs H1 => vs = [.str txt] ∧ H1 = H) I3 ⟨rfl, rfl⟩) ?_))
  rintro us s4 ⟨ws, H4, I4, rw4, rfl, rfl⟩
  have hu4 := (I4.pin _ (List.mem_append_right _ (List.mem_singleton.mpr rfl))).1
  refine ⟨hu4, ?_⟩
  obtain ⟨t4, ho4⟩ := exo_at I4.hok ea
  obtain ⟨h4, g4, d4, tk4, os4⟩ := s4
  have hlen : us.length = 1 := by rw [← rw4.length]; rfl
  refine call_mw (I4.kIn _ _ hC) ho4 hu4 (by rw [List.nil_append, hlen]; decide) fun h' t5 kk5 he5 => ?_
  have J := I4.write (t' := tk4) (x := a) (e := a) (o := exo a C none) (by rw [ea]; exact True.intro) (.inl rfl) kk5 ⟨_, he5⟩ (exo_ok he5)
  have eu : upd H4 a (exo a C none) = H4 := by
    funext b
    by_cases hb : b = a
    · rw [hb, upd_same, ea]
    · rw [upd_ne hb]
  rw [eu] at J
  exact wpAt_of_wpAny (k _ (J.pins_of (pins' := []) (fun p hp => absurd hp (by simp))))
end T2
namespace T2
open PySem L2 PyProof.Rows

/-! ### an own exception's __init__ as a def -/
def spX (g : Wd) (c n : Nat) (ns : List Str) (f : List D → List D) : Sp := fun vs H Q _ => vs.length = n + 1 ∧ ∃ a ws F M ds, vs = .ref a :: ws ∧ H a = some (exo a (g.ca c) none) ∧ RelM g F M H ∧ Reps g F H ds ws ∧
  ∀ H2 d us, (∀ b u, b ≠ a → (b ∉ F ∨ ¬ NoLk (some u)) → H b = some u → H2 b = some u) → H2 a = some (exo a (g.ca c) (some d)) → H2 d = some (exd d (ns.zip us)) → d ≠ a → H d = none → ns.length = us.length → RelM g F M H2 → Reps g F H2 (f ds) us → Q .non H2
theorem fnX_ok {P : Program} {w : World} {K : PySem.W.Frag} {mg : Str → Option Value} {base : Heap} {g : Wd} {c n k : Nat} {f cc cda : Addr} {name qual : Str} {params : Arguments} {scope : Scope} {dV kV doc pm ct oc : Value} {an od : Option Addr} {osl : Array (Option Value)} {ps' : List Str} {ns : List Str}
    {txt : Str} {j : Nat} {p0 p1 p2 p3 p4 p5 : Pos} {rest : List Stmt} {l : List (Str × EM)} {acc : List D → List (Str × D)} {pl : Addr → Sem Bool}
    (lk : K.lookup f = some ⟨oc, od, .func (PySem.W.ksFn name qual params (supSt txt j p0 p1 p2 p3 p4 p5 :: rest) scope dV kV doc pm an (.ref cda) ct cc), osl⟩) (hcd : PySem.W.codeIn K (.ref cda) qual = true) (S : ScopeS ("self" :: ps') ("self" :: ps') scope) (T : OexC K (g.ca c))
    (U : SupIn P K mg (g.ca c) f cc cda (PySem.W.ksFn name qual params (supSt txt j p0 p1 p2 p3 p4 p5 :: rest) scope dV kV doc pm an (.ref cda) ct cc)) (hn : ps'.length = n)
    (he : ∀ L, eval (.Call (.Attribute (.Call (.Name "super" p0) [] [] p1) "__init__" p2) [.Constant (.str txt) j p3] [] p4) (PySem.W.ksEnv qual scope L f (.ref cda) cc) = (do
      let ov ← attributeBase (.Call (.Name "super" p0) [] [] p1) "__init__" (PySem.W.ksEnv qual scope L f (.ref cda) cc) (eval (.Call (.Name "super" p0) [] [] p1) (PySem.W.ksEnv qual scope L f (.ref cda) cc))
      standAt p2.atName
      let (f', first) ← holding [ov] (getMethod ov "__init__" (pl L))
      callWith p4 f' first (backTo p4 (starEach [.Constant (.str txt) j p3] (PySem.W.ksEnv qual scope L f (.ref cda) cc))) []))
    (hi : ∀ L, interactive (PySem.W.ksEnv qual scope L f (.ref cda) cc) = false)
    (hst : ∀ A outer s H E, Sto (cxS (L2N.CX P w) P w K mg base ("self" :: ps') qual scope f (.ref cda) cc A outer s H E) g (g.ca c) rest l)
    (hev : ∀ a ds M, ds.length = n → evs (some (.obj a) :: ds.map some) M l (acc ds)) (hns : ∀ ds, ((acc ds).map (·.1)).reverse = ns) (hnn : ns ≠ []) (hll : l.length ≤ 100) :
    FnOk P w K mg base (L2N.CX P w) (k + 1) f (PySem.W.ksFn name qual params (supSt txt j p0 p1 p2 p3 p4 p5 :: rest) scope dV kV doc pm an (.ref cda) ct cc) ("self" :: ps') (spX g c n ns fun ds => ((acc ds).map (·.2)).reverse) := by
  refine ⟨fun vs H Q E h => by rw [h.1, List.length_cons, hn], fun A outer s H args us vs Q E hr e0 hb r hsp => ?_⟩
  obtain ⟨hl, a, ws, F, M, ds, rfl, ea, R, rs, fin⟩ := hsp
  have KX : K.In s.heap := e0.mod.kin.keeps fun b o e => (e0.bs b o e).1
  have lim : s.heap.NoLimit := e0.mod.nolimit.keeps fun b o e => (e0.bs b o e).1
  have hlw : ws.length = n := by simpa using hl
  have hld : ds.length = n := by rw [rs.length]; exact hlw
  refine ks_codeAny_call_defAt hr.depth (KX _ _ lk) rfl lim (PySem.W.codeRec_of KX hcd) rfl hb S.nocell (fun x hx => S.par x.1 (List.of_mem_zip hx).1) (fun h1 hns1 hk1 => ?_) S.co S.gen S.kind
  obtain ⟨cl, cld, csl, hcc⟩ := U.cell
  have I := inv_startS (CX := L2N.CX P w) (P := P) (w := w) (N := "self" :: ps') (qual := qual) (f := f) (cd := .ref cda) (outer := outer) (E := E) (tk := s.toks + ((("self" : Str) :: ps').zip us).length) S hr.hd e0 (by rw [hl, List.length_cons, hn]) r ⟨_, hcc, rfl⟩ hns1 hk1
  have I0 := I
  have hst0 : (L2.start ("self" :: ps') (V.ref a :: ws)) = some (.ref a) :: ws.map some := by
    unfold L2.start
    rw [List.length_cons, List.length_cons, hn, hlw]
    simp
  rw [hst0] at I
  have hself : scope.names.lookup ("self" : Str) = some .local := S.par _ (List.mem_cons_self ..)
  refine ks_wpAt_mono (Q := SP (cxS (L2N.CX P w) P w K mg base ("self" :: ps') qual scope f (.ref cda) cc A outer s H E) [] { nx := fun _ H' => Q .non H', rt := Q }) (sup_first (CX := L2N.CX P w) (base := base) (outer := outer) (H0 := H) (E0 := E) (qual := qual) (scope := scope) (a := a) S T U rfl hself I ea rfl (he _) (hi _) fun s' I' => ?_) (fun fl s' hs => ?_) fun _ _ z => z
  · have er : EnvR g F H (some (.obj a) :: ds.map some) (some (.ref a) :: ws.map some) := by
      have := envR_start (N := []) (Reps.cons (Rep.obj a) rs) 0
      simpa using this
    refine sto_run (H0 := H) (a := a) (env := some (.obj a) :: ds.map some) T rfl (hst A outer s H E) H s' none [] [] [] (acc ds) I' R er (.no ea) rfl (by simpa using hll) .nil (fun b u _ _ z => z) (fun b z => z) (fun d z => by cases z) (hev a ds M hld) fun H2 o2 vs2 k2 x2 l2 ko2 R2 r2 => ?_
    rw [List.append_nil] at x2 l2
    rw [List.append_nil] at r2
    rw [hns] at x2 l2
    generalize hz : ns.zip vs2 = fs at x2
    cases x2 with
    | no h =>
      exfalso
      cases ns with
      | nil => exact hnn rfl
      | cons x xs => cases vs2 with
        | nil => cases l2
        | cons y ys => cases hz
    | so h hd hne => subst hz; exact fin H2 _ vs2 k2 h hd hne (ko2 _ rfl) l2 R2 r2
  · have fin2 : ∀ {σ' : L2.St} {H' : Hp} {v : V} {u : Value}, Inv (cxS (L2N.CX P w) P w K mg base ("self" :: ps') qual scope f (.ref cda) cc A outer s H E) [] σ' H' s' → RelV v u → Q v H' → CE outer P w H s Q u s' :=
      fun {σ' H' v u} J rv q => ⟨v, H', J.os, J.bare, J.base, J.hok, rv, q⟩
    cases fl with
    | ret u => obtain ⟨v, σ', H', J, rv, q⟩ := hs; exact fin2 J rv q
    | next => obtain ⟨σ', H', J, q⟩ := hs; exact fin2 (v := V.non) (u := Value.none) J rfl q
    | brk => obtain ⟨_, _, _, q⟩ := hs; exact False.elim q
    | cont => obtain ⟨_, _, _, q⟩ := hs; exact False.elim q

/-! ### raise C(e, ..) -/
def sRaiseX (c n : Nat) (ns : List Str) (f : List D → List D) (ma : AM) : SM := fun e M => match ma e M with
  | .ok ds M1 => if ds.length = n then .ex c ns (f ds) e M1 else .bad
  | .exc c ns ds M1 => .ex c ns ds e M1
  | .bad => .bad
section
variable {X : Cx} {g : Wd} {W : WY} {e : Expr} {es : List Expr} {ma : AM} {c n k : Nat} {x : Str} {fI : Addr} {fd : FuncData} {ps ns : List Str} {f : List D → List D} {p pos pos2 : Pos}
theorem passes_no : Passes (L2N.CX X.prog X.w) X (fun _ _ _ => False) := fun _ _ _ _ _ _ _ h => by
  obtain ⟨_, _, _, _, _, _, _, _, _, _, _, _, z⟩ := h
  exact z.elim
theorem mk_endN {pins : List (Addr × Obj)} {σ : L2.St} {H1 H2 : Hp} {Q : XK} {hp hp2 h2 : Heap} {g1 g2 : Array GenState} {d1 d2 : Drawn} {t1 t2 : Nat} {os1 os2 : OsState} {a C d : Addr} {fs : List (Str × V)} (T : Raises X (.ref C)) (I1 : Inv X pins σ H1 ⟨hp, g1, d1, t1, os1⟩)
    (ha : hp.objs.size ≤ a) (k : ∀ b o, hp.get? b = some o → hp2.get? b = some o) (un : Un (frs X.stack) [] (upd H1 a (exo a C none)) H2 hp2 h2) (hok : HOk X.prog X.w H2 h2) (ho : os2 = os1) (hb : AllBare g2)
    (ea : H2 a = some (exo a C (some d))) (ed : H2 d = some (exd d fs)) (hd1 : H1 d = none) (q : Q (.ref C) (some d) (upd (del H2 a) d (.xd fs))) : L2N.MkP X pins σ Q (.ref a) ⟨h2, g2, d2, t2, os2⟩ := by
  obtain ⟨t0, G, J, kG, ge, hoe, na⟩ := mk_end0 (d2 := d2) (t2 := t2) I1 ha k un hok ho hb ea ed hd1
  exact ⟨a, _, _, ⟨G, g2, d2, t2, os2⟩, _, .ref C, some d, rfl, J, kG, ge, hoe, ⟨rfl, rfl, fun vs e => by cases e; rfl⟩, rfl, rfl, na, rfl, hb, T, q⟩
/-- an exception's object and its tuple of what was handed in, laid -/
theorem exc_begun {pins : List (Addr × Obj)} {σ : L2.St} {H : Hp} {hp : Heap} {gs : Array GenState} {dr : Drawn} {tk : Nat} {os : OsState} (us : List Value) (C : Addr) (I : Inv X pins σ H ⟨hp, gs, dr, tk, os⟩) :
    (∀ b o, hp.get? b = some o → ((hp.push (PySem.W.kdv_tup us)).push (PySem.HandSPX.excO C hp.objs.size)).get? b = some o) ∧
    Inv X pins σ (upd H (hp.objs.size + 1) (exo (hp.objs.size + 1) C none)) ⟨(hp.push (PySem.W.kdv_tup us)).push (PySem.HandSPX.excO C hp.objs.size), gs, dr, tk, os⟩ := by
  have keep : ∀ b o, hp.get? b = some o → ((hp.push (PySem.W.kdv_tup us)).push (PySem.HandSPX.excO C hp.objs.size)).get? b = some o := fun _ _ z => Heap.get?_push_of_some _ (Heap.get?_push_of_some _ z)
  exact ⟨keep, I.laid (t' := tk) (a := hp.objs.size + 1) (o := exo _ C none) keep (Nat.le_succ _) (exo_ok (by heap_get))⟩
theorem pmk_oexN {sp : Sp} {C : Addr} {ta : TA} (T : OexC X.K C) (iC : PySem.W.findIn X.K (.ref C) "__init__" = some (some (.ref fI))) (tI : PySem.W.typeIn X.K (.ref fI) = some (.type "function"))
    (F1 : FnOk X.prog X.w X.K X.mg X.base (L2N.CX X.prog X.w) k fI fd ps sp) (hr : Room (k + 1) X.A) (hb : Binds X.K fd ps []) (hg : Gl X x) (hm : X.mg x = some (.ref C)) (ha : PA X (e :: es) ta)
    (hdb : (x == ("__debug__" : Str)) = false := by decide) (he : starEach (e :: es) X.env = (false, eval e X.env) :: starEach es X.env := by rfl) (hpl : (backTo pos (starEach es X.env)).any (·.1) = false := by rfl) :
    L2N.PMk X (.Call (.Name x p) (e :: es) [] pos) (tMkO C sp [] ta) := by
  intro pins s σ H Q I h
  have ⟨_, _, _, _, bm, _, _, _, _, _, _, _, _, _, _, hC, hbm⟩ := T.cls
  refine wpAny_Call_Name_kw (ld_glob I hg hm (PySem.W.callWith_K (h₀ := X.base) I.ok.mod.kin T.kC (thn (ha.run pos pins s σ H _ I h) fun us s1 h1 => ?_) he hpl) hdb)
  obtain ⟨vs, H1, I1, r1, hz, q1⟩ := h1
  refine ⟨I1.kIn, ?_⟩
  have first := q1 _ (I1.hok.fresh (Nat.le_succ s1.heap.objs.size))
  obtain ⟨hp, g, dr, tk, os⟩ := s1
  have hsz : hp.objs.size ≤ hp.objs.size + 1 := Nat.le_succ _
  have hn : H1 (hp.objs.size + 1) = none := I1.hok.fresh hsz
  obtain ⟨kk, I2⟩ := exc_begun us C I1
  have hq : sp (.ref (hp.objs.size + 1) :: vs) _ _ _ := List.append_nil vs ▸ first
  have r2 : Vals (V.ref (hp.objs.size + 1) :: vs) (Value.ref (hp.objs.size + 1) :: us) := .cons rfl r1
  have hbb := hb _ (Value.ref (hp.objs.size + 1) :: us) I2.kIn (by simpa using r2.length.symm.trans (F1.len _ _ _ _ hq))
  have hus : us.length ≤ sizeLine := Paired.length r1 ▸ (by rw [sizeLine_eq]; omega)
  rw [List.append_nil] at hbb
  refine wpAny_call (PySem.HandSPX.call_own F.excBase_ValueError (fun Y => PySem.HandSPX.refsVE_contains Y bm hbm) (I1.kIn _ _ hC) (PySem.W.looks_findIn I1.kIn iC) (fun self => PySem.W.bind_fn I1.kIn self tI) hus
    (codeAny_mono (F1.run _ X.stack _ _ ⟨Value.ref (hp.objs.size + 1) :: us, []⟩ (Value.ref (hp.objs.size + 1) :: us) _ _ (fun _ _ _ => False) (hr.make C us []) (I2.env0.make C us []) hbb r2 hq) fun r s' hq' => ?_))
  match r, hq' with
  | .error er, hq' => exact passes_no pins σ _ _ er s' I2 hq'
  | .ok .next, hq' | .ok .brk, hq' | .ok .cont, hq' => exact hq'.elim
  | .ok (.ret u), hq' =>
    obtain ⟨v, H2, os2, bare2, un2, hok2, rv, rfl, d, fs, ea, ed, hd1, q2⟩ := hq'
    exact ⟨rv, mk_endN (raises_own T.exC T.tyC) I1 hsz kk un2 hok2 os2 bare2 ea ed hd1 q2⟩
theorem raiseX_imp {E : Ends} {σ : L2.St} {H : Hp} {t : TA} (hnn : ns ≠ []) (hn : n ≤ 100) (hlen : ∀ ds : List D, ds.length = n → (f ds).length = ns.length) (ht : ∀ σ H Q, tA g W ma σ H Q → t σ H Q) (q : tS g W (sRaiseX c n ns f ma) E σ H) : tMkO (g.ca c) (spX g c n ns f) [] t σ H (fun cls d H' => W.w cls d σ H') := by
  obtain ⟨F, e, M, RS, q⟩ := q
  refine ht σ H _ ⟨F, e, M, RS, ?_⟩
  unfold sRaiseX at q
  cases hm : ma e M with
  | bad => rw [hm] at q; exact q
  | exc c' ns' ds' M' =>
    rw [hm] at q
    exact fun F' H' d g1 Rm x => q F' H' σ d g1 Rm (RS.e.mono g1 RS.m.good) x
  | ok ds M1 =>
    rw [hm] at q
    dsimp only at q
    intro F1 H1 vs g1 R1 rs
    by_cases hl : ds.length = n
    · rw [if_pos hl] at q
      have hvl : vs.length = n := by rw [← rs.length]; exact hl
      refine ⟨by omega, fun a ha => ⟨by simp [hvl], a, vs, F1, M1, ds, by simp, upd_same, ?_, ?_, ?_⟩⟩
      · exact (R1.still ha).2
      · exact rs.mono (R1.still ha).1 R1.good
      · intro H2 d us k2 ea ed hda hd hul R2 r2
        have hd1 : H1 d = none := by rw [upd_ne hda] at hd; exact hd
        refine ⟨rfl, d, _, ea, ed, hd1, ?_⟩
        have kk : ∀ b o, H2 b = some o → NExt o → upd (del H2 a) d (.xd (ns.zip us)) b = some o := fun b o hb hx => by
          have b1 : b ≠ a := fun z => by rw [z, ea] at hb; exact hx _ (Option.some.inj hb).symm
          have b2 : b ≠ d := fun z => by rw [z, ed] at hb; exact hx _ (Option.some.inj hb).symm
          rw [upd_ne b2, del_ne b1]; exact hb
        have gr : Grow F1 H1 F1 (upd (del H2 a) d (.xd (ns.zip us))) := ⟨List.prefix_refl _, fun b o hb hf => by
          have b1 : b ≠ a := fun z => by rw [z, ha] at hb; cases hb
          have b2 : b ≠ d := fun z => by rw [z, hd1] at hb; cases hb
          rw [upd_ne b2, del_ne b1]
          exact k2 b o b1 (.inl hf) (by rw [upd_ne b1]; exact hb), fun b hb => .inl hb, fun b o hb hf => by
          have b1 : b ≠ a := fun z => by rw [z, ha] at hb; cases hb
          have b2 : b ≠ d := fun z => by rw [z, hd1] at hb; cases hb
          rw [upd_ne b2, del_ne b1]
          exact k2 b o b1 (.inr hf) (by rw [upd_ne b1]; exact hb)⟩
        exact q F1 _ σ (some d) (g1.trans gr) (R2.ext kk) (RS.e.mono (g1.trans gr) RS.m.good) (.so upd_same hnn hul (r2.ext kk))
    · rw [if_neg hl] at q; exact q.elim
theorem ds_raiseX (T : OexC X.K (g.ca c)) (iC : PySem.W.findIn X.K (.ref (g.ca c)) "__init__" = some (some (.ref fI))) (tI : PySem.W.typeIn X.K (.ref fI) = some (.type "function"))
    (F1 : FnOk X.prog X.w X.K X.mg X.base (L2N.CX X.prog X.w) k fI fd ps (spX g c n ns f)) (hr : Room (k + 1) X.A) (tk : L2N.Takes X W.w) (hb : Binds X.K fd ps []) (hm : X.mg x = some (.ref (g.ca c))) (ha : PA X (e :: es) (tA g W ma)) (hnn : ns ≠ [] := by decide) (hn : n ≤ 100 := by decide) (hlen : ∀ ds : List D, ds.length = n → (f ds).length = ns.length := by exact fun _ _ => rfl)
    (hc : X.calm = true := by rfl) (hg : Gl X x := by rfl) (hdb : (x == ("__debug__" : Str)) = false := by decide) (he : starEach (e :: es) X.env = (false, eval e X.env) :: starEach es X.env := by rfl) (hpl : (backTo pos (starEach es X.env)).any (·.1) = false := by rfl) :
    PS X (.Raise (some (.Call (.Name x p) (e :: es) [] pos)) none pos2) (tS g W (sRaiseX c n ns f ma)) :=
  ps_imp (L2N.ps_raise hc tk (pmk_oexN T iC tI F1 hr hb hg hm ha hdb he hpl)) fun E σ H q => raiseX_imp hnn hn hlen (fun _ _ _ q => q) q
end
end T2
namespace T2
open PySem L2 PyProof.Rows

/-! ### within a suite: isinstance(n, C) and n.f, n an exception with fields -/
def eXIsF (b : Option Bool) : EM := fun _ M => match b with
  | some b => .ok (.bl b) M
  | none => .bad
def eXFld (b : Bool) (f : Str) (ns : List Str) (ds : List D) : EM := fun _ M => if b = true then match fieldOf f ns ds with
  | some d => .ok d M
  | none => .bad else .bad
section
variable {X : Cx} {g : Wd} {W : WY} {a b : Expr} {pos p apos : Pos} {m1 m2 m3 : EM} {ma : AM} {es : List Expr} {s1 : SM}
/-! ### try: body, except C: suite -/
def sTry0 (ct : Nat → Option Bool) (body : SM) (suite : SM) : SM := fun e M => match body e M with
  | .ex c ns ds e1 M1 => match ct c with
    | some true => match suite e1 M1 with
      | .ex _ _ _ _ _ => .bad
      | r => r
    | some false => .ex c ns ds e1 M1
    | none => .bad
  | r => r
/-! ### defs called where an exception is handled -/
variable {k n : Nat} {f : Addr} {fd : FuncData} {ps : List Str} {m : List D → MH → Res D} {x : Str}
end
theorem takesN0 {X : Cx} : L2N.Takes X (fun _ _ _ _ => False) := fun _ _ x => by
  obtain ⟨_, _, _, _, _, _, _, _, _, _, _, _, _, _, _, _, z⟩ := x
  exact z.elim
/-- an item of a list of values -/
def dAt (ds : List D) (i : Nat) : D := ds.getD i .non
end T2
namespace T2
open PySem L2 PyProof.Rows

/-- an own exception's __init__ in the text -/
structure OIn (P : Program) (K : PySem.W.Frag) (mg : Str → Option Value) (C : Addr) (nm qual : Str) (st : Stmt) (f : Addr) (fd : FuncData) : Prop where
  ex : ∃ cc cda oc od osl kV doc pm an ct, fd = PySem.W.ksFn nm qual (defArgs st) (defBody st) (defScope st) .none kV doc pm an (.ref cda) ct cc ∧ K.lookup f = some ⟨oc, od, .func fd, osl⟩ ∧ PySem.W.codeIn K (.ref cda) qual = true ∧ SupIn P K mg C f cc cda fd
theorem initX_ok {P : Program} {w : World} {K : PySem.W.Frag} {mg : Str → Option Value} {base : Heap} {g : Wd} {c n k : Nat} {f : Addr} {fd : FuncData} {nm qual : Str} {st : Stmt} {ps' ns : List Str}
    {txt : Str} {j : Nat} {p0 p1 p2 p3 p4 p5 : Pos} {rest : List Stmt} {l : List (Str × EM)} {acc : List D → List (Str × D)} {fm : List D → List D} {pl : Addr → Addr → Addr → Addr → Sem Bool}
    (O : OIn P K mg (g.ca c) nm qual st f fd) (S : ScopeS ("self" :: ps') ("self" :: ps') (defScope st)) (T : OexC K (g.ca c)) (hb : defBody st = supSt txt j p0 p1 p2 p3 p4 p5 :: rest) (hn : ps'.length = n)
    (he : ∀ L f cda cc, eval (.Call (.Attribute (.Call (.Name "super" p0) [] [] p1) "__init__" p2) [.Constant (.str txt) j p3] [] p4) (PySem.W.ksEnv qual (defScope st) L f (.ref cda) cc) = (do
      let ov ← attributeBase (.Call (.Name "super" p0) [] [] p1) "__init__" (PySem.W.ksEnv qual (defScope st) L f (.ref cda) cc) (eval (.Call (.Name "super" p0) [] [] p1) (PySem.W.ksEnv qual (defScope st) L f (.ref cda) cc))
      standAt p2.atName
      let (f', first) ← holding [ov] (getMethod ov "__init__" (pl L f cda cc))
      callWith p4 f' first (backTo p4 (starEach [.Constant (.str txt) j p3] (PySem.W.ksEnv qual (defScope st) L f (.ref cda) cc))) []))
    (hi : ∀ L f cda cc, interactive (PySem.W.ksEnv qual (defScope st) L f (.ref cda) cc) = false)
    (hst : ∀ cda cc A outer s H E, Sto (cxS (L2N.CX P w) P w K mg base ("self" :: ps') qual (defScope st) f (.ref cda) cc A outer s H E) g (g.ca c) rest l)
    (hev : ∀ a ds M, ds.length = n → evs (some (.obj a) :: ds.map some) M l (acc ds)) (hns : ∀ ds, ((acc ds).map (·.1)).reverse = ns) (hfm : ∀ ds, ((acc ds).map (·.2)).reverse = fm ds) (hnn : ns ≠ []) (hll : l.length ≤ 100) :
    FnOk P w K mg base (L2N.CX P w) (k + 1) f fd ("self" :: ps') (spX g c n ns fm) := by
  obtain ⟨cc, cda, oc, od, osl, kV, doc, pm, an, ct, rfl, lk, hcd, U⟩ := O.ex
  rw [hb] at lk U ⊢
  have := fnX_ok (w := w) (base := base) (k := k) (pl := fun L => pl L f cda cc) lk hcd S T U hn (fun L => he L f cda cc) (fun L => hi L f cda cc) (fun A outer s H E => hst cda cc A outer s H E) hev hns hnn hll
  rwa [show (fun ds => ((acc ds).map (·.2)).reverse) = fm from funext hfm] at this
end T2
namespace T2
open PySem L2 PyProof.Rows

/-! ### list + list -/
def rCatLS (K : PySem.W.Frag) : R2 := fun x y H Q => ∃ l b xs zs, x = .ref l ∧ y = .ref b ∧ SqL K H l xs ∧ SqL K H b zs ∧ xs.length + zs.length ≤ sizeLine ∧ ∀ p, H p = none → Q (.ref p) (upd H p (.lst (xs ++ zs)))
theorem op_catLS {X : Cx} : OpR X (binaryOp .Add) (rCatLS X.K) := by
  intro pins s σ H x y v u Q I rx ry h
  obtain ⟨l, b, xs, zs, rfl, rfl, ha, hb, hz, q⟩ := h
  cases rx; cases ry
  obtain ⟨its, r, ⟨⟨oc, od, oda, osl⟩, n, e, hc, hd, ho⟩, _⟩ := I.list ha
  obtain ⟨its2, r2, ⟨⟨oc2, od2, oda2, osl2⟩, n2, e2, hc2, hd2, ho2⟩, _⟩ := I.list hb
  dsimp only at hc hd ho hc2 hd2 ho2
  subst hc hd ho hc2 hd2 ho2
  have hl1 := r.length
  have hl2 := r2.length
  have sz : its.toArray.size + its2.toArray.size ≤ sizeLine := by rw [List.size_toArray, List.size_toArray]; omega
  refine PySem.concat_meets ⟨_, e, rfl⟩ ⟨_, e2, rfl⟩ PySem.noFill_list_add PySem.seq_list_add F.slot_list_add F.entry_list_add (F.args_list_add_2 _ _) (PyProof.Rows.list_addW l b its.toArray its2.toArray n n2 none none osl osl2 sz) ⟨e, e2, ?_⟩
  have ea : its.toArray ++ its2.toArray = (its ++ its2).toArray := by simp
  rw [ea]
  exact ⟨.ref _, _, I.lnew (t' := s.toks) (r.append r2) (by rw [List.length_append]; omega), rfl, q _ I.fresh⟩
def dCat (mk : List D → MH → Res D) (x y : D) (M : MH) : Res D := match listItems M x, listItems M y with
  | some xs, some ys => if xs.length + ys.length ≤ big then mk (xs ++ ys) M else .bad
  | _, _ => .bad
section
variable {X : Cx} {g : Wd} {W : WY} {a b : Expr} {pos : Pos} {m1 m2 : EM}
theorem listItems_at {F : List Addr} {M : MH} {H : Hp} {x : D} {v : V} {ds : List D} (R : RelM g F M H) (r : Rep g F H x v) (h : listItems M x = some ds) : ∃ a vs, v = .ref a ∧ SqL g.K H a vs ∧ Reps g F H ds vs := by
  cases r with
  | fro hf r => cases h; exact ⟨_, _, rfl, hf.sq, r⟩
  | @ref n ad hn =>
    unfold listItems at h
    dsimp only at h
    split at h
    · rename_i ys hm
      cases h
      obtain ⟨o, e, ro⟩ := R.obj n ad _ hn hm
      cases ro with | lst r => exact ⟨_, _, rfl, SqL.of e, r⟩
    · cases h
  | _ => cases h
theorem sim_cat (hK : g.K = X.K) {mk : List D → MH → Res D} (hmk : MkOk g mk) : Sim2 g (dCat mk) (rCatLS X.K) := fun F M σ H W x y v w Q R rx ry q => by
  unfold dCat at q
  split at q
  · rename_i xs ys h1 h2
    obtain ⟨a1, v1, rfl, s1, r1⟩ := listItems_at R rx h1
    obtain ⟨a2, v2, rfl, s2, r2⟩ := listItems_at R ry h2
    split at q
    · rename_i hl
      exact ⟨a1, a2, v1, v2, rfl, rfl, by rw [← hK]; exact s1, by rw [← hK]; exact s2, by rw [← r1.length, ← r2.length]; exact bigLine hl, fun p hp => hmk W F M H σ Q _ _ p R (r1.append r2) q hp⟩
    · exact q.elim
  · exact q.elim
theorem de_cat (hK : g.K = X.K) {mk : List D → MH → Res D} (hmk : MkOk g mk) (ha : PE X a (tD g W m1)) (hb : PE X b (tD g W m2)) : PE X (.BinOp a .Add b pos) (tD g W (eBin (dCat mk) m1 m2)) := de_op op_catLS (sim_cat hK hmk) ha hb
end
end T2
namespace T2
open PySem L2 PyProof.Rows

/-! ### def f(a, .., *v) -/
theorem cxUpN {P : Program} {w : World} : StX.CXUp (L2N.CX P w) := by
  rintro outer s H s2 H2 E e s' un kp ho ⟨a, B, H', cls, d, ea, fl, hok, ub, na, os, ag, he⟩
  have no : ∀ {b : Addr}, b ∉ ([] : List Addr) := fun z => by simp at z
  refine ⟨a, B, H', cls, d, ea, fl, hok, ⟨?_, ?_, ?_, ?_, ?_, ?_, ?_⟩, na, os.trans ho, ag, he⟩
  · exact fun b o q n hb => ub.keep b o (kp b o q) (un.free b o q n no) hb
  · exact fun b o q hb => ub.slot b o (kp b o q) hb
  · exact fun b o q n => ub.free b o (kp b o q) (un.free b o q n no)
  · exact fun b o q hb => ub.there b o (kp b o q) hb
  · exact fun b xs q => ub.tups b xs (un.tups b xs q)
  · exact fun b o xs q => ub.frzs b o xs (un.frzs b o xs q)
  · intro b ps q
    obtain ⟨m1, e1⟩ := un.tbls b ps q
    obtain ⟨m2, e2⟩ := ub.tbls b _ e1
    exact ⟨m1 ++ m2, by rw [e2, Array.append_assoc]⟩
def packR (n : Nat) (ds : List D) : List D := ds.take n ++ [.tup (ds.drop n)]
def spR (g : Wd) (n : Nat) (m : List D → MH → Res D) : Sp := fun vs H Q E => ∃ F M ds, RelM g F M H ∧ Reps g F H ds vs ∧ n ≤ ds.length ∧ ds.length ≤ 1000 ∧ post g rD (fun c d _ H => E c d H) F [] H (m (packR n ds) M) Q
theorem fnR_ok {P : Program} {w : World} {K : PySem.W.Frag} {mg : Str → Option Value} {base : Heap} {g : Wd} {x qual : Str} {st : Stmt} {f : Addr} {fd : FuncData} {N ps : List Str} {pv : Str} {k : Nat} {b : SM} (F : Fun K x qual st f fd) (S : FnScope N (ps ++ [pv]) (defScope st))
    (hb : ∀ us rest : List Value, us.length = ps.length → bindArgs fd ⟨us ++ rest, []⟩ = (newTuple rest >>= fun t => pure (ps.zip us ++ [(pv, t)])))
    (hbody : ∀ (cdv : Value) (A : Around) (outer : List Env) (s : Shared) (H : Hp) (E : XK), Room k (A.deeper (PyProof.Rows.envOfC qual (defScope st) s.heap.objs.size f cdv)) →
      L2N.Takes (cxOf (L2N.CX P w) P w K mg base N qual (defScope st) f cdv A outer s H E) (WY.mk (fun c d _ H => E c d H) ⟨[], []⟩).w →
      PassesOwn (model P w) (cxOf (L2N.CX P w) P w K mg base N qual (defScope st) f cdv A outer s H E).A (cxOf (L2N.CX P w) P w K mg base N qual (defScope st) f cdv A outer s H E).env (cxOf (L2N.CX P w) P w K mg base N qual (defScope st) f cdv A outer s H E).xe →
      PSs (cxOf (L2N.CX P w) P w K mg base N qual (defScope st) f cdv A outer s H E) (defBody st) (tS g ⟨fun c d _ H => E c d H, ⟨[], []⟩⟩ b)) : FnR P w K mg base (L2N.CX P w) (k + 1) f (spR g ps.length (fnB N.length b)) := by
  obtain ⟨oc, od, kV, doc, pm, an, cdv, ct, osl, rfl, lk, hcd⟩ := F.ex
  refine FnR.imp (StX.fn_star (sp := spD g (ps ++ [pv]).length (fnB N.length b)) lk hcd S cxUpN hb fun A outer s H vs Q E hr h => ⟨_, hbody cdv A outer s H E hr (L2N.takes_of rfl rfl rfl rfl) (passes_of (X := cxOf (L2N.CX P w) P w K mg base N qual (defScope st) f cdv A outer s H E) rfl), body_run h⟩) ?_
  rintro vs H Q E ⟨Fa, M, ds, R, r, hn, hz, q⟩
  have hl := r.length
  refine ⟨vs.take ps.length, vs.drop ps.length, (List.take_append_drop _ _).symm, by rw [List.length_take]; omega, by rw [List.length_drop]; exact small (by omega), fun p hp => ?_⟩
  obtain ⟨g1, R1⟩ := R.still (o := .tup (vs.drop ps.length)) hp
  refine ⟨by simp; omega, Fa, M, packR ps.length ds, R1, ?_, q.up g1⟩
  exact ((r.take _).mono g1 R.good).append (.cons (.tup (SqT.of upd_same) ((r.drop _).mono g1 R.good)) .nil)
/-- *e in an argument list -/
def eStar (a : EM) (b : AM) : AM := fun e M => (a e M).bind fun x M1 => match items M1 x with
  | some ds => (b e M1).bind fun xs M2 => .ok (ds ++ xs) M2
  | none => .bad
def fCallR (n : Nat) (f : List D → MH → Res D) (ds : List D) (M : MH) : Res D := if n ≤ ds.length ∧ ds.length ≤ 1000 then f (packR n ds) M else .bad
def eCallR (n : Nat) (f : List D → MH → Res D) (a : AM) : EM := eArgs (fCallR n f) a
section
variable {X : Cx} {g : Wd} {W : WY} {a e : Expr} {es : List Expr} {pos p ps0 : Pos} {m1 : EM} {ma : AM} {k n : Nat} {f : Addr} {m : List D → MH → Res D} {x : Str}
theorem da_star (ha : PE X a (tD g W m1)) (hb : PA X es (tA g W ma)) (hK : g.K = X.K) (hs : starEach (.Starred a p :: es) X.env = (true, eval a X.env) :: starEach es X.env := by rfl) : PA X (.Starred a p :: es) (tA g W (eStar m1 ma)) :=
  pa_imp (StX.pa_star ha hb hs) fun σ H Q ⟨F, e, M, RS, q⟩ => by
    refine ⟨F, e, M, RS, q.bind fun y M1 F1 H1 v e1 g1 R1 ry q1 => ?_⟩
    cases hi : items M1 y with
    | none => rw [hi] at q1; exact q1.elim
    | some ds =>
      rw [hi] at q1
      obtain ⟨ad, vs, rfl, hsq, rs⟩ := items_at R1 ry hi
      refine ⟨ad, vs, rfl, by rw [← hK]; exact hsq.symm, F1, e, M1, RS.up g1 R1, q1.bind fun ys M2 F2 H2 w e2 g2 R2 rys q2 => ?_⟩
      exact q2.here R2 ((rs.mono g2 R1.good).append rys)
theorem run_fnRS {pins : List (Addr × Obj)} {σ : L2.St} {H : Hp} {s : Shared} {CX : CXT} {sp : Sp} {E : XK} {Q : VK} {us : List Value} {vs : List V} (F : FnR X.prog X.w X.K X.mg X.base CX k f sp) (hr : Room k X.A) (hx : PassesAt CX X σ E) (I : Inv X pins σ H s) (r : Vals vs us) (h : sp vs H Q E) :
    wpAny (model X.prog X.w) X.A (call (.ref f) us) (EP X pins σ Q) X.xe s := by
  refine wpAny_call (codeAny_mono (F X.A X.stack s H us vs Q E hr I.env0 r h) fun o s' z => ?_)
  match o, z with
  | .error e, z => exact hx pins H s e s' I z
  | .ok (.ret u), z => exact I.after z
  | .ok .next, z => exact z.elim
  | .ok .brk, z => exact z.elim
  | .ok .cont, z => exact z.elim
theorem pe_callS2S {CX : CXT} {sp : Sp} {E : L2.St → XK} {t : TA} (F : FnR X.prog X.w X.K X.mg X.base CX k f sp) (hr : Room k X.A) (hk : PySem.W.keepIn X.K (.ref f) = true) (hm : X.mg x = some (.ref f)) (hx : ∀ σ, PassesAt CX X σ (E σ)) (ha : PA X (e :: es) t) (hg : Gl X x) (hd : (x == ("__debug__" : Str)) = false)
    (he : starEach (e :: es) X.env = (false, eval e X.env) :: starEach es X.env) (hst : (backTo pos (starEach es X.env)).any (·.1) = true) : PE X (.Call (.Name x p) (e :: es) [] pos) (fun σ H Q => t σ H fun vs H1 => sp vs H1 Q (E σ)) :=
  ⟨fun pins s σ H Q I h => wpAny_Call_Name_kw (ld_glob I hg hm (PySem.W.callWith_S2 (h₀ := X.base) I.ok.mod.kin hk (thn (ha.run pos pins s σ H _ I h) fun us s1 ⟨vs, H1, I1, r, q⟩ => ⟨I1.kIn, run_fnRS F hr (hx σ) I1 r q⟩) he hst) hd)⟩
theorem callR_imp {σ : L2.St} {H : Hp} {Q : VK} (q : tD g W (eCallR n m ma) σ H Q) : tA g W ma σ H fun vs H1 => spR g n m vs H1 Q (WE W.w σ) := by
  obtain ⟨F, e, M, RS, q⟩ := q
  refine ⟨F, e, M, RS, q.bind fun ds M1 F1 H1 vs e1 g1 R1 r q1 => ?_⟩
  unfold fCallR at q1
  split at q1
  · rename_i hl; exact ⟨F1, M1, ds, R1, r, hl.1, hl.2, post_call q1⟩
  · exact q1.elim
theorem de_callR (G : FnR X.prog X.w X.K X.mg X.base (L2N.CX X.prog X.w) k f (spR g n m)) (hr : Room k X.A) (tk : L2N.Takes X W.w) (hm : X.mg x = some (.ref f)) (hk : PySem.W.keepIn X.K (.ref f) = true) (ha : PA X (e :: es) (tA g W ma)) (hg : Gl X x := by rfl) (hd : (x == ("__debug__" : Str)) = false := by decide)
    (he : starEach (e :: es) X.env = (false, eval e X.env) :: starEach es X.env := by rfl) (hst : (backTo pos (starEach es X.env)).any (·.1) = true := by rfl) : PE X (.Call (.Name x p) (e :: es) [] pos) (tD g W (eCallR n m ma)) :=
  pe_imp (pe_callS2S G hr hk hm (fun σ => L2N.passAt tk σ) ha hg hd he hst) fun σ H Q q => callR_imp q
end

/-! ### C(k = v, ..): an instance that may change, its __init__ with keyword-only parameters -/
def eMakeK (c n kk : Nat) (gD : List D → List D → List D) (f : List D → MH → Res D) (mk : AM) : EM := fun e M => (mk e M).bind fun zs M1 => if zs.length = kk then (f (gD [.ref M1.length] zs) (M1 ++ [.ob c [] []])).bind fun r M2 => match r with
  | .non => .ok (.ref M1.length) M2
  | _ => .bad else .bad
section
variable {X : Cx} {g : Wd} {W : WY} {pos p : Pos} {mk : AM} {kws : List Keyword} {k n N : Nat} {f : Addr} {fd : FuncData} {ps ks : List Str} {m : List D → MH → Res D} {x : Str} {c : Nat}
theorem run_makeKS {pins : List (Addr × Obj)} {σ : L2.St} {H : Hp} {s : Shared} {CX : CXT} {sp : Sp} {E : XK} {Q : VK} {C : Addr} {ws : List Value} {zs : List V} {gu : List Value → List Value → List Value} {gV : List V → List V → List V} (Mc : Mk X.K C f) (F : FnOk X.prog X.w X.K X.mg X.base CX k f fd ps sp) (hr : Room (k + 1) X.A) (hb : KBn X.K fd ps 1 ks gu gV) (hx : PassesAt CX X σ E)
    (I : Inv X pins σ H s) (rz : Vals zs ws) (l2 : zs.length = ks.length)
    (h : ∀ x dx, H x = none → H dx = none → dx ≠ x → sp (gV [.ref x] zs) (upd (upd H dx (.own x)) x (.ins C dx [])) (fun v H2 => v = .non ∧ Q (.ref x) H2) E) : wpAny (model X.prog X.w) X.A (call (.ref C) [] (ks.zip ws)) (EP X pins σ Q) X.xe s := by
  have hq := h (s.heap.objs.size + 1) s.heap.objs.size (I.hok.fresh (Nat.le_succ _)) (I.hok.fresh (Nat.le_refl _)) (Nat.ne_of_lt (Nat.lt_succ_self _))
  have I2 := Inv.made (C := C) I
  have r1 : Vals [V.ref (s.heap.objs.size + 1)] [Value.ref (s.heap.objs.size + 1)] := .cons rfl .nil
  refine wpAny_call (make_map (f := f) I.kIn Mc.makes Mc.init (beq_iff_eq.mp Mc.fn) (codeAny_mono (F.run _ X.stack _ _ ⟨[Value.ref (s.heap.objs.size + 1)], ks.zip ws⟩ (gu [Value.ref (s.heap.objs.size + 1)] ws) _ _ E (hr.make C [] (ks.zip ws)) (I2.env0.make C [] (ks.zip ws))
    (hb.to _ [Value.ref (s.heap.objs.size + 1)] ws I2.kIn rfl (rz.length.symm.trans l2)) (hb.rel r1 rz) hq) fun o s' z => ?_))
  match o, z with
  | .error e, z => exact hx pins _ _ e s' I2 z
  | .ok (.ret u), z =>
    obtain ⟨v, H', I3, rv, ev, q3⟩ := I2.after z
    subst ev
    exact ⟨rv, ⟨V.ref (s.heap.objs.size + 1), H', I3, rfl, q3⟩⟩
  | .ok .next, z => exact z.elim
  | .ok .brk, z => exact z.elim
  | .ok .cont, z => exact z.elim
theorem de_makeK {gD : List D → List D → List D} {gu : List Value → List Value → List Value} {gV : List V → List V → List V} (Mc : Mk X.K (g.ca c) f) (G : FnOk X.prog X.w X.K X.mg X.base (L2N.CX X.prog X.w) k f fd ps (spD g N m)) (hr : Room (k + 1) X.A) (tk : L2N.Takes X W.w) (hm : X.mg x = some (.ref (g.ca c)))
    (hb : KBn X.K fd ps 1 ks gu gV) (hgr : ∀ (F : List Addr) (H : Hp) (ds : List D) (vs : List V) (zs : List D) (ws : List V), ds.length = 1 → zs.length = ks.length → Reps g F H ds vs → Reps g F H zs ws → Reps g F H (gD ds zs) (gV vs ws)) (hgl : ∀ (vs zs : List V), vs.length = 1 → zs.length = ks.length → (gV vs zs).length = N)
    (hkw : PK X kws (tA g W mk)) (hg : Gl X x := by rfl)
    (hall : (backToKw pos (keywordEach kws X.env)).all (·.1.isSome) = true := by rfl) (hks : (backToKw pos (keywordEach kws X.env)).filterMap (·.1) = ks := by rfl) (hdb : (x == ("__debug__" : Str)) = false := by decide)
    (hpl : ((backTo pos (starEach [] X.env)).any (·.1) || (backToKw pos (keywordEach kws X.env)).any (·.1.isNone)) = false := by rfl) : PE X (.Call (.Name x p) [] kws pos) (tD g W (eMakeK c 0 ks.length gD m mk)) := by
  refine ⟨fun pins s σ H Q I q => wpAny_Call_Name_kw (ld_glob I hg hm (PySem.W.callWith_KW0 (h₀ := X.base) I.ok.mod.kin Mc.kp hall ?_ hpl) hdb)⟩
  obtain ⟨F, e, M, RS, q⟩ := q
  refine thn (hkw.run pos pins s σ H (fun zs H2 => ∃ F1 M1 ds, RelM g F1 M1 H2 ∧ Reps g F1 H2 ds zs ∧ zs.length = ks.length ∧ post g rD W.w F1 σ H2 ((m (gD [.ref M1.length] ds) (M1 ++ [.ob c [] []])).bind fun r M2 => match r with | .non => .ok (.ref M1.length) M2 | _ => .bad) Q) I ?_) ?_
  · refine ⟨F, e, M, RS, q.bind fun ds M1 F1 H1 vs e1 g1 R1 r q1 => ?_⟩
    split at q1
    · rename_i hl; exact ⟨F1, M1, ds, R1, r, by rw [← r.length]; exact hl, q1⟩
    · exact q1.elim
  · rintro ws s2 ⟨zs, H2, I2, rz, F1, M1, ds, R1, r, hl, q2⟩
    refine ⟨I2.kIn, ?_⟩
    rw [hks]
    refine run_makeKS Mc G hr hb (L2N.passAt tk σ) I2 rz hl fun y dx hy hdx hne => ?_
    have H2d : Grow F1 H2 F1 (upd H2 dx (.own y)) ∧ RelM g F1 M1 (upd H2 dx (.own y)) := R1.still hdx
    have hy2 : upd H2 dx (.own y) y = none := by rw [upd_ne (Ne.symm hne)]; exact hy
    obtain ⟨g3, R3⟩ := H2d.2.laid (m := .ob c [] []) (o := .ins (g.ca c) dx []) hy2 fun F' H' gr => .ob (ns := []) (vs := []) rfl .nil
    have g4 := H2d.1.trans g3
    refine ⟨hgl _ _ rfl hl, F1 ++ [y], M1 ++ [.ob c [] []], gD [.ref M1.length] ds, R3, hgr _ _ _ _ _ _ rfl (by rw [r.length]; exact hl) (.cons (.ref (by rw [← R1.len]; simp)) .nil) (r.mono g4 R1.good), ?_⟩
    have q3 := q2.up g4
    refine post_call (W := W.w) (σ := σ) (q3.bind fun d M5 F5 H5 v e5 g5 R5 rd q5 => ?_)
    cases rd with
    | non => exact ⟨rfl, q5.here R5 (.ref (pre_get g5.pre (by rw [← R1.len]; simp)))⟩
    | _ => exact q5.elim
end
end T2
namespace T2
open PySem L2 PyProof.Rows

/-! ### targets that are tuples of names -/
def setAll (e : Env2) : List Nat → List D → Env2
  | i :: is, d :: ds => setAll (e.set i (some d)) is ds
  | _, _ => e
def tgTup (is : List Nat) : TgM := fun d e => match d with
  | .tup ds => if ds.length = is.length then some (setAll e is ds) else none
  | _ => none
def gNs : List Nat → TGs
  | [] => gNil
  | i :: is => gCons (gName i) (gNs is)
theorem gNs_run {g : Wd} {F : List Addr} {M : MH} {H : Hp} (R : RelM g F M H) : ∀ (is : List Nat) (e : Env2) (σ : L2.St) (ds : List D) (vs : List V) (Q : L2.St → Hp → Prop), ds.length = is.length → EnvR g F H e σ → Reps g F H ds vs → (∀ σ1, EnvR g F H (setAll e is ds) σ1 → Q σ1 H) → gNs is vs σ H Q
  | [], e, σ, ds, vs, Q, hl, RE, r, k => by
    have : ds = [] := List.eq_nil_of_length_eq_zero hl
    subst this
    cases r
    exact ⟨rfl, k σ RE⟩
  | i :: is, e, σ, ds, vs, Q, hl, RE, r, k => by
    cases r with
    | nil => cases hl
    | cons h t => exact ⟨_, _, rfl, gNs_run R is _ _ _ _ Q (by simpa using hl) (RE.set h i) t k⟩
theorem tgTup_sim {g : Wd} {K : PySem.W.Frag} (hK : g.K = K) (is : List Nat) : TgSim g (tgTup is) (gTup K is.length (gNs is)) := fun F M e e1 σ H x v Q R RE r h k => by
  unfold tgTup at h
  cases r with
  | tup hs rs =>
    dsimp only at h
    split at h
    · rename_i hl
      cases h
      exact ⟨_, _, rfl, by rw [← hK]; exact hs, by rw [← rs.length]; exact hl, gNs_run R is e σ _ _ Q hl RE rs k⟩
    · cases h
  | _ => cases h

/-! ### zip of two tuples -/
def zipD (xs ys : List D) : List D := List.zipWith (fun x y => .tup [x, y]) xs ys
def fZip (x y : D) (M : MH) : Res IV := match x, y with
  | .tup xs, .tup ys => .ok (.vals (zipD xs ys)) M
  | .fro xs, .fro ys => .ok (.vals (zipD xs ys)) M
  | _, _ => .bad
def iZip2 (a b : EM) : Env2 → MH → Res IV := fun e M => (a e M).bind fun x M1 => (b e M1).bind fun y M2 => fZip x y M2
section
variable {g : Wd}
end

/-! ### all, any of a list of bools -/
/-! ### x in a list or tuple of data of any depth -/
section
variable {X : Cx} {g : Wd} {W : WY} {a b : Expr} {pos p : Pos} {m1 m2 : EM} {ma : AM} {es : List Expr}
end
end T2
namespace T2
open PySem L2 PyProof.Rows

/-! ### l.pop(i), l[::-1], a, b = e -/
def ePopAt (mo ma : EM) : EM := fun e M => (mo e M).bind fun x M1 => match x with
  | .ref n => match M1[n]? with
    | some (.lst _) => (ma e M1).bind fun y M2 => match M2[n]?, y with
      | some (.lst ds), .int i => if 0 ≤ i ∧ i < ds.length then (match ds[i.toNat]? with
        | some d => if ds.length ≤ 1000 then .ok d (M2.set n (.lst (ds.eraseIdx i.toNat))) else .bad
        | none => .bad) else .bad
      | _, _ => .bad
    | _ => .bad
  | _ => .bad
def fRev (mk : List D → MH → Res D) (x : D) (M : MH) : Res D := match listItems M x with
  | some ds => mk ds.reverse M
  | none => .bad
theorem Reps.reverse {g : Wd} {F : List Addr} {H : Hp} : ∀ {ds : List D} {vs : List V}, Reps g F H ds vs → Reps g F H ds.reverse vs.reverse
  | _, _, .nil => .nil
  | _, _, .cons h t => by rw [List.reverse_cons, List.reverse_cons]; exact (Reps.reverse t).append (.cons h .nil)
theorem Reps.erase {g : Wd} {F : List Addr} {H : Hp} : ∀ {ds : List D} {vs : List V} (i : Nat), Reps g F H ds vs → Reps g F H (ds.eraseIdx i) (vs.eraseIdx i)
  | _, _, _, .nil => .nil
  | _, _, 0, .cons h t => t
  | _, _, i + 1, .cons h t => .cons h (Reps.erase i t)
def sUnp (is : List Nat) (m : EM) : SM := fun e M => (m e M).toS e fun d M1 => match tgTup is d e with
  | some e1 => .nx e1 M1
  | none => .bad
section
variable {X : Cx} {g : Wd} {W : WY} {a b o : Expr} {pos p apos : Pos} {m1 m2 m3 : EM} {ma : AM} {es : List Expr}
theorem de_popAt (ho : PE X o (tD g W m1)) (ha : PE X a (tD g W m2)) (hst : starEach [a] X.env = (false, eval a X.env) :: starEach [] X.env := by rfl)
    (hpe : ∀ {to : TE} {t : TA}, PE X o to → PA X [a] t → PE X (.Call (.Attribute o "pop" apos) [a] [] pos) (tBM X.K "list" rPopAt to t) := by intro _ _ h1 h2; exact pe_bm PySem.F.plainAttrs_list PySem.F.slot_list_pop PySem.F.type_list_pop mt_popAt h1 h2) :
    PE X (.Call (.Attribute o "pop" apos) [a] [] pos) (tD g W (ePopAt m1 m2)) :=
  pe_imp (hpe ho (de_cons ha de_nil hst)) fun σ H Q ⟨F, e, M, RS, q⟩ => ⟨F, e, M, RS, q.bind fun x M1 F1 H1 v e1 g1 R1 rx q1 => by
    cases x with
    | ref n =>
      cases rx with | ref hn =>
      dsimp only at q1
      split at q1
      · rename_i ds0 hd0
        obtain ⟨vs0, hv0, r0⟩ := lst_at R1 hn hd0
        refine ⟨.inl ⟨rfl, vs0, SqL.of hv0⟩, F1, e, M1, RS.up g1 R1, ?_⟩
        unfold eCons eNil
        refine (?_ : post g rDs W.w F1 σ H1 ((m2 e M1).bind fun x M1 => .ok [x] M1) _)
        cases h2 : m2 e M1 with
        | ok y M2 =>
          rw [h2] at q1
          intro F2 H2 us g2 R2 r2
          obtain ⟨u, rfl, ru⟩ := one_rep r2
          have hn2 := pre_get g2.pre hn
          dsimp only [Res.bind] at q1
          split at q1
          · rename_i ds i hd
            cases ru
            obtain ⟨vs, hv, r⟩ := lst_at R2 hn2 hd
            split at q1
            · rename_i hl
              split at q1
              · rename_i d hdd
                split at q1
                · rename_i hz
                  obtain ⟨w, hw, rw'⟩ := r.get hdd
                  have hlen := r.length
                  refine ⟨_, vs, i, i.toNat, w, rfl, rfl, hv, by omega, by omega, ?_, hw, ?_⟩
                  · exact seqIndex_of (by omega) (by omega)
                  · obtain ⟨g3, R3⟩ := R2.put (o := .lst (vs.eraseIdx i.toNat)) (m := .lst (ds.eraseIdx i.toNat)) hn2 trivial fun H' gr => .lst ((r.mono gr R2.good).erase _)
                    exact (q1.up g2).ok g3 R3 (rw'.mono g3 R2.good)
                · exact q1.elim
              · exact q1.elim
            · exact q1.elim
          · exact q1.elim
        | exc c ns ds M2 => rw [h2] at q1; exact q1
        | bad => rw [h2] at q1; exact q1.elim
      · exact q1.elim
    | _ => exact q1.elim⟩
theorem de_revL {mk : List D → MH → Res D} {k : Nat} {p1 p2 p3 : Pos} (hK : g.K = X.K) (hmk : MkOk g mk) (ha : PE X a (tD g W m1)) : PE X (.Subscript a (.Slice none none (some (.UnaryOp .USub (.Constant (.int 1) k p1) p2)) p3) pos) (tD g W (eUn (fRev mk) m1)) :=
  pe_imp (pe_revL ha) fun σ H Q ⟨F, e, M, RS, q⟩ => ⟨F, e, M, RS, q.bind fun x M1 F1 H1 v e1 g1 R1 rx q1 => by
    unfold fRev at q1
    split at q1
    · rename_i ds hd
      obtain ⟨ad, vs, rfl, hs, rs⟩ := listItems_at R1 rx hd
      exact ⟨ad, vs, rfl, by rw [← hK]; exact hs, fun p hp => hmk W.w F1 M1 H1 σ Q _ _ p R1 rs.reverse q1 hp⟩
    · exact q1.elim⟩
/-! ### dicts with int and text keys: d[k] = v, d.get, d.pop -/
def kPutD {κ A : Type} [DecidableEq κ] (x : κ) (d : A) (ks : List κ) (ds : List A) : List κ × List A := if x ∈ ks then (ks, List.zipWith (fun k y => if k = x then d else y) ks ds) else (ks ++ [x], ds ++ [d])
theorem putK_zip {κ : Type} [DecidableEq κ] {x : κ} {v : V} : ∀ {ks : List κ} {vs : List V}, ks.length = vs.length → putK (ks.zip vs) x v = (kPutD x v ks vs).1.zip (kPutD x v ks vs).2 := by
  intro ks vs hl
  have hmem : ∀ {ks : List κ} {vs : List V}, ks.length = vs.length → (((ks.zip vs).any fun kv => decide (kv.1 = x)) = true ↔ x ∈ ks) := by
    intro ks
    induction ks with
    | nil => intro vs _; simp
    | cons k ks ih =>
      intro vs hl
      cases vs with
      | nil => cases hl
      | cons u vs =>
        have := ih (vs := vs) (by simpa using hl)
        rw [List.zip_cons_cons, List.any_cons, Bool.or_eq_true, this, List.mem_cons]
        simp only [decide_eq_true_eq]
        constructor
        · rintro (h | h)
          · exact .inl h.symm
          · exact .inr h
        · rintro (h | h)
          · exact .inl h.symm
          · exact .inr h
  have hmap : ∀ {ks : List κ} {vs : List V}, (ks.zip vs).map (fun kv => if kv.1 = x then (kv.1, v) else kv) = ks.zip (List.zipWith (fun k y => if k = x then v else y) ks vs) := by
    intro ks
    induction ks with
    | nil => intro vs; simp
    | cons k ks ih =>
      intro vs
      cases vs with
      | nil => simp
      | cons u vs =>
        rw [List.zip_cons_cons, List.map_cons, ih, List.zipWith_cons_cons, List.zip_cons_cons]
        by_cases h : k = x
        · simp [h]
        · simp [h]
  unfold putK kPutD
  by_cases h : x ∈ ks
  · rw [if_pos ((hmem hl).mpr h), if_pos h]; exact hmap
  · rw [if_neg (fun z => h ((hmem hl).mp z)), if_neg h, List.zip_append hl]; rfl
theorem kPutD_len {κ A B : Type} [DecidableEq κ] {x : κ} {d : A} {v : B} {ks : List κ} {ds : List A} {vs : List B} (h : ds.length = vs.length) : (kPutD x d ks ds).1 = (kPutD x v ks vs).1 ∧ (kPutD x d ks ds).2.length = (kPutD x v ks vs).2.length := by
  unfold kPutD
  by_cases hx : x ∈ ks
  · rw [if_pos hx, if_pos hx]; simp [h]
  · rw [if_neg hx, if_neg hx]; simp [h]
theorem kPutD_one {κ A : Type} [DecidableEq κ] {x : κ} {d : A} {ks : List κ} {ds : List A} (h : ks.length = ds.length) : (kPutD x d ks ds).1.length = (kPutD x d ks ds).2.length := by
  unfold kPutD
  by_cases hx : x ∈ ks
  · rw [if_pos hx]; simp [h]
  · rw [if_neg hx]; simp [h]
theorem kPutD_rep {F : List Addr} {H : Hp} {κ : Type} [DecidableEq κ] {x : κ} {d : D} {v : V} (r : Rep g F H d v) {ks : List κ} {ds : List D} {vs : List V} (rs : Reps g F H ds vs) : Reps g F H (kPutD x d ks ds).2 (kPutD x v ks vs).2 := by
  unfold kPutD
  by_cases hx : x ∈ ks
  · rw [if_pos hx, if_pos hx]
    have : ∀ {ks : List κ} {ds : List D} {vs : List V}, Reps g F H ds vs → Reps g F H (List.zipWith (fun k y => if k = x then d else y) ks ds) (List.zipWith (fun k y => if k = x then v else y) ks vs) := by
      intro ks
      induction ks with
      | nil => intro ds vs _; simp; exact .nil
      | cons k ks ih =>
        intro ds vs rs
        cases rs with
        | nil => simp; exact .nil
        | cons h t =>
          rw [List.zipWith_cons_cons, List.zipWith_cons_cons]
          by_cases hk : k = x
          · rw [if_pos hk, if_pos hk]; exact .cons r (ih t)
          · rw [if_neg hk, if_neg hk]; exact .cons h (ih t)
    exact this rs
  · rw [if_neg hx, if_neg hx]; exact rs.append (.cons r .nil)
def dSetD (o i x : D) (M : MH) : Option MH := match o with
  | .ref n => match M[n]? with
    | some (.dk ks ds) => (match keyOf i with
      | some k => if ds.length ≤ 1000 then some (M.set n (.dk (kPutD k x ks ds).1 (kPutD k x ks ds).2)) else none
      | none => none)
    | _ => none
  | _ => none
theorem sim_setD : Sim3 g dSetD rSetD := fun F M M' H o i x vo vi vx Q R ro ri rx h k => by
  unfold dSetD at h
  split at h
  · rename_i n
    cases ro with | ref hn =>
    rename_i ad
    split at h
    · rename_i ks ds hm
      obtain ⟨vs, hv, hl, r⟩ := dk_at R hn hm
      split at h
      · rename_i ky hk
        split at h
        · rename_i hz
          cases h
          have ev := key_rep ri hk
          subst ev
          have e2 := kPutD_len (x := ky) (d := x) (v := vx) (ks := ks) r.length
          refine ⟨ad, _, rfl, DPut.k hv (by rw [List.length_zip]; have := r.length; exact Nat.lt_of_lt_of_le (by omega : _ < 1002) (by decide)), ?_⟩
          rw [putK_zip hl]
          obtain ⟨g1, R1⟩ := R.put (o := .dK ((kPutD ky vx ks vs).1.zip (kPutD ky vx ks vs).2)) (m := .dk (kPutD ky x ks ds).1 (kPutD ky x ks ds).2) hn trivial fun H' gr => by
            rw [e2.1]
            exact .dk (kPutD_one hl) (kPutD_rep (rx.mono gr R.good) (r.mono gr R.good))
          exact k _ g1 R1
        · cases h
      · cases h
    · cases h
  · cases h
theorem ds_setD {i : Expr} {pos' : Pos} (hu : X.A.units + 1 < cLine) (ho : PE X o (tD g W m1)) (hi : PE X i (tD g W m2)) (hv : PE X a (tD g W m3))
    (hass : ∀ v, assign (.Subscript o i pos') X.env v = (do
      let ov ← holding [v] (eval o X.env)
      let iv ← holding [v, ov] (eval i X.env)
      standAt pos'
      holding [v, ov, iv] (setItem ov iv v)
      release [v, ov, iv] []) := by intro _; rfl)
    (hs : swapsWithSole [.Subscript o i pos'] a pos.line X.env = pure false := by rfl) (hw : swappedStores [.Subscript o i pos'] a X.env = pure none := by rfl) (h1 : (assignEach [.Subscript o i pos'] X.env).map (·.2) = [assign (.Subscript o i pos') X.env] := by rfl) :
    PS X (.Assign [.Subscript o i pos'] a pos) (tS g W (sSetIx dSetD m1 m2 m3)) := ds_setIx (set_dict hu) sim_setD ho hi hv hass hs hw h1
/-- d.get(k), d.get(k, x): of the dict at n -/
def eDGet1 (mo mk : EM) : EM := fun e M => (mo e M).bind fun x M1 => match x with
  | .ref n => match M1[n]? with
    | some (.dk _ _) => (mk e M1).bind fun y M2 => match M2[n]?, keyOf y with
      | some (.dk ks ds), some k => .ok ((kGet ks ds k).getD .non) M2
      | _, _ => .bad
    | _ => .bad
  | _ => .bad
def eDGet2 (mo mk mx : EM) : EM := fun e M => (mo e M).bind fun x M1 => match x with
  | .ref n => match M1[n]? with
    | some (.dk _ _) => (mk e M1).bind fun y M2 => (mx e M2).bind fun z M3 => match M3[n]?, keyOf y with
      | some (.dk ks ds), some k => .ok ((kGet ks ds k).getD z) M3
      | _, _ => .bad
    | _ => .bad
  | _ => .bad
/-- d.pop(k, x) -/
def kDrop {κ A : Type} [DecidableEq κ] (x : κ) (ks : List κ) (ds : List A) : List (κ × A) := (ks.zip ds).filter fun p => decide (p.1 ≠ x)
def eDPop2 (mo mk mx : EM) : EM := fun e M => (mo e M).bind fun x M1 => match x with
  | .ref n => match M1[n]? with
    | some (.dk _ _) => (mk e M1).bind fun y M2 => (mx e M2).bind fun z M3 => match M3[n]?, keyOf y with
      | some (.dk ks ds), some k => (match kGet ks ds k with
        | some d => .ok d (M3.set n (.dk ((kDrop k ks ds).map (·.1)) ((kDrop k ks ds).map (·.2))))
        | none => .ok z M3)
      | _, _ => .bad
    | _ => .bad
  | _ => .bad
theorem kDrop_rep {F : List Addr} {H : Hp} {κ : Type} [DecidableEq κ] {x : κ} : ∀ {ks : List κ} {ds : List D} {vs : List V}, Reps g F H ds vs → (kDrop x ks ds).map (·.1) = (kDrop x ks vs).map (·.1) ∧ Reps g F H ((kDrop x ks ds).map (·.2)) ((kDrop x ks vs).map (·.2)) := by
  intro ks
  induction ks with
  | nil => intro ds vs _; exact ⟨by simp [kDrop], by simp [kDrop]; exact .nil⟩
  | cons k ks ih =>
    intro ds vs r
    cases r with
    | nil => exact ⟨by simp [kDrop], by simp [kDrop]; exact .nil⟩
    | cons h t =>
      obtain ⟨h1, h2⟩ := ih t
      unfold kDrop at h1 h2 ⊢
      rw [List.zip_cons_cons, List.zip_cons_cons, List.filter_cons, List.filter_cons]
      by_cases hk : k = x
      · simp only [hk, ne_eq, not_true_eq_false, decide_false, Bool.false_eq_true, if_false]; exact ⟨h1, h2⟩
      · simp only [ne_eq, hk, not_false_eq_true, decide_true, if_true, List.map_cons]; exact ⟨by rw [h1], .cons h h2⟩
end

/-! ### for c in a text -/
def signsOf (z : Str) : List D := z.cps.toList.map fun c => .str ⟨#[c]⟩
def fStrI (d : D) (M : MH) : Res IV := match d with
  | .str z => .ok (.vals (signsOf z)) M
  | _ => .bad
def iStrD (m : EM) : Env2 → MH → Res IV := fun e M => (m e M).bind fStrI
theorem signs_len (z : Str) : (signsOf z).length = z.cps.size := by unfold signsOf; simp
theorem itV_str {g : Wd} {F : List Addr} {H : Hp} (z : Str) : ItV g (Its z) F H (signsOf z) where
  go := fun F' H' i gr hi => by rw [signs_len] at hi; exact hi
  yld := fun F' H' i x H2 gr hi hy => by
    obtain ⟨rfl, c, hc, rfl⟩ := hy
    refine ⟨fun _ _ q => q, .str ⟨#[c]⟩, ?_, .str _⟩
    unfold signsOf
    rw [List.getElem?_map, Array.getElem?_toList, hc]
    rfl
  stop := fun F' H' i gr hi => by rw [signs_len] at hi; exact hi
theorem itSim_str {g : Wd} {W : WY} {m1 : EM} : ItSim g W (iStrD m1) (iStr (tD g W m1)) := fun σ H F e M R RS q => by
  refine ⟨F, e, M, RS, ?_⟩
  unfold iStrD at q
  cases h1 : m1 e M with
  | bad => rw [h1] at q; exact q
  | exc c ns ds M' => rw [h1] at q; exact q
  | ok x M1 =>
    rw [h1] at q
    intro F1 H1 v g1 R1 rx
    cases rx with
    | str z => exact ⟨z, rfl, q F1 H1 _ g1 R1 (itV_str z)⟩
    | _ => exact q.elim
end T2
namespace T2
open PySem L2

/-! ### evaluation by rewriting: each construct's parts first, then the rest -/
section
variable {A B : Type} {e e1 : Env2} {M M1 : MH} {d x y : D} {c : Nat} {ns : List Str} {ds xs : List D} {k : Bool}
def qSeq (r : SR) (b : SM) : SR := match r with
  | .nx e1 M1 => b e1 M1
  | r => r
theorem z_seq {a b : SM} : sSeq a b e M = qSeq (a e M) b := rfl
theorem z_seq_nx {b : SM} : qSeq (.nx e1 M1) b = b e1 M1 := rfl
theorem z_seq_rt {b : SM} : qSeq (.rt d M1) b = .rt d M1 := rfl
theorem z_seq_ex {b : SM} : qSeq (.ex c ns ds e1 M1) b = .ex c ns ds e1 M1 := rfl
theorem z_seq_bk {b : SM} : qSeq (.bk e1 M1) b = .bk e1 M1 := rfl
theorem z_seq_ct {b : SM} : qSeq (.ct e1 M1) b = .ct e1 M1 := rfl
def qIf (r : Res Bool) (e : Env2) (a b : SM) : SR := r.toSB e fun k M1 => if k = true then a e M1 else b e M1
theorem z_if {c : BM} {a b : SM} : sIf c a b e M = qIf (c e M) e a b := rfl
theorem z_if_t {a b : SM} : qIf (.ok true M1) e a b = a e M1 := rfl
theorem z_if_f {a b : SM} : qIf (.ok false M1) e a b = b e M1 := rfl
theorem z_if_x {a b : SM} : qIf (.exc c ns ds M1) e a b = .ex c ns ds e M1 := rfl
def qSet (i : Nat) (e : Env2) (r : Res D) : SR := r.toS e fun d M1 => .nx (e.set i (some d)) M1
theorem z_set {i : Nat} {m : EM} : sSet i m e M = qSet i e (m e M) := rfl
theorem z_set_ok {i : Nat} : qSet i e (.ok d M1) = .nx (e.set i (some d)) M1 := rfl
theorem z_set_x {i : Nat} : qSet i e (.exc c ns ds M1) = .ex c ns ds e M1 := rfl
def qRet (e : Env2) (r : Res D) : SR := r.toS e fun d M1 => .rt d M1
theorem z_ret {m : EM} : sRet m e M = qRet e (m e M) := rfl
theorem z_ret_ok : qRet e (.ok d M1) = .rt d M1 := rfl
theorem z_ret_x : qRet e (.exc c ns ds M1) = .ex c ns ds e M1 := rfl
theorem z_retN : sRetN e M = .rt .non M := rfl
def qDo (e : Env2) (r : Res D) : SR := r.toS e fun _ M1 => .nx e M1
theorem z_do {m : EM} : sDo m e M = qDo e (m e M) := rfl
theorem z_do_ok : qDo e (.ok d M1) = .nx e M1 := rfl
theorem z_do_x : qDo e (.exc c ns ds M1) = .ex c ns ds e M1 := rfl
theorem z_nil : sNil e M = .nx e M := rfl
theorem z_raise0 {c : Nat} : sRaise0 c e M = .ex c [] [] e M := rfl
def qRaise (c n : Nat) (ns : List Str) (f : List D → List D) (e : Env2) (r : Res (List D)) : SR := match r with
  | .ok ds M1 => if ds.length = n then .ex c ns (f ds) e M1 else .bad
  | .exc c ns ds M1 => .ex c ns ds e M1
  | .bad => .bad
theorem z_raise {n : Nat} {f : List D → List D} {ma : AM} : sRaiseX c n ns f ma e M = qRaise c n ns f e (ma e M) := by unfold sRaiseX qRaise; cases ma e M <;> rfl
theorem z_raise_ok {n : Nat} {f : List D → List D} (h : ds.length = n) : qRaise c n ns f e (.ok ds M1) = .ex c ns (f ds) e M1 := if_pos h
theorem z_toR_rt : toR (.rt d M) = .ok d M := rfl
theorem z_toR_nx : toR (.nx e M) = .ok .non M := rfl
theorem z_toR_ex : toR (.ex c ns ds e M) = .exc c ns ds M := rfl
theorem z_fn {n : Nat} {b : SM} : fnB n b ds M = toR (b (env0 n ds) M) := rfl

/-! expressions -/
theorem z_c : eC d e M = .ok d M := rfl
def qVar (o : Option (Option D)) (M : MH) : Res D := match o with
  | some (some d) => .ok d M
  | _ => .bad
theorem z_var {n : Nat} : eVar n e M = qVar e[n]? M := rfl
theorem z_var_ok : qVar (some (some d)) M = .ok d M := rfl
def qUn (f : D → MH → Res D) (r : Res D) : Res D := r.bind f
theorem z_un {f : D → MH → Res D} {a : EM} : eUn f a e M = qUn f (a e M) := rfl
theorem z_un_ok {f : D → MH → Res D} : qUn f (.ok x M1) = f x M1 := rfl
theorem z_un_x {f : D → MH → Res D} : qUn f (.exc c ns ds M1) = .exc c ns ds M1 := rfl
def qBin (f : D → D → MH → Res D) (r : Res D) (b : EM) (e : Env2) : Res D := r.bind fun x M1 => (b e M1).bind fun y M2 => f x y M2
theorem z_bin {f : D → D → MH → Res D} {a b : EM} : eBin f a b e M = qBin f (a e M) b e := rfl
theorem z_bin_ok {f : D → D → MH → Res D} {b : EM} : qBin f (.ok x M1) b e = qUn (f x) (b e M1) := rfl
theorem z_bin_x {f : D → D → MH → Res D} {b : EM} : qBin f (.exc c ns ds M1) b e = .exc c ns ds M1 := rfl
theorem z_anil : eNil e M = .ok [] M := rfl
def qC2 (x : D) (r : Res (List D)) : Res (List D) := r.bind fun xs M2 => .ok (x :: xs) M2
def qC1 (r : Res D) (b : AM) (e : Env2) : Res (List D) := r.bind fun x M1 => (b e M1).bind fun xs M2 => .ok (x :: xs) M2
theorem z_cons {a : EM} {b : AM} : eCons a b e M = qC1 (a e M) b e := rfl
theorem z_cons1 {b : AM} : qC1 (.ok x M1) b e = qC2 x (b e M1) := rfl
theorem z_cons1x {b : AM} : qC1 (.exc c ns ds M1) b e = .exc c ns ds M1 := rfl
theorem z_cons2 : qC2 x (.ok xs M1) = .ok (x :: xs) M1 := rfl
theorem z_cons2x : qC2 x (.exc c ns ds M1) = .exc c ns ds M1 := rfl
def qArgs (f : List D → MH → Res D) (r : Res (List D)) : Res D := r.bind f
theorem z_args {f : List D → MH → Res D} {a : AM} : eArgs f a e M = qArgs f (a e M) := rfl
theorem z_args_ok {f : List D → MH → Res D} : qArgs f (.ok xs M1) = f xs M1 := rfl
theorem z_args_x {f : List D → MH → Res D} : qArgs f (.exc c ns ds M1) = .exc c ns ds M1 := rfl
def fTup (ds : List D) (M : MH) : Res D := if ds.length ≤ 1000 then .ok (.tup ds) M else .bad
theorem z_tup {a : AM} : eTup a e M = qArgs fTup (a e M) := rfl
theorem z_tup_ok (h : xs.length ≤ 1000) : fTup xs M = .ok (.tup xs) M := if_pos h
def fFro (ds : List D) (M : MH) : Res D := if ds.length ≤ 1000 then .ok (.fro ds) M else .bad
theorem z_fro {a : AM} : eFro a e M = qArgs fFro (a e M) := rfl
theorem z_fro_ok (h : xs.length ≤ 1000) : fFro xs M = .ok (.fro xs) M := if_pos h
def fLst (ds : List D) (M : MH) : Res D := if ds.length ≤ 1000 then .ok (.ref M.length) (M ++ [.lst ds]) else .bad
theorem z_lst {a : AM} : eLst a e M = qArgs fLst (a e M) := rfl
theorem z_lst_ok (h : xs.length ≤ 1000) : fLst xs M = .ok (.ref M.length) (M ++ [.lst xs]) := if_pos h
def fCall (n : Nat) (f : List D → MH → Res D) (ds : List D) (M : MH) : Res D := if ds.length = n then f ds M else .bad
theorem z_call {n : Nat} {f : List D → MH → Res D} {a : AM} : eCall n f a e M = qArgs (fCall n f) (a e M) := rfl
theorem z_stat {c n : Nat} {f : List D → MH → Res D} {a : AM} : eStat c n f a e M = qArgs (fCall n f) (a e M) := rfl
theorem z_call_ok {n : Nat} {f : List D → MH → Res D} (h : xs.length = n) : fCall n f xs M = f xs M := if_pos h
def qK (n k : Nat) (gD : List D → List D → List D) (f : List D → MH → Res D) (ds : List D) (r : Res (List D)) : Res D := r.bind fun zs M2 => if ds.length = n ∧ zs.length = k then f (gD ds zs) M2 else .bad
def qK1 (n k : Nat) (gD : List D → List D → List D) (f : List D → MH → Res D) (r : Res (List D)) (mk : AM) (e : Env2) : Res D := r.bind fun ds M1 => (mk e M1).bind fun zs M2 => if ds.length = n ∧ zs.length = k then f (gD ds zs) M2 else .bad
theorem z_callk {n k : Nat} {gD : List D → List D → List D} {f : List D → MH → Res D} {ma mk : AM} : eCallK n k gD f ma mk e M = qK1 n k gD f (ma e M) mk e := rfl
theorem z_callk1 {n k : Nat} {gD : List D → List D → List D} {f : List D → MH → Res D} {mk : AM} : qK1 n k gD f (.ok xs M1) mk e = qK n k gD f xs (mk e M1) := rfl
theorem z_callk2 {n k : Nat} {gD : List D → List D → List D} {f : List D → MH → Res D} {zs : List D} (h1 : xs.length = n) (h2 : zs.length = k) : qK n k gD f xs (.ok zs M1) = f (gD xs zs) M1 := if_pos ⟨h1, h2⟩
def fMakeF (c : Nat) (fs : List Str) (ds : List D) (M : MH) : Res D := if ds.length = fs.length then .ok (.ins c fs ds) M else .bad
theorem z_mkF {c : Nat} {fs : List Str} {a : AM} : eMakeF c fs a e M = qArgs (fMakeF c fs) (a e M) := rfl
theorem z_mkF_ok {c : Nat} {fs : List Str} (h : xs.length = fs.length) : fMakeF c fs xs M = .ok (.ins c fs xs) M := if_pos h
def fOwn1 (c : Nat) (f : List D → MH → Res D) (x : D) (M1 : MH) : Res D := match instOf M1 x with
  | some (c1, _, _) => if c1 = c then f [x] M1 else .bad
  | none => .bad
theorem z_own1 {c : Nat} {f : List D → MH → Res D} {a : EM} : eOwn1 c f a e M = qUn (fOwn1 c f) (a e M) := rfl
theorem z_own1_ok {c : Nat} {f : List D → MH → Res D} : fOwn1 c f (.ins c ns ds) M = f [.ins c ns ds] M := if_pos rfl
theorem z_prop {c : Nat} {f : List D → MH → Res D} {a : EM} : eProp c f a e M = qUn (fOwn1 c fun ds M => okR (f ds M)) (a e M) := rfl
def fOwn2 (c : Nat) (f : List D → MH → Res D) (x y : D) (M2 : MH) : Res D := if both M2 c x y = true then f [x, y] M2 else .bad
theorem z_own2 {c : Nat} {f : List D → MH → Res D} {a b : EM} : eOwn2 c f a b e M = qBin (fOwn2 c f) (a e M) b e := rfl
theorem z_own2_ok {c : Nat} {f : List D → MH → Res D} {ns' : List Str} {ds' : List D} : fOwn2 c f (.ins c ns ds) (.ins c ns' ds') M = f [.ins c ns ds, .ins c ns' ds'] M := by
  unfold fOwn2; rw [if_pos]; unfold both instOf; simp

/-! tests -/
def qVal (r : Res D) : Res Bool := r.bind asB
theorem z_val {m : EM} : bVal m e M = qVal (m e M) := rfl
theorem z_val_ok : qVal (.ok (.bl k) M1) = .ok k M1 := rfl
theorem z_val_x : qVal (.exc c ns ds M1) = .exc c ns ds M1 := rfl
def qAnd (r : Res Bool) (b : BM) (e : Env2) : Res Bool := r.bind fun c M1 => if c = true then b e M1 else .ok false M1
theorem z_and {a b : BM} : bAnd a b e M = qAnd (a e M) b e := rfl
theorem z_and_t {b : BM} : qAnd (.ok true M1) b e = b e M1 := rfl
theorem z_and_f {b : BM} : qAnd (.ok false M1) b e = .ok false M1 := rfl
def qOr (r : Res Bool) (b : BM) (e : Env2) : Res Bool := r.bind fun c M1 => if c = true then .ok true M1 else b e M1
theorem z_or {a b : BM} : bOr a b e M = qOr (a e M) b e := rfl
theorem z_or_t {b : BM} : qOr (.ok true M1) b e = .ok true M1 := rfl
theorem z_or_f {b : BM} : qOr (.ok false M1) b e = b e M1 := rfl
def qNot (r : Res Bool) : Res Bool := r.bind fun c M1 => .ok (!c) M1
theorem z_not {a : BM} : bNot a e M = qNot (a e M) := rfl
theorem z_not_ok : qNot (.ok k M1) = .ok (!k) M1 := rfl
theorem z_yes : bYes e M = .ok true M := rfl
def qEAnd (r : Res D) (b : EM) (e : Env2) : Res D := match r with
  | .ok (.bl true) M1 => b e M1
  | .ok (.bl false) M1 => .ok (.bl false) M1
  | .ok _ _ => .bad
  | .exc c ns ds M1 => .exc c ns ds M1
  | .bad => .bad
theorem z_eand {a b : EM} : eAnd a b e M = qEAnd (a e M) b e := by
  show Res.bind _ _ = _
  cases a e M with
  | ok d M1 => cases d <;> first | rfl | (rename_i b; cases b <;> rfl)
  | _ => rfl
theorem z_eand_t {b : EM} : qEAnd (.ok (.bl true) M1) b e = b e M1 := rfl
theorem z_eand_f {b : EM} : qEAnd (.ok (.bl false) M1) b e = .ok (.bl false) M1 := rfl
def qEOr (r : Res D) (b : EM) (e : Env2) : Res D := match r with
  | .ok (.bl false) M1 => b e M1
  | .ok (.bl true) M1 => .ok (.bl true) M1
  | .ok _ _ => .bad
  | .exc c ns ds M1 => .exc c ns ds M1
  | .bad => .bad
theorem z_eor {a b : EM} : eOr a b e M = qEOr (a e M) b e := by
  show Res.bind _ _ = _
  cases a e M with
  | ok d M1 => cases d <;> first | rfl | (rename_i b; cases b <;> rfl)
  | _ => rfl
theorem z_eor_t {b : EM} : qEOr (.ok (.bl true) M1) b e = .ok (.bl true) M1 := rfl
theorem z_eor_f {b : EM} : qEOr (.ok (.bl false) M1) b e = b e M1 := rfl
def qENot (r : Res D) : Res D := match r with
  | .ok (.bl k) M1 => .ok (.bl (!k)) M1
  | .ok _ _ => .bad
  | .exc c ns ds M1 => .exc c ns ds M1
  | .bad => .bad
theorem z_enot {a : EM} : eNot a e M = qENot (a e M) := by
  show Res.bind _ _ = _
  cases a e M with
  | ok d M1 => cases d <;> rfl
  | _ => rfl
theorem z_enot_ok : qENot (.ok (.bl k) M1) = .ok (.bl (!k)) M1 := rfl
def qEIf (r : Res Bool) (a b : EM) (e : Env2) : Res D := r.bind fun k M1 => if k = true then a e M1 else b e M1
theorem z_eif {c : BM} {a b : EM} : eIf c a b e M = qEIf (c e M) a b e := rfl
theorem z_eif_t {a b : EM} : qEIf (.ok true M1) a b e = a e M1 := rfl
theorem z_eif_f {a b : EM} : qEIf (.ok false M1) a b e = b e M1 := rfl

/-! loops: what is walked first -/
def qIt (r : Res IV) (tg : TgM) (body : SM) (e : Env2) : SR := match r with
  | .ok (.vals ds) M1 => forV tg body ds e M1
  | .ok (.live n) M1 => match M1[n]? with
    | some (.lst ds) => forL tg body n ds.length 0 e M1
    | _ => .bad
  | .exc c ns ds M1 => .ex c ns ds e M1
  | .bad => .bad
theorem z_for {it : Env2 → MH → Res IV} {tg : TgM} {body : SM} : sForI it tg body e M = qIt (it e M) tg body e := by
  unfold sForI qIt
  cases it e M with
  | ok iv M1 => cases iv <;> rfl
  | _ => rfl
theorem z_for_v {tg : TgM} {body : SM} : qIt (.ok (.vals ds) M1) tg body e = forV tg body ds e M1 := rfl
def qSeqI (r : Res D) : Res IV := r.bind ivOf
theorem z_iseq {m : EM} : iSeq m e M = qSeqI (m e M) := rfl
theorem z_iseq_t : qSeqI (.ok (.tup ds) M1) = .ok (.vals ds) M1 := rfl
theorem z_iseq_f : qSeqI (.ok (.fro ds) M1) = .ok (.vals ds) M1 := rfl
theorem z_iseq_r {n : Nat} : qSeqI (.ok (.ref n) M1) = .ok (.live n) M1 := rfl
def fRng (d : D) (M1 : MH) : Res IV := match d with
  | .int j => if -(2 ^ 62) ≤ j ∧ j < 2 ^ 62 then .ok (.vals (rangeD 0 j.toNat)) M1 else .bad
  | _ => .bad
def qRng (r : Res D) : Res IV := r.bind fRng
theorem z_rng {a : EM} : iRange1 a e M = qRng (a e M) := rfl
theorem z_rng_ok {i : Int} (h0 : 0 ≤ i) (h : i < 1000000) : qRng (.ok (.int i) M1) = .ok (.vals (rangeD 0 i.toNat)) M1 := by
  unfold qRng fRng
  rw [Res.bind_ok]
  dsimp only
  rw [if_pos ⟨by omega, by omega⟩]
theorem z_env0 {n : Nat} {ds : List D} : env0 n ds = ds.map some ++ List.replicate (n - ds.length) none := rfl
/-! try -/
def qTry (i : Nat) (ct : Nat → Option Bool) (suite : Nat → List Str → List D → SM) (r : SR) : SR := match r with
  | .ex c ns ds e1 M1 => match ct c with
    | some true => if i < e1.length then unbind i (suite c ns ds (e1.set i none) M1) else .bad
    | some false => .ex c ns ds e1 M1
    | none => .bad
  | r => r
theorem z_try {i : Nat} {ct : Nat → Option Bool} {body : SM} {suite : Nat → List Str → List D → SM} {e : Env2} {M : MH} : sTry i ct body suite e M = qTry i ct suite (body e M) := rfl
theorem z_try_nx {i : Nat} {ct : Nat → Option Bool} {suite : Nat → List Str → List D → SM} {e : Env2} {M : MH} : qTry i ct suite (.nx e M) = .nx e M := rfl
theorem z_try_rt {i : Nat} {ct : Nat → Option Bool} {suite : Nat → List Str → List D → SM} {d : D} {M : MH} : qTry i ct suite (.rt d M) = .rt d M := rfl
def qTry0 (ct : Nat → Option Bool) (suite : SM) (r : SR) : SR := match r with
  | .ex c ns ds e1 M1 => match ct c with
    | some true => match suite e1 M1 with
      | .ex _ _ _ _ _ => .bad
      | r => r
    | some false => .ex c ns ds e1 M1
    | none => .bad
  | r => r
theorem z_try0 {ct : Nat → Option Bool} {body suite : SM} {e : Env2} {M : MH} : sTry0 ct body suite e M = qTry0 ct suite (body e M) := rfl
theorem z_try0_nx {ct : Nat → Option Bool} {suite : SM} {e : Env2} {M : MH} : qTry0 ct suite (.nx e M) = .nx e M := rfl
theorem z_try0_rt {ct : Nat → Option Bool} {suite : SM} {d : D} {M : MH} : qTry0 ct suite (.rt d M) = .rt d M := rfl
/-! loops that keep an invariant -/
theorem loop_inv {body : SM} {tg : TgM} {I : Nat → Env2 → MH → Prop} : ∀ (ps : List D) (k : Nat) (e : Env2) (M : MH), I k e M → (∀ j (hj : j < ps.length) e M, I (k + j) e M → ∃ e1 e2 M2, tg ps[j] e = some e1 ∧ body e1 M = .nx e2 M2 ∧ I (k + j + 1) e2 M2) → ∃ e' M', forV tg body ps e M = .nx e' M' ∧ I (k + ps.length) e' M'
  | [], k, e, M, h, _ => ⟨e, M, rfl, h⟩
  | p :: ps, k, e, M, h, hs => by
    obtain ⟨e1, e2, M2, ht, hb, hi⟩ := hs 0 (by simp) e M h
    obtain ⟨e', M', he, hI⟩ := loop_inv (body := body) (tg := tg) (I := I) ps (k + 1) e2 M2 hi fun j hj e M hh => by
      have := hs (j + 1) (by simp; omega) e M (by rw [show k + (j + 1) = k + 1 + j by omega]; exact hh)
      rw [show k + (j + 1) + 1 = k + 1 + j + 1 by omega] at this
      exact this
    refine ⟨e', M', ?_, by rw [List.length_cons, show k + (ps.length + 1) = k + 1 + ps.length by omega]; exact hI⟩
    unfold forV
    simp only [List.getElem_cons_zero] at ht
    rw [ht]
    simp only [hb]
    exact he
theorem z_for_l {tg : TgM} {body : SM} {e : Env2} {M : MH} {n : Nat} {ds : List D} (h : M[n]? = some (.lst ds)) : qIt (.ok (.live n) M) tg body e = forL tg body n ds.length 0 e M := by
  unfold qIt; dsimp only; rw [h]
theorem draw_at {R : MH} {s : Bx} {n : Int} (hs : BxOk s) (h1 : 0 < n) (h2 : n < 1073741824) : ∃ r s', drawM [.ref 0, .int n] (s.obj :: R) = .ok (.int r) (s'.obj :: R) ∧ 0 ≤ r ∧ r < n ∧ BxOk s' :=
  draw_spec (M := s.obj :: R) (b := 0) ⟨rfl, hs⟩ h1 h2
/-! a loop's turns one by one -/
def qFv (tg : TgM) (body : SM) (xs : List D) (r : SR) : SR := match r with
  | .nx e2 M2 => forV tg body xs e2 M2
  | .ct e2 M2 => forV tg body xs e2 M2
  | .bk e2 M2 => .nx e2 M2
  | .rt d M2 => .rt d M2
  | .ex c ns ds e2 M2 => .ex c ns ds e2 M2
  | .bad => .bad
theorem z_fv {i : Nat} {body : SM} {x : D} {xs : List D} {e : Env2} {M : MH} : forV (tgName i) body (x :: xs) e M = qFv (tgName i) body xs (body (e.set i (some x)) M) := by
  unfold forV tgName qFv
  dsimp only
  first
    | done
    | (cases body (e.set i (some x)) M <;> rfl)
theorem z_fv0 {tg : TgM} {body : SM} {e : Env2} {M : MH} : forV tg body [] e M = .nx e M := rfl
theorem z_fv_nx {tg : TgM} {body : SM} {xs : List D} {e : Env2} {M : MH} : qFv tg body xs (.nx e M) = forV tg body xs e M := rfl
theorem z_fv_ct {tg : TgM} {body : SM} {xs : List D} {e : Env2} {M : MH} : qFv tg body xs (.ct e M) = forV tg body xs e M := rfl
theorem z_fv_rt {tg : TgM} {body : SM} {xs : List D} {d : D} {M : MH} : qFv tg body xs (.rt d M) = .rt d M := rfl
/-! comprehensions -/
def qLc (tg : TgM) (tt : BM) (m : EM) (vs : List Nat) (e : Env2) (r : Res IV) : Res D := match r with
  | .ok (.vals ds) M1 => lcV tg tt m (wipe2 e vs) M1.length ds (M1 ++ [.lst []])
  | .ok (.live s) M1 => match M1[s]? with
    | some (.lst ds) => lcL tg tt m (wipe2 e vs) M1.length s ds.length 0 (M1 ++ [.lst []])
    | _ => .bad
  | .exc c ns ds M1 => .exc c ns ds M1
  | .bad => .bad
theorem z_lc {it : Env2 → MH → Res IV} {tg : TgM} {tt : BM} {m : EM} {vs : List Nat} {e : Env2} {M : MH} : eLc it tg tt m vs e M = qLc tg tt m vs e (it e M) := by
  unfold eLc qLc
  cases it e M with
  | ok iv M1 => cases iv <;> rfl
  | _ => rfl
theorem z_lc_v {tg : TgM} {tt : BM} {m : EM} {vs : List Nat} {e : Env2} {M : MH} {ds : List D} : qLc tg tt m vs e (.ok (.vals ds) M) = lcV tg tt m (wipe2 e vs) M.length ds (M ++ [.lst []]) := rfl
def qStep (r : Res D) : Res (Option D) := (noX r).bind fun y M2 => .ok (some y) M2
theorem z_step {i : Nat} {m : EM} {e : Env2} {x : D} {M : MH} : lcStep (tgName i) bYes m e x M = qStep (m (e.set i (some x)) M) := rfl
theorem z_step_ok {y : D} {M : MH} : qStep (.ok y M) = .ok (some y) M := rfl
/-! the box -/
def boxM : List D → MH → Res D := fnB 1 (sRet (eLst (eCons (eArgs dListF (eCons (eVar 0) (eNil))) (eCons (eC (.int 0)) (eCons (eC (.int 0)) (eCons (eC (.int 0)) (eCons (eC (.int 0)) (eNil))))))))
theorem box_run {ns : List Int} (hl : ns.length ≤ 63) : boxM [.fro (ns.map D.int)] [] = .ok (.ref 0) [(⟨ns, 0, 0, 0, 0⟩ : Bx).obj] := by
  have : (ns.map D.int).length ≤ 1000 := by rw [List.length_map]; omega
  unfold boxM
  rw [z_fn]
  have e1 : ∀ M, dListF [.fro (ns.map D.int)] M = .ok (.fro (ns.map D.int)) M := fun M => by unfold dListF items; rfl
  simp only [z_ret, z_lst, z_cons, z_args, z_var, z_env0, List.map_cons, List.map_nil, List.length_cons, List.length_nil, Nat.reduceAdd, Nat.reduceSub, List.replicate, List.append_nil, List.getElem?_cons_zero, z_var_ok, z_cons1, z_anil, z_cons2, z_args_ok, e1, z_c, z_ret_ok, z_toR_rt]
  rfl
/-! a list that is walked while nothing changes -/
theorem items_ref {M : MH} {l : D} {ds : List D} (h : listItems M l = some ds) : l = .fro ds ∨ ∃ n, l = .ref n ∧ M[n]? = some (.lst ds) := by
  unfold listItems at h
  split at h
  · cases h; exact .inl rfl
  · rename_i n
    split at h
    · rename_i ds' hm; cases h; exact .inr ⟨n, rfl, hm⟩
    · cases h
  · cases h
def qStrI (r : Res D) : Res IV := r.bind fStrI
theorem z_istr {m : EM} {e : Env2} {M : MH} : iStrD m e M = qStrI (m e M) := rfl
theorem z_istr_ok {z : Str} {M : MH} : qStrI (.ok (.str z) M) = .ok (.vals (signsOf z)) M := rfl
end
end T2
namespace T2
open PySem L2

/-! ### the laws' own comparison -/
def alikeL (self : List D → MH → Res D) : SM :=
    sIf (bNot (bVal (eCall 2 self (eCons (eBin dIxA (eVar 0) (eVar 2)) (eCons (eBin dIxA (eVar 1) (eVar 2)) (eNil))))))
    (sRet (eC (.bl false)))
    (sNil)
def alikeT (self : List D → MH → Res D) : SM :=
    sSeq (sForI (iRange1 (eArgs dLen (eCons (eVar 1) (eNil)))) (tgName 2) (alikeL self))
    (sRet (eC (.bl true)))
def alikeB (isi : Tg → Tg → Option Bool) (self : List D → MH → Res D) : SM :=
    sSeq (sIf (bVal (eBin dIs (eVar 1) (eC .non)))
    (sRet (eBin dIs (eVar 0) (eC .non)))
    (sNil))
    (sSeq (sIf (bOr (bVal (eBin dIs (eVar 1) (eC (.bl true)))) (bVal (eBin dIs (eVar 1) (eC (.bl false)))))
    (sRet (eAnd (eArgs (dIsi isi) (eCons (eVar 0) (eCons (eC (.ty "bool")) (eNil)))) (eBin dEq (eVar 0) (eVar 1))))
    (sNil))
    (sSeq (sIf (bVal (eArgs (dIsi isi) (eCons (eVar 1) (eCons (eC (.ty "int")) (eNil)))))
    (sRet (eAnd (eArgs (dIsi isi) (eCons (eVar 0) (eCons (eC (.ty "int")) (eNil)))) (eAnd (eNot (eArgs (dIsi isi) (eCons (eVar 0) (eCons (eC (.ty "bool")) (eNil))))) (eBin dEq (eVar 0) (eVar 1)))))
    (sNil))
    (sSeq (sIf (bVal (eArgs (dIsi isi) (eCons (eVar 1) (eCons (eC (.ty "str")) (eNil)))))
    (sRet (eAnd (eArgs (dIsi isi) (eCons (eVar 0) (eCons (eC (.ty "str")) (eNil)))) (eBin dEq (eVar 0) (eVar 1))))
    (sNil))
    (sSeq (sIf (bVal (eArgs (dIsi isi) (eCons (eVar 1) (eCons (eC (.ty "tuple")) (eNil)))))
    (sIf (bOr (bNot (bVal (eArgs (dIsi isi) (eCons (eVar 0) (eCons (eC (.ty "tuple")) (eNil)))))) (bVal (eBin dNe (eArgs dLen (eCons (eVar 0) (eNil))) (eArgs dLen (eCons (eVar 1) (eNil))))))
    (sRet (eC (.bl false)))
    (sNil))
    (sIf (bOr (bNot (bVal (eArgs (dIsi isi) (eCons (eVar 0) (eCons (eC (.ty "list")) (eNil)))))) (bVal (eBin dNe (eArgs dLen (eCons (eVar 0) (eNil))) (eArgs dLen (eCons (eVar 1) (eNil))))))
    (sRet (eC (.bl false)))
    (sNil)))
    (alikeT self)))))
def alikeM (isi : Tg → Tg → Option Bool) : Nat → List D → MH → Res D
  | 0 => fun _ _ => .bad
  | n + 1 => fnB 3 (alikeB isi (alikeM isi n))
/-- what isinstance says of the written types -/
structure IsiB (isi : Tg → Tg → Option Bool) : Prop where
  bb : isi (.inl "bool") (.inl "bool") = some true
  ii : isi (.inl "int") (.inl "int") = some true
  ib : isi (.inl "int") (.inl "bool") = some false
  si : isi (.inl "str") (.inl "int") = some false
  ss : isi (.inl "str") (.inl "str") = some true
  ti : isi (.inl "tuple") (.inl "int") = some false
  ts : isi (.inl "tuple") (.inl "str") = some false
  tt : isi (.inl "tuple") (.inl "tuple") = some true
  li : isi (.inl "list") (.inl "int") = some false
  ls : isi (.inl "list") (.inl "str") = some false
  lt : isi (.inl "list") (.inl "tuple") = some false
  ll : isi (.inl "list") (.inl "list") = some true
theorem isi_of {isi : Tg → Tg → Option Bool} {M : MH} {x : D} {c : String} {t : Tg} {b : Bool} (h1 : tagOf M x = some t) (h2 : isi t (.inl c) = some b) : dIsi isi [x, .ty c] M = .ok (.bl b) M := by
  unfold dIsi
  dsimp only [clsTag]
  rw [h1]
  dsimp only
  rw [h2]
theorem ne_int {i j : Int} {M : MH} : dNe (.int i) (.int j) M = .ok (.bl (!(i == j))) M := by
  unfold dNe
  simp [toP, toPa, SeqAt.shaped, PyData.canLay0, PyData.depth, PyData.eqv]
theorem eq_bl {a b : Bool} {M : MH} : dEq (.bl a) (.bl b) M = .ok (.bl (a == b)) M := by
  cases a <;> cases b <;> kernel_rfl
/-- x is a tuple (t) or a list with the items xs -/
def SeqOf (M : MH) (t : String) (x : D) (xs : List D) : Prop := (t = "tuple" ∧ x = .tup xs) ∨ (t = "list" ∧ listItems M x = some xs)
theorem SeqOf.tag {M : MH} {t : String} {x : D} {xs : List D} (h : SeqOf M t x xs) : tagOf M x = some (.inl t) := by
  rcases h with ⟨rfl, rfl⟩ | ⟨rfl, h⟩
  · rfl
  · rcases items_ref h with rfl | ⟨n, rfl, hn⟩
    · rfl
    · unfold tagOf; dsimp only; rw [hn]
theorem SeqOf.is {M : MH} {t : String} {x : D} {xs : List D} (h : SeqOf M t x xs) : dIs x .non M = .ok (.bl false) M ∧ dIs x (.bl true) M = .ok (.bl false) M ∧ dIs x (.bl false) M = .ok (.bl false) M := by
  rcases h with ⟨rfl, rfl⟩ | ⟨rfl, h⟩
  · exact ⟨rfl, rfl, rfl⟩
  · rcases items_ref h with rfl | ⟨n, rfl, hn⟩ <;> exact ⟨rfl, rfl, rfl⟩
theorem SeqOf.len {M : MH} {t : String} {x : D} {xs : List D} (h : SeqOf M t x xs) : dLen [x] M = .ok (.int xs.length) M := by
  rcases h with ⟨rfl, rfl⟩ | ⟨rfl, h⟩
  · rfl
  · rcases items_ref h with rfl | ⟨n, rfl, hn⟩
    · rfl
    · unfold dLen items
      dsimp only
      rw [hn]
theorem ix_seq' {M : MH} {x : D} {xs : List D} {j : Nat} {a : D} (hi : items M x = some xs) (hd : ∀ n ks ds, x = .ref n → M[n]? ≠ some (.dk ks ds)) (ha : xs[j]? = some a) : dIxA x (.int j) M = .ok a M := by
  have hl : j < xs.length := (List.getElem?_eq_some_iff.mp ha).1
  have hat : atI xs (j : Int) = some a := by
    unfold atI ixN
    rw [if_pos (by omega), if_pos (by omega)]
    exact ha
  have key : dIx x (.int j) M = .ok a M := by
    unfold dIx
    dsimp only
    cases x with
    | str z => cases hi
    | _ => dsimp only; rw [hi]; dsimp only; rw [hat]
  unfold dIxA
  split
  · rename_i n
    split
    · rename_i ks ds hm
      exact absurd hm (hd n ks ds rfl)
    · exact key
  · exact key
theorem SeqOf.ix {M : MH} {t : String} {x : D} {xs : List D} {j : Nat} {a : D} (h : SeqOf M t x xs) (ha : xs[j]? = some a) : dIxA x (.int j) M = .ok a M := by
  rcases h with ⟨rfl, rfl⟩ | ⟨rfl, h⟩
  · exact ix_seq' rfl (fun n ks ds z => by cases z) ha
  · rcases items_ref h with rfl | ⟨n, rfl, hn⟩
    · exact ix_seq' rfl (fun n ks ds z => by cases z) ha
    · refine ix_seq' (by unfold items; dsimp only; rw [hn]) (fun n' ks ds z => ?_) ha
      cases z
      rw [hn]
      intro q
      cases q
/-- two values that stand for the same data -/
def Same (M : MH) : Nat → D → D → Prop
  | 0, _, _ => False
  | k + 1, x, y => (x = .non ∧ y = .non) ∨ (∃ b, x = .bl b ∧ y = .bl b) ∨ (∃ i, x = .int i ∧ y = .int i) ∨ (∃ s, x = .str s ∧ y = .str s ∧ PyData.strOk s = true) ∨
    ∃ t xs ys, SeqOf M t x xs ∧ SeqOf M t y ys ∧ xs.length = ys.length ∧ xs.length ≤ 1000 ∧ ∀ (i : Nat) (a b : D), xs[i]? = some a → ys[i]? = some b → Same M k a b
theorem alike_same {isi : Tg → Tg → Option Bool} (B : IsiB isi) {M : MH} : ∀ (k : Nat) (x y : D), Same M k x y → alikeM isi k [x, y] M = .ok (.bl true) M
  | 0, _, _, h => h.elim
  | k + 1, x, y, h => by
    rw [alikeM, z_fn, alikeB]
    rcases h with ⟨rfl, rfl⟩ | ⟨b, rfl, rfl⟩ | ⟨i, rfl, rfl⟩ | ⟨s, rfl, rfl, hs⟩ | ⟨t, xs, ys, hx, hy, hl, hz, hs⟩
    · have f1 : dIs .non .non M = .ok (.bl true) M := rfl
      simp only [z_seq, z_seq_nx, z_seq_rt, z_seq_ex, z_seq_bk, z_seq_ct, z_if, z_if_t, z_if_f, z_if_x, z_set, z_set_ok, z_set_x, z_ret, z_ret_ok, z_ret_x, z_retN, z_do, z_do_ok, z_do_x, z_nil, z_raise0, z_raise, z_raise_ok, z_toR_rt, z_toR_nx, z_toR_ex, z_c, z_var, z_var_ok, z_un, z_un_ok, z_un_x, z_bin, z_bin_ok, z_bin_x, z_anil, z_cons, z_cons1, z_cons1x, z_cons2, z_cons2x, z_args, z_args_ok, z_args_x, z_tup, z_tup_ok, z_fro, z_fro_ok, z_lst, z_lst_ok, z_call, z_stat, z_call_ok, z_callk, z_callk1, z_callk2, z_mkF, z_mkF_ok, z_own1, z_own1_ok, z_prop, z_own2, z_own2_ok, z_val, z_val_ok, z_val_x, z_and, z_and_t, z_and_f, z_or, z_or_t, z_or_f, z_not, z_not_ok, z_yes, z_eand, z_eand_t, z_eand_f, z_eor, z_eor_t, z_eor_f, z_enot, z_enot_ok, z_eif, z_eif_t, z_eif_f, z_for, z_for_v, z_iseq, z_iseq_t, z_iseq_f, z_iseq_r, z_rng, z_rng_ok, z_env0, z_try, z_try_nx, z_try_rt, z_try0, z_try0_nx, z_try0_rt, z_for_l, z_fv0, z_fv_nx, z_fv_ct, z_fv_rt, z_lc, z_lc_v, z_step, z_step_ok, z_istr, z_istr_ok, z_env0, List.map_cons, List.map_nil, List.replicate, List.append_nil, Nat.reduceSub, List.cons_append, List.nil_append, List.length_cons, List.length_nil, Nat.reduceAdd, Nat.reduceLeDiff, List.getElem?_cons_zero, List.getElem?_cons_succ, List.set_cons_zero, List.set_cons_succ, Bool.not_true, Bool.not_false, f1]
    · have f1 : dIs (.bl b) .non M = .ok (.bl false) M := by cases b <;> rfl
      have g1 : dIsi isi [.bl b, .ty "bool"] M = .ok (.bl true) M := isi_of rfl B.bb
      cases b
      · have f2 : dIs (.bl false) (.bl true) M = .ok (.bl false) M := rfl
        have f3 : dIs (.bl false) (.bl false) M = .ok (.bl true) M := rfl
        simp only [z_seq, z_seq_nx, z_seq_rt, z_seq_ex, z_seq_bk, z_seq_ct, z_if, z_if_t, z_if_f, z_if_x, z_set, z_set_ok, z_set_x, z_ret, z_ret_ok, z_ret_x, z_retN, z_do, z_do_ok, z_do_x, z_nil, z_raise0, z_raise, z_raise_ok, z_toR_rt, z_toR_nx, z_toR_ex, z_c, z_var, z_var_ok, z_un, z_un_ok, z_un_x, z_bin, z_bin_ok, z_bin_x, z_anil, z_cons, z_cons1, z_cons1x, z_cons2, z_cons2x, z_args, z_args_ok, z_args_x, z_tup, z_tup_ok, z_fro, z_fro_ok, z_lst, z_lst_ok, z_call, z_stat, z_call_ok, z_callk, z_callk1, z_callk2, z_mkF, z_mkF_ok, z_own1, z_own1_ok, z_prop, z_own2, z_own2_ok, z_val, z_val_ok, z_val_x, z_and, z_and_t, z_and_f, z_or, z_or_t, z_or_f, z_not, z_not_ok, z_yes, z_eand, z_eand_t, z_eand_f, z_eor, z_eor_t, z_eor_f, z_enot, z_enot_ok, z_eif, z_eif_t, z_eif_f, z_for, z_for_v, z_iseq, z_iseq_t, z_iseq_f, z_iseq_r, z_rng, z_rng_ok, z_env0, z_try, z_try_nx, z_try_rt, z_try0, z_try0_nx, z_try0_rt, z_for_l, z_fv0, z_fv_nx, z_fv_ct, z_fv_rt, z_lc, z_lc_v, z_step, z_step_ok, z_istr, z_istr_ok, z_env0, List.map_cons, List.map_nil, List.replicate, List.append_nil, Nat.reduceSub, List.cons_append, List.nil_append, List.length_cons, List.length_nil, Nat.reduceAdd, Nat.reduceLeDiff, List.getElem?_cons_zero, List.getElem?_cons_succ, List.set_cons_zero, List.set_cons_succ, Bool.not_true, Bool.not_false, f1, f2, f3, g1, eq_bl, beq_self_eq_true]
      · have f2 : dIs (.bl true) (.bl true) M = .ok (.bl true) M := rfl
        simp only [z_seq, z_seq_nx, z_seq_rt, z_seq_ex, z_seq_bk, z_seq_ct, z_if, z_if_t, z_if_f, z_if_x, z_set, z_set_ok, z_set_x, z_ret, z_ret_ok, z_ret_x, z_retN, z_do, z_do_ok, z_do_x, z_nil, z_raise0, z_raise, z_raise_ok, z_toR_rt, z_toR_nx, z_toR_ex, z_c, z_var, z_var_ok, z_un, z_un_ok, z_un_x, z_bin, z_bin_ok, z_bin_x, z_anil, z_cons, z_cons1, z_cons1x, z_cons2, z_cons2x, z_args, z_args_ok, z_args_x, z_tup, z_tup_ok, z_fro, z_fro_ok, z_lst, z_lst_ok, z_call, z_stat, z_call_ok, z_callk, z_callk1, z_callk2, z_mkF, z_mkF_ok, z_own1, z_own1_ok, z_prop, z_own2, z_own2_ok, z_val, z_val_ok, z_val_x, z_and, z_and_t, z_and_f, z_or, z_or_t, z_or_f, z_not, z_not_ok, z_yes, z_eand, z_eand_t, z_eand_f, z_eor, z_eor_t, z_eor_f, z_enot, z_enot_ok, z_eif, z_eif_t, z_eif_f, z_for, z_for_v, z_iseq, z_iseq_t, z_iseq_f, z_iseq_r, z_rng, z_rng_ok, z_env0, z_try, z_try_nx, z_try_rt, z_try0, z_try0_nx, z_try0_rt, z_for_l, z_fv0, z_fv_nx, z_fv_ct, z_fv_rt, z_lc, z_lc_v, z_step, z_step_ok, z_istr, z_istr_ok, z_env0, List.map_cons, List.map_nil, List.replicate, List.append_nil, Nat.reduceSub, List.cons_append, List.nil_append, List.length_cons, List.length_nil, Nat.reduceAdd, Nat.reduceLeDiff, List.getElem?_cons_zero, List.getElem?_cons_succ, List.set_cons_zero, List.set_cons_succ, Bool.not_true, Bool.not_false, f1, f2, g1, eq_bl, beq_self_eq_true]
    · have f1 : dIs (.int i) .non M = .ok (.bl false) M := rfl
      have f2 : dIs (.int i) (.bl true) M = .ok (.bl false) M := rfl
      have f3 : dIs (.int i) (.bl false) M = .ok (.bl false) M := rfl
      have g1 : dIsi isi [.int i, .ty "int"] M = .ok (.bl true) M := isi_of rfl B.ii
      have g2 : dIsi isi [.int i, .ty "bool"] M = .ok (.bl false) M := isi_of rfl B.ib
      simp only [z_seq, z_seq_nx, z_seq_rt, z_seq_ex, z_seq_bk, z_seq_ct, z_if, z_if_t, z_if_f, z_if_x, z_set, z_set_ok, z_set_x, z_ret, z_ret_ok, z_ret_x, z_retN, z_do, z_do_ok, z_do_x, z_nil, z_raise0, z_raise, z_raise_ok, z_toR_rt, z_toR_nx, z_toR_ex, z_c, z_var, z_var_ok, z_un, z_un_ok, z_un_x, z_bin, z_bin_ok, z_bin_x, z_anil, z_cons, z_cons1, z_cons1x, z_cons2, z_cons2x, z_args, z_args_ok, z_args_x, z_tup, z_tup_ok, z_fro, z_fro_ok, z_lst, z_lst_ok, z_call, z_stat, z_call_ok, z_callk, z_callk1, z_callk2, z_mkF, z_mkF_ok, z_own1, z_own1_ok, z_prop, z_own2, z_own2_ok, z_val, z_val_ok, z_val_x, z_and, z_and_t, z_and_f, z_or, z_or_t, z_or_f, z_not, z_not_ok, z_yes, z_eand, z_eand_t, z_eand_f, z_eor, z_eor_t, z_eor_f, z_enot, z_enot_ok, z_eif, z_eif_t, z_eif_f, z_for, z_for_v, z_iseq, z_iseq_t, z_iseq_f, z_iseq_r, z_rng, z_rng_ok, z_env0, z_try, z_try_nx, z_try_rt, z_try0, z_try0_nx, z_try0_rt, z_for_l, z_fv0, z_fv_nx, z_fv_ct, z_fv_rt, z_lc, z_lc_v, z_step, z_step_ok, z_istr, z_istr_ok, z_env0, List.map_cons, List.map_nil, List.replicate, List.append_nil, Nat.reduceSub, List.cons_append, List.nil_append, List.length_cons, List.length_nil, Nat.reduceAdd, Nat.reduceLeDiff, List.getElem?_cons_zero, List.getElem?_cons_succ, List.set_cons_zero, List.set_cons_succ, Bool.not_true, Bool.not_false, f1, f2, f3, g1, g2, eq_int, beq_self_eq_true]
    · have f1 : dIs (.str s) .non M = .ok (.bl false) M := rfl
      have f2 : dIs (.str s) (.bl true) M = .ok (.bl false) M := rfl
      have f3 : dIs (.str s) (.bl false) M = .ok (.bl false) M := rfl
      have g1 : dIsi isi [.str s, .ty "int"] M = .ok (.bl false) M := isi_of rfl B.si
      have g2 : dIsi isi [.str s, .ty "str"] M = .ok (.bl true) M := isi_of rfl B.ss
      simp only [z_seq, z_seq_nx, z_seq_rt, z_seq_ex, z_seq_bk, z_seq_ct, z_if, z_if_t, z_if_f, z_if_x, z_set, z_set_ok, z_set_x, z_ret, z_ret_ok, z_ret_x, z_retN, z_do, z_do_ok, z_do_x, z_nil, z_raise0, z_raise, z_raise_ok, z_toR_rt, z_toR_nx, z_toR_ex, z_c, z_var, z_var_ok, z_un, z_un_ok, z_un_x, z_bin, z_bin_ok, z_bin_x, z_anil, z_cons, z_cons1, z_cons1x, z_cons2, z_cons2x, z_args, z_args_ok, z_args_x, z_tup, z_tup_ok, z_fro, z_fro_ok, z_lst, z_lst_ok, z_call, z_stat, z_call_ok, z_callk, z_callk1, z_callk2, z_mkF, z_mkF_ok, z_own1, z_own1_ok, z_prop, z_own2, z_own2_ok, z_val, z_val_ok, z_val_x, z_and, z_and_t, z_and_f, z_or, z_or_t, z_or_f, z_not, z_not_ok, z_yes, z_eand, z_eand_t, z_eand_f, z_eor, z_eor_t, z_eor_f, z_enot, z_enot_ok, z_eif, z_eif_t, z_eif_f, z_for, z_for_v, z_iseq, z_iseq_t, z_iseq_f, z_iseq_r, z_rng, z_rng_ok, z_env0, z_try, z_try_nx, z_try_rt, z_try0, z_try0_nx, z_try0_rt, z_for_l, z_fv0, z_fv_nx, z_fv_ct, z_fv_rt, z_lc, z_lc_v, z_step, z_step_ok, z_istr, z_istr_ok, z_env0, List.map_cons, List.map_nil, List.replicate, List.append_nil, Nat.reduceSub, List.cons_append, List.nil_append, List.length_cons, List.length_nil, Nat.reduceAdd, Nat.reduceLeDiff, List.getElem?_cons_zero, List.getElem?_cons_succ, List.set_cons_zero, List.set_cons_succ, Bool.not_true, Bool.not_false, f1, f2, f3, g1, g2, eq_str hs hs, beq_self_eq_true]
    · obtain ⟨f1, f2, f3⟩ := hy.is
      have hlx := hx.len
      have hly := hy.len
      have hn : (((xs.length : Int) == (ys.length : Int))) = true := by rw [hl]; simp
      have tail : alikeT (alikeM isi k) [some x, some y, none] M = .rt (.bl true) M := by
        rw [alikeT]
        obtain ⟨e', M', e1, a2, rfl, rfl⟩ := loop_inv (body := alikeL (alikeM isi k)) (tg := tgName 2) (I := fun _ e M' => ∃ a2, e = [some x, some y, a2] ∧ M = M') (rangeD 0 ys.length) 0 [some x, some y, none] M ⟨none, rfl, rfl⟩ (by
          rintro j hj e M' ⟨a2, rfl, rfl⟩
          rw [rangeD_len] at hj
          have hp : (rangeD 0 ys.length)[j]'(by rw [rangeD_len]; exact hj) = .int (j : Nat) := by
            unfold rangeD; simp
          have hj' : j < xs.length := by omega
          have ax := hx.ix (List.getElem?_eq_getElem hj')
          have ay := hy.ix (List.getElem?_eq_getElem hj)
          have hsame := alike_same B k _ _ (hs j _ _ (List.getElem?_eq_getElem hj') (List.getElem?_eq_getElem hj))
          refine ⟨[some x, some y, some (.int (j : Nat))], [some x, some y, some (.int (j : Nat))], M, ?_, ?_, some (.int (j : Nat)), rfl, rfl⟩
          · rw [hp]; rfl
          · rw [alikeL]
            simp only [z_seq, z_seq_nx, z_seq_rt, z_seq_ex, z_seq_bk, z_seq_ct, z_if, z_if_t, z_if_f, z_if_x, z_set, z_set_ok, z_set_x, z_ret, z_ret_ok, z_ret_x, z_retN, z_do, z_do_ok, z_do_x, z_nil, z_raise0, z_raise, z_raise_ok, z_toR_rt, z_toR_nx, z_toR_ex, z_c, z_var, z_var_ok, z_un, z_un_ok, z_un_x, z_bin, z_bin_ok, z_bin_x, z_anil, z_cons, z_cons1, z_cons1x, z_cons2, z_cons2x, z_args, z_args_ok, z_args_x, z_tup, z_tup_ok, z_fro, z_fro_ok, z_lst, z_lst_ok, z_call, z_stat, z_call_ok, z_callk, z_callk1, z_callk2, z_mkF, z_mkF_ok, z_own1, z_own1_ok, z_prop, z_own2, z_own2_ok, z_val, z_val_ok, z_val_x, z_and, z_and_t, z_and_f, z_or, z_or_t, z_or_f, z_not, z_not_ok, z_yes, z_eand, z_eand_t, z_eand_f, z_eor, z_eor_t, z_eor_f, z_enot, z_enot_ok, z_eif, z_eif_t, z_eif_f, z_for, z_for_v, z_iseq, z_iseq_t, z_iseq_f, z_iseq_r, z_rng, z_rng_ok, z_env0, z_try, z_try_nx, z_try_rt, z_try0, z_try0_nx, z_try0_rt, z_for_l, z_fv0, z_fv_nx, z_fv_ct, z_fv_rt, z_lc, z_lc_v, z_step, z_step_ok, z_istr, z_istr_ok, z_env0, List.map_cons, List.map_nil, List.replicate, List.append_nil, Nat.reduceSub, List.cons_append, List.nil_append, List.length_cons, List.length_nil, Nat.reduceAdd, Nat.reduceLeDiff, List.getElem?_cons_zero, List.getElem?_cons_succ, List.set_cons_zero, List.set_cons_succ, Bool.not_true, Bool.not_false, ax, ay, hsame])
        have hr : qRng (.ok (.int ys.length) M) = .ok (.vals (rangeD 0 ys.length)) M := z_rng_ok (by omega) (by omega)
        simp only [z_seq, z_seq_nx, z_seq_rt, z_seq_ex, z_seq_bk, z_seq_ct, z_if, z_if_t, z_if_f, z_if_x, z_set, z_set_ok, z_set_x, z_ret, z_ret_ok, z_ret_x, z_retN, z_do, z_do_ok, z_do_x, z_nil, z_raise0, z_raise, z_raise_ok, z_toR_rt, z_toR_nx, z_toR_ex, z_c, z_var, z_var_ok, z_un, z_un_ok, z_un_x, z_bin, z_bin_ok, z_bin_x, z_anil, z_cons, z_cons1, z_cons1x, z_cons2, z_cons2x, z_args, z_args_ok, z_args_x, z_tup, z_tup_ok, z_fro, z_fro_ok, z_lst, z_lst_ok, z_call, z_stat, z_call_ok, z_callk, z_callk1, z_callk2, z_mkF, z_mkF_ok, z_own1, z_own1_ok, z_prop, z_own2, z_own2_ok, z_val, z_val_ok, z_val_x, z_and, z_and_t, z_and_f, z_or, z_or_t, z_or_f, z_not, z_not_ok, z_yes, z_eand, z_eand_t, z_eand_f, z_eor, z_eor_t, z_eor_f, z_enot, z_enot_ok, z_eif, z_eif_t, z_eif_f, z_for, z_for_v, z_iseq, z_iseq_t, z_iseq_f, z_iseq_r, z_rng, z_rng_ok, z_env0, z_try, z_try_nx, z_try_rt, z_try0, z_try0_nx, z_try0_rt, z_for_l, z_fv0, z_fv_nx, z_fv_ct, z_fv_rt, z_lc, z_lc_v, z_step, z_step_ok, z_istr, z_istr_ok, z_env0, List.map_cons, List.map_nil, List.replicate, List.append_nil, Nat.reduceSub, List.cons_append, List.nil_append, List.length_cons, List.length_nil, Nat.reduceAdd, Nat.reduceLeDiff, List.getElem?_cons_zero, List.getElem?_cons_succ, List.set_cons_zero, List.set_cons_succ, Bool.not_true, Bool.not_false, hly, hr, e1]
      have tx := hx.tag
      have ty := hy.tag
      have ht : t = "tuple" ∨ t = "list" := by rcases hx with ⟨h, _⟩ | ⟨h, _⟩ <;> simp [h]
      rcases ht with rfl | rfl
      · have g1 : dIsi isi [y, .ty "int"] M = .ok (.bl false) M := isi_of ty B.ti
        have g2 : dIsi isi [y, .ty "str"] M = .ok (.bl false) M := isi_of ty B.ts
        have g3 : dIsi isi [y, .ty "tuple"] M = .ok (.bl true) M := isi_of ty B.tt
        have g4 : dIsi isi [x, .ty "tuple"] M = .ok (.bl true) M := isi_of tx B.tt
        simp only [z_seq, z_seq_nx, z_seq_rt, z_seq_ex, z_seq_bk, z_seq_ct, z_if, z_if_t, z_if_f, z_if_x, z_set, z_set_ok, z_set_x, z_ret, z_ret_ok, z_ret_x, z_retN, z_do, z_do_ok, z_do_x, z_nil, z_raise0, z_raise, z_raise_ok, z_toR_rt, z_toR_nx, z_toR_ex, z_c, z_var, z_var_ok, z_un, z_un_ok, z_un_x, z_bin, z_bin_ok, z_bin_x, z_anil, z_cons, z_cons1, z_cons1x, z_cons2, z_cons2x, z_args, z_args_ok, z_args_x, z_tup, z_tup_ok, z_fro, z_fro_ok, z_lst, z_lst_ok, z_call, z_stat, z_call_ok, z_callk, z_callk1, z_callk2, z_mkF, z_mkF_ok, z_own1, z_own1_ok, z_prop, z_own2, z_own2_ok, z_val, z_val_ok, z_val_x, z_and, z_and_t, z_and_f, z_or, z_or_t, z_or_f, z_not, z_not_ok, z_yes, z_eand, z_eand_t, z_eand_f, z_eor, z_eor_t, z_eor_f, z_enot, z_enot_ok, z_eif, z_eif_t, z_eif_f, z_for, z_for_v, z_iseq, z_iseq_t, z_iseq_f, z_iseq_r, z_rng, z_rng_ok, z_env0, z_try, z_try_nx, z_try_rt, z_try0, z_try0_nx, z_try0_rt, z_for_l, z_fv0, z_fv_nx, z_fv_ct, z_fv_rt, z_lc, z_lc_v, z_step, z_step_ok, z_istr, z_istr_ok, z_env0, List.map_cons, List.map_nil, List.replicate, List.append_nil, Nat.reduceSub, List.cons_append, List.nil_append, List.length_cons, List.length_nil, Nat.reduceAdd, Nat.reduceLeDiff, List.getElem?_cons_zero, List.getElem?_cons_succ, List.set_cons_zero, List.set_cons_succ, Bool.not_true, Bool.not_false, f1, f2, f3, g1, g2, g3, g4, hlx, hly, ne_int, hn, tail]
      · have g1 : dIsi isi [y, .ty "int"] M = .ok (.bl false) M := isi_of ty B.li
        have g2 : dIsi isi [y, .ty "str"] M = .ok (.bl false) M := isi_of ty B.ls
        have g3 : dIsi isi [y, .ty "tuple"] M = .ok (.bl false) M := isi_of ty B.lt
        have g4 : dIsi isi [x, .ty "list"] M = .ok (.bl true) M := isi_of tx B.ll
        simp only [z_seq, z_seq_nx, z_seq_rt, z_seq_ex, z_seq_bk, z_seq_ct, z_if, z_if_t, z_if_f, z_if_x, z_set, z_set_ok, z_set_x, z_ret, z_ret_ok, z_ret_x, z_retN, z_do, z_do_ok, z_do_x, z_nil, z_raise0, z_raise, z_raise_ok, z_toR_rt, z_toR_nx, z_toR_ex, z_c, z_var, z_var_ok, z_un, z_un_ok, z_un_x, z_bin, z_bin_ok, z_bin_x, z_anil, z_cons, z_cons1, z_cons1x, z_cons2, z_cons2x, z_args, z_args_ok, z_args_x, z_tup, z_tup_ok, z_fro, z_fro_ok, z_lst, z_lst_ok, z_call, z_stat, z_call_ok, z_callk, z_callk1, z_callk2, z_mkF, z_mkF_ok, z_own1, z_own1_ok, z_prop, z_own2, z_own2_ok, z_val, z_val_ok, z_val_x, z_and, z_and_t, z_and_f, z_or, z_or_t, z_or_f, z_not, z_not_ok, z_yes, z_eand, z_eand_t, z_eand_f, z_eor, z_eor_t, z_eor_f, z_enot, z_enot_ok, z_eif, z_eif_t, z_eif_f, z_for, z_for_v, z_iseq, z_iseq_t, z_iseq_f, z_iseq_r, z_rng, z_rng_ok, z_env0, z_try, z_try_nx, z_try_rt, z_try0, z_try0_nx, z_try0_rt, z_for_l, z_fv0, z_fv_nx, z_fv_ct, z_fv_rt, z_lc, z_lc_v, z_step, z_step_ok, z_istr, z_istr_ok, z_env0, List.map_cons, List.map_nil, List.replicate, List.append_nil, Nat.reduceSub, List.cons_append, List.nil_append, List.length_cons, List.length_nil, Nat.reduceAdd, Nat.reduceLeDiff, List.getElem?_cons_zero, List.getElem?_cons_succ, List.set_cons_zero, List.set_cons_succ, Bool.not_true, Bool.not_false, f1, f2, f3, g1, g2, g3, g4, hlx, hly, ne_int, hn, tail]
end T2
namespace T2
open PySem L2

/-! ### one of a menu -/
def pickM : List D → MH → Res D := fnB 2 (sRet (eBin dIxA (eVar 1) (eCall 2 drawM (eCons (eVar 0) (eCons (eArgs dLen (eCons (eVar 1) (eNil))) (eNil))))))
theorem pick_run {s : Bx} {R : MH} {t : String} {l : D} {ds : List D} (hs : BxOk s) (hl : ∀ s : Bx, SeqOf (s.obj :: R) t l ds) (h0 : 0 < ds.length) (h1 : ds.length < 1000) : ∃ d s', pickM [.ref 0, l] (s.obj :: R) = .ok d (s'.obj :: R) ∧ d ∈ ds ∧ BxOk s' := by
  obtain ⟨r, s', e, a, b, h⟩ := draw_at (R := R) (n := ds.length) hs (by omega) (by omega)
  have hr : r.toNat < ds.length := by omega
  have hx := (hl s').ix (List.getElem?_eq_getElem hr)
  rw [show ((r.toNat : Nat) : Int) = r by omega] at hx
  refine ⟨ds[r.toNat], s', ?_, List.getElem_mem hr, h⟩
  have hlen := (hl s).len
  rw [pickM, z_fn]
  simp only [z_seq, z_seq_nx, z_seq_rt, z_seq_ex, z_seq_bk, z_seq_ct, z_if, z_if_t, z_if_f, z_if_x, z_set, z_set_ok, z_set_x, z_ret, z_ret_ok, z_ret_x, z_retN, z_do, z_do_ok, z_do_x, z_nil, z_raise0, z_raise, z_raise_ok, z_toR_rt, z_toR_nx, z_toR_ex, z_c, z_var, z_var_ok, z_un, z_un_ok, z_un_x, z_bin, z_bin_ok, z_bin_x, z_anil, z_cons, z_cons1, z_cons1x, z_cons2, z_cons2x, z_args, z_args_ok, z_args_x, z_tup, z_tup_ok, z_fro, z_fro_ok, z_lst, z_lst_ok, z_call, z_stat, z_call_ok, z_callk, z_callk1, z_callk2, z_mkF, z_mkF_ok, z_own1, z_own1_ok, z_prop, z_own2, z_own2_ok, z_val, z_val_ok, z_val_x, z_and, z_and_t, z_and_f, z_or, z_or_t, z_or_f, z_not, z_not_ok, z_yes, z_eand, z_eand_t, z_eand_f, z_eor, z_eor_t, z_eor_f, z_enot, z_enot_ok, z_eif, z_eif_t, z_eif_f, z_for, z_for_v, z_iseq, z_iseq_t, z_iseq_f, z_iseq_r, z_rng, z_rng_ok, z_env0, z_try, z_try_nx, z_try_rt, z_try0, z_try0_nx, z_try0_rt, z_for_l, z_fv0, z_fv_nx, z_fv_ct, z_fv_rt, z_lc, z_lc_v, z_step, z_step_ok, z_istr, z_istr_ok, z_env0, List.map_cons, List.map_nil, List.replicate, List.append_nil, Nat.reduceSub, List.cons_append, List.nil_append, List.length_cons, List.length_nil, Nat.reduceAdd, Nat.reduceLeDiff, List.getElem?_cons_zero, List.getElem?_cons_succ, List.set_cons_zero, List.set_cons_succ, Bool.not_true, Bool.not_false, hlen, e, hx]
theorem fro_seq {R : MH} {ds : List D} (s : Bx) : SeqOf (s.obj :: R) "list" (.fro ds) ds := .inr ⟨rfl, rfl⟩
theorem ref_seq {R : MH} {n : Nat} {ds : List D} (h : R[n]? = some (.lst ds)) (s : Bx) : SeqOf (s.obj :: R) "list" (.ref (n + 1)) ds := .inr ⟨rfl, by unfold listItems; dsimp only; rw [List.getElem?_cons_succ, h]⟩

/-! ### names -/
def Low (x : Str) : Prop := ∀ c ∈ x.cps.toList, 97 ≤ c ∧ c ≤ 122
theorem Low.ok {x : Str} (h : Low x) : PyData.strOk x = true := by
  unfold PyData.strOk
  rw [Array.all_eq_true]
  intro i hi
  have := h x.cps[i] (by simp)
  simp; omega
theorem str_app (a b : Str) : (a ++ b).cps = a.cps ++ b.cps := rfl
theorem app_len (a b : Str) : (a ++ b).length = a.length + b.length := by
  show (a.cps ++ b.cps).size = _
  rw [Array.size_append]; rfl
theorem Low.app {a b : Str} (ha : Low a) (hb : Low b) : Low (a ++ b) := by
  intro c hc
  rw [str_app, Array.toList_append, List.mem_append] at hc
  rcases hc with hc | hc
  · exact ha c hc
  · exact hb c hc
theorem low_one {c : Nat} (h : 97 ≤ c ∧ c ≤ 122) : Low ⟨#[c]⟩ := by
  intro d hd
  have : d = c := by simpa using hd
  rw [this]; exact h
theorem low_nil : Low "" := by
  intro c hc
  have : ("" : Str).cps.toList = [] := by decide +kernel
  rw [this] at hc; simp at hc
theorem add_str {a b : Str} {M : MH} (h : a.length + b.length ≤ 1000) : dAdd (.str a) (.str b) M = .ok (.str (a ++ b)) M := by
  unfold dAdd
  dsimp only
  rw [if_pos (by unfold big; omega)]
theorem abc_list : ("abcdefghijklmnopqrstuvwxyz" : Str).cps.toList = (List.range 26).map (· + 97) := by decide +kernel
theorem ix_abc {r : Int} {M : MH} (h0 : 0 ≤ r) (h1 : r < 26) : ∃ c, dIxA (.str ("abcdefghijklmnopqrstuvwxyz" : Str)) (.int r) M = .ok (.str ⟨#[c]⟩) M ∧ 97 ≤ c ∧ c ≤ 122 := by
  have hn : ("abcdefghijklmnopqrstuvwxyz" : Str).cps.toList.length = 26 := by decide +kernel
  obtain ⟨c, hc, hm⟩ := atI_of (l := ("abcdefghijklmnopqrstuvwxyz" : Str).cps.toList) h0 (by omega)
  rw [abc_list] at hm
  obtain ⟨k, hk, rfl⟩ := List.mem_map.mp hm
  have hk := List.mem_range.mp hk
  refine ⟨k + 97, ?_, by omega, by omega⟩
  unfold dIxA dIx
  dsimp only
  rw [if_pos (by decide +kernel), hc]
def namesL1 : SM := sSet 5 (eBin dAdd (eVar 5) (eBin dIxA (eVar 2) (eCall 2 drawM (eCons (eVar 0) (eCons (eC (.int 26)) (eNil))))))
def namesT : BM := bVal (eBin dNotInA (eBin dAdd (eVar 5) (eVar 8)) (eBin (dCat mkF) (eVar 3) (eFro (eCons (eC (.str "on")) (eCons (eC (.str "set")) (eCons (eC (.str "new")) (eNil)))))))
def namesL3 : SM := sDo (eApp (eVar 3) (eBin dAdd (eVar 5) (eBin dIxA (eVar 7) (eCall 2 drawM (eCons (eVar 0) (eCons (eArgs dLen (eCons (eVar 7) (eNil))) (eNil)))))))
def namesL2 : SM :=
    sSeq (sSet 5 (eC (.str "")))
    (sSeq (sForI (iRange1 (eCall 2 drawM (eCons (eVar 0) (eCons (eC (.int 8)) (eNil))))) (tgName 6) namesL1)
    (sSeq (sSet 7 (eLc (iStrD (eVar 2)) (tgName 8) namesT (eVar 8) [8]))
    namesL3))
def namesM : List D → MH → Res D := fnB 9 (
    sSeq (sSet 2 (eC (.str "abcdefghijklmnopqrstuvwxyz")))
    (sSeq (sSet 3 (eLst (eNil)))
    (sSeq (sForI (iRange1 (eVar 1)) (tgName 4) namesL2)
    (sRet (eVar 3)))))
/-- one sign less than the list -/
theorem filter_ne {α : Type} [DecidableEq α] {l : List α} (h : l.Nodup) (a : α) : l.length ≤ (l.filter fun x => decide (x ≠ a)).length + 1 := by
  induction l with
  | nil => simp
  | cons x l ih =>
    rw [List.nodup_cons] at h
    rw [List.filter_cons]
    by_cases hx : x = a
    · subst hx
      have : l.filter (fun y => decide (y ≠ x)) = l := List.filter_eq_self.mpr fun y hy => by
        simp only [decide_eq_true_eq]
        rintro rfl
        exact h.1 hy
      rw [if_neg (by simp), this]
      simp
    · simp only [ne_eq, hx, not_false_eq_true, decide_true, if_true, List.length_cons]
      have := ih h.2
      simp only [ne_eq] at this
      omega
theorem filter_out {α β : Type} [DecidableEq α] [DecidableEq β] {f : α → β} (hf : ∀ a b, f a = f b → a = b) {l : List α} (h : l.Nodup) : ∀ E : List β, l.length ≤ (l.filter fun x => decide (f x ∉ E)).length + E.length
  | [] => by
    rw [List.filter_eq_self.mpr (by simp)]
    simp
  | e :: E => by
    have ih := filter_out hf h E
    have nd : (l.filter fun x => decide (f x ∉ E)).Nodup := h.filter _
    by_cases hx : ∃ a ∈ l, f a = e
    · obtain ⟨a, _, rfl⟩ := hx
      have e1 := filter_ne nd a
      have e2 : (l.filter fun x => decide (f x ∉ E)).filter (fun x => decide (x ≠ a)) = l.filter fun x => decide (f x ∉ f a :: E) := by
        rw [List.filter_filter]
        refine List.filter_congr fun x _ => ?_
        rw [Bool.eq_iff_iff]
        simp only [Bool.and_eq_true, decide_eq_true_eq, List.mem_cons, not_or]
        constructor
        · rintro ⟨h1, h2⟩; exact ⟨fun z => h1 (hf _ _ z), h2⟩
        · rintro ⟨h1, h2⟩; exact ⟨fun z => h1 (by rw [z]), h2⟩
      rw [e2] at e1
      simp only [List.length_cons]
      omega
    · have e2 : (l.filter fun x => decide (f x ∉ e :: E)) = l.filter fun x => decide (f x ∉ E) := List.filter_congr fun x hxl => by
        rw [Bool.eq_iff_iff]
        simp only [decide_eq_true_eq, List.mem_cons, not_or]
        exact ⟨fun z => z.2, fun z => ⟨fun q => hx ⟨x, hxl, q⟩, z⟩⟩
      rw [e2]
      simp only [List.length_cons]
      omega

/-- the stem of a name -/
theorem stem_run {R : MH} {a1 a3 a4 a7 a8 : Option D} : ∀ (xs : List D) (s : Bx) (z : Str) (a6 : Option D), BxOk s → Low z → z.length + xs.length ≤ 20 →
    ∃ s' z' a6', forV (tgName 6) namesL1 xs [some (.ref 0), a1, some (.str ("abcdefghijklmnopqrstuvwxyz" : Str)), a3, a4, some (.str z), a6, a7, a8] (s.obj :: R) = .nx [some (.ref 0), a1, some (.str ("abcdefghijklmnopqrstuvwxyz" : Str)), a3, a4, some (.str z'), a6', a7, a8] (s'.obj :: R) ∧ BxOk s' ∧ Low z' ∧ z'.length = z.length + xs.length
  | [], s, z, a6, hs, hz, _ => ⟨s, z, a6, rfl, hs, hz, rfl⟩
  | x :: xs, s, z, a6, hs, hz, hl => by
    obtain ⟨r, s1, e1, r0, r1, h1⟩ := draw_at (R := R) (n := 26) hs (by decide) (by decide)
    obtain ⟨c, ec, hc⟩ := ix_abc (M := s1.obj :: R) r0 r1
    have one : (⟨#[c]⟩ : Str).length = 1 := rfl
    have ea := add_str (a := z) (b := ⟨#[c]⟩) (M := s1.obj :: R) (by simp at hl; omega)
    obtain ⟨s2, z2, a62, e2, h2, hz2, hl2⟩ := stem_run (R := R) (a1 := a1) (a3 := a3) (a4 := a4) (a7 := a7) (a8 := a8) xs s1 (z ++ ⟨#[c]⟩) (some x) h1 (hz.app (low_one hc)) (by rw [app_len]; simp at hl ⊢; omega)
    refine ⟨s2, z2, a62, ?_, h2, hz2, by rw [hl2, app_len]; simp; omega⟩
    rw [z_fv, namesL1]
    rw [namesL1] at e2
    simp only [z_seq, z_seq_nx, z_seq_rt, z_seq_ex, z_seq_bk, z_seq_ct, z_if, z_if_t, z_if_f, z_if_x, z_set, z_set_ok, z_set_x, z_ret, z_ret_ok, z_ret_x, z_retN, z_do, z_do_ok, z_do_x, z_nil, z_raise0, z_raise, z_raise_ok, z_toR_rt, z_toR_nx, z_toR_ex, z_c, z_var, z_var_ok, z_un, z_un_ok, z_un_x, z_bin, z_bin_ok, z_bin_x, z_anil, z_cons, z_cons1, z_cons1x, z_cons2, z_cons2x, z_args, z_args_ok, z_args_x, z_tup, z_tup_ok, z_fro, z_fro_ok, z_lst, z_lst_ok, z_call, z_stat, z_call_ok, z_callk, z_callk1, z_callk2, z_mkF, z_mkF_ok, z_own1, z_own1_ok, z_prop, z_own2, z_own2_ok, z_val, z_val_ok, z_val_x, z_and, z_and_t, z_and_f, z_or, z_or_t, z_or_f, z_not, z_not_ok, z_yes, z_eand, z_eand_t, z_eand_f, z_eor, z_eor_t, z_eor_f, z_enot, z_enot_ok, z_eif, z_eif_t, z_eif_f, z_for, z_for_v, z_iseq, z_iseq_t, z_iseq_f, z_iseq_r, z_rng, z_rng_ok, z_env0, z_try, z_try_nx, z_try_rt, z_try0, z_try0_nx, z_try0_rt, z_for_l, z_fv0, z_fv_nx, z_fv_ct, z_fv_rt, z_lc, z_lc_v, z_step, z_step_ok, z_istr, z_istr_ok, z_env0, List.map_cons, List.map_nil, List.replicate, List.append_nil, Nat.reduceSub, List.cons_append, List.nil_append, List.length_cons, List.length_nil, Nat.reduceAdd, Nat.reduceLeDiff, List.getElem?_cons_zero, List.getElem?_cons_succ, List.set_cons_zero, List.set_cons_succ, Bool.not_true, Bool.not_false, e1, ec, ea, e2]

/-! ### a comprehension that chooses -/
theorem lc_filter {tg : TgM} {tt : BM} {m : EM} {e : Env2} {M0 : MH} {p : D → Bool} {g : D → D} : ∀ (xs : List D) (step : ∀ x ∈ xs, ∀ acc, lcStep tg tt m e x (M0 ++ [.lst acc]) = .ok (if p x = true then some (g x) else none) (M0 ++ [.lst acc])) (acc : List D), acc.length + xs.length ≤ 1000 →
    lcV tg tt m e M0.length xs (M0 ++ [.lst acc]) = .ok (.ref M0.length) (M0 ++ [.lst (acc ++ (xs.filter p).map g)])
  | [], _, acc, _ => by simp [lcV]
  | x :: xs, step, acc, hz => by
    have h1 := step x (by simp) acc
    have hg : (M0 ++ [MO.lst acc])[M0.length]? = some (.lst acc) := by simp
    unfold lcV
    rw [h1, Res.bind_ok]
    by_cases hp : p x = true
    · rw [if_pos hp]
      have hpush : pushAt M0.length (some (g x)) (M0 ++ [.lst acc]) = some (M0 ++ [.lst (acc ++ [g x])]) := by
        unfold pushAt
        dsimp only
        rw [hg]
        dsimp only
        rw [if_pos (by simp at hz; unfold big; omega)]
        congr 1
        simp
      rw [hpush]
      dsimp only
      rw [lc_filter xs (fun y hy => step y (by simp [hy])) (acc ++ [g x]) (by simp at hz ⊢; omega), List.filter_cons, if_pos hp, List.map_cons, List.append_assoc]
      rfl
    · rw [if_neg hp]
      dsimp only [pushAt]
      rw [lc_filter xs (fun y hy => step y (by simp [hy])) acc (by simp at hz ⊢; omega), List.filter_cons, if_neg hp]
theorem in_strs (z : Str) (zs : List Str) : memD (.str z) (zs.map D.str) = decide (z ∈ zs) := by
  unfold memD inV
  rw [List.map_map, List.any_map, Bool.eq_iff_iff]
  simp only [List.any_eq_true, decide_eq_true_eq, Function.comp_apply, vOf, eqV, beq_iff_eq]
  exact ⟨fun ⟨a, h, e⟩ => e ▸ h, fun h => ⟨z, h, rfl⟩⟩
theorem flat_strs (zs : List Str) : (zs.map D.str).all flatD = true := by
  rw [List.all_eq_true]
  intro d hd
  obtain ⟨z, _, rfl⟩ := List.mem_map.mp hd
  rfl
theorem notin_strs {z : Str} {zs : List Str} {M : MH} : dNotInA (.str z) (.fro (zs.map D.str)) M = .ok (.bl (!decide (z ∈ zs))) M := by
  unfold dNotInA inResA inRes items
  dsimp only
  rw [if_pos ⟨rfl, flat_strs zs⟩, in_strs]
/-- the signs that are free behind a stem -/
def freeOf (z : Str) (zs : List Str) : List D := (signsOf ("abcdefghijklmnopqrstuvwxyz" : Str)).filter fun x => match x with
  | .str c => !decide (z ++ c ∈ zs ++ [("on" : Str), "set", "new"])
  | _ => false
theorem free_some {z : Str} {zs : List Str} (h : zs.length ≤ 20) : 0 < (freeOf z zs).length := by
  have e : freeOf z zs = (("abcdefghijklmnopqrstuvwxyz" : Str).cps.toList.filter fun c => decide (z ++ (⟨#[c]⟩ : Str) ∉ zs ++ [("on" : Str), "set", "new"])).map fun c => D.str ⟨#[c]⟩ := by
    unfold freeOf signsOf
    rw [List.filter_map]
    congr 1
    refine List.filter_congr fun c _ => ?_
    simp
  rw [e, List.length_map]
  have hf : ∀ a b : Nat, z ++ (⟨#[a]⟩ : Str) = z ++ (⟨#[b]⟩ : Str) → a = b := by
    intro a b hab
    have h1 : z.cps ++ #[a] = z.cps ++ #[b] := congrArg Str.cps hab
    have h2 := congrArg Array.toList h1
    rw [Array.toList_append, Array.toList_append] at h2
    have h3 := List.append_cancel_left h2
    simpa using h3
  have nd : ("abcdefghijklmnopqrstuvwxyz" : Str).cps.toList.Nodup := by rw [abc_list]; decide
  have := filter_out hf nd (zs ++ [("on" : Str), "set", "new"])
  have hl : ("abcdefghijklmnopqrstuvwxyz" : Str).cps.toList.length = 26 := by decide +kernel
  simp only [List.length_append, List.length_cons, List.length_nil] at this
  omega
theorem free_mem {z : Str} {zs : List Str} {d : D} (h : d ∈ freeOf z zs) : ∃ c, d = .str ⟨#[c]⟩ ∧ 97 ≤ c ∧ c ≤ 122 := by
  have := (List.mem_filter.mp h).1
  unfold signsOf at this
  obtain ⟨c, hc, rfl⟩ := List.mem_map.mp this
  rw [abc_list] at hc
  obtain ⟨k, hk, rfl⟩ := List.mem_map.mp hc
  have := List.mem_range.mp hk
  exact ⟨_, rfl, by omega, by omega⟩
theorem free_run {M : MH} {n : Nat} {z : Str} {zs : List Str} {a1 a4 a6 a7 : Option D} (hn : M[n]? = some (.lst (zs.map D.str))) (hz : z.length ≤ 20) (hs : zs.length ≤ 20) :
    eLc (iStrD (eVar 2)) (tgName 8) namesT (eVar 8) [8] [some (.ref 0), a1, some (.str ("abcdefghijklmnopqrstuvwxyz" : Str)), some (.ref n), a4, some (.str z), a6, a7, none] M = .ok (.ref M.length) (M ++ [.lst (freeOf z zs)]) := by
  have hlt : n < M.length := (List.getElem?_eq_some_iff.mp hn).1
  have main := lc_filter (tg := tgName 8) (tt := namesT) (m := eVar 8) (e := [some (.ref 0), a1, some (.str ("abcdefghijklmnopqrstuvwxyz" : Str)), some (.ref n), a4, some (.str z), a6, a7, none]) (M0 := M) (p := fun x => match x with
      | .str c => !decide (z ++ c ∈ zs ++ [("on" : Str), "set", "new"])
      | _ => false) (g := fun x => x) (signsOf ("abcdefghijklmnopqrstuvwxyz" : Str)) (by
    intro x hx acc
    unfold signsOf at hx
    obtain ⟨c, _, rfl⟩ := List.mem_map.mp hx
    have one : (⟨#[c]⟩ : Str).length = 1 := rfl
    have hli : listItems (M ++ [.lst acc]) (.ref n) = some (zs.map D.str) := by
      unfold listItems
      dsimp only
      rw [List.getElem?_append_left hlt, hn]
    have ea := add_str (a := z) (b := ⟨#[c]⟩) (M := M ++ [.lst acc]) (by omega)
    have ec : dCat mkF (.ref n) (.fro [.str "on", .str "set", .str "new"]) (M ++ [.lst acc]) = .ok (.fro ((zs ++ [("on" : Str), "set", "new"]).map D.str)) (M ++ [.lst acc]) := by
      unfold dCat
      rw [hli]
      dsimp only [listItems]
      rw [if_pos (by simp; unfold big; omega)]
      simp [mkF]
    have et : namesT [some (.ref 0), a1, some (.str ("abcdefghijklmnopqrstuvwxyz" : Str)), some (.ref n), a4, some (.str z), a6, a7, some (.str ⟨#[c]⟩)] (M ++ [.lst acc]) = .ok (!decide (z ++ (⟨#[c]⟩ : Str) ∈ zs ++ [("on" : Str), "set", "new"])) (M ++ [.lst acc]) := by
      rw [namesT]
      simp only [z_seq, z_seq_nx, z_seq_rt, z_seq_ex, z_seq_bk, z_seq_ct, z_if, z_if_t, z_if_f, z_if_x, z_set, z_set_ok, z_set_x, z_ret, z_ret_ok, z_ret_x, z_retN, z_do, z_do_ok, z_do_x, z_nil, z_raise0, z_raise, z_raise_ok, z_toR_rt, z_toR_nx, z_toR_ex, z_c, z_var, z_var_ok, z_un, z_un_ok, z_un_x, z_bin, z_bin_ok, z_bin_x, z_anil, z_cons, z_cons1, z_cons1x, z_cons2, z_cons2x, z_args, z_args_ok, z_args_x, z_tup, z_tup_ok, z_fro, z_fro_ok, z_lst, z_lst_ok, z_call, z_stat, z_call_ok, z_callk, z_callk1, z_callk2, z_mkF, z_mkF_ok, z_own1, z_own1_ok, z_prop, z_own2, z_own2_ok, z_val, z_val_ok, z_val_x, z_and, z_and_t, z_and_f, z_or, z_or_t, z_or_f, z_not, z_not_ok, z_yes, z_eand, z_eand_t, z_eand_f, z_eor, z_eor_t, z_eor_f, z_enot, z_enot_ok, z_eif, z_eif_t, z_eif_f, z_for, z_for_v, z_iseq, z_iseq_t, z_iseq_f, z_iseq_r, z_rng, z_rng_ok, z_env0, z_try, z_try_nx, z_try_rt, z_try0, z_try0_nx, z_try0_rt, z_for_l, z_fv0, z_fv_nx, z_fv_ct, z_fv_rt, z_lc, z_lc_v, z_step, z_step_ok, z_istr, z_istr_ok, z_env0, List.map_cons, List.map_nil, List.replicate, List.append_nil, Nat.reduceSub, List.cons_append, List.nil_append, List.length_cons, List.length_nil, Nat.reduceAdd, Nat.reduceLeDiff, List.getElem?_cons_zero, List.getElem?_cons_succ, List.set_cons_zero, List.set_cons_succ, Bool.not_true, Bool.not_false, ea, ec, notin_strs]
    unfold lcStep tgName
    dsimp only
    rw [show (List.set [some (D.ref 0), a1, some (.str ("abcdefghijklmnopqrstuvwxyz" : Str)), some (.ref n), a4, some (.str z), a6, a7, none] 8 (some (D.str ⟨#[c]⟩))) = [some (.ref 0), a1, some (.str ("abcdefghijklmnopqrstuvwxyz" : Str)), some (.ref n), a4, some (.str z), a6, a7, some (.str ⟨#[c]⟩)] from rfl, et]
    dsimp only [noX, Res.bind]
    by_cases hb : z ++ (⟨#[c]⟩ : Str) ∈ zs ++ [("on" : Str), "set", "new"]
    · simp only [hb, decide_true, Bool.not_true, Bool.false_eq_true, if_false]
    · simp only [hb, decide_false, Bool.not_false, if_true]
      rfl) [] (by rw [signs_len]; have : ("abcdefghijklmnopqrstuvwxyz" : Str).cps.size = 26 := by decide +kernel
                  simp [this])
  simp only [z_seq, z_seq_nx, z_seq_rt, z_seq_ex, z_seq_bk, z_seq_ct, z_if, z_if_t, z_if_f, z_if_x, z_set, z_set_ok, z_set_x, z_ret, z_ret_ok, z_ret_x, z_retN, z_do, z_do_ok, z_do_x, z_nil, z_raise0, z_raise, z_raise_ok, z_toR_rt, z_toR_nx, z_toR_ex, z_c, z_var, z_var_ok, z_un, z_un_ok, z_un_x, z_bin, z_bin_ok, z_bin_x, z_anil, z_cons, z_cons1, z_cons1x, z_cons2, z_cons2x, z_args, z_args_ok, z_args_x, z_tup, z_tup_ok, z_fro, z_fro_ok, z_lst, z_lst_ok, z_call, z_stat, z_call_ok, z_callk, z_callk1, z_callk2, z_mkF, z_mkF_ok, z_own1, z_own1_ok, z_prop, z_own2, z_own2_ok, z_val, z_val_ok, z_val_x, z_and, z_and_t, z_and_f, z_or, z_or_t, z_or_f, z_not, z_not_ok, z_yes, z_eand, z_eand_t, z_eand_f, z_eor, z_eor_t, z_eor_f, z_enot, z_enot_ok, z_eif, z_eif_t, z_eif_f, z_for, z_for_v, z_iseq, z_iseq_t, z_iseq_f, z_iseq_r, z_rng, z_rng_ok, z_env0, z_try, z_try_nx, z_try_rt, z_try0, z_try0_nx, z_try0_rt, z_for_l, z_fv0, z_fv_nx, z_fv_ct, z_fv_rt, z_lc, z_lc_v, z_step, z_step_ok, z_istr, z_istr_ok, z_env0, List.map_cons, List.map_nil, List.replicate, List.append_nil, Nat.reduceSub, List.cons_append, List.nil_append, List.length_cons, List.length_nil, Nat.reduceAdd, Nat.reduceLeDiff, List.getElem?_cons_zero, List.getElem?_cons_succ, List.set_cons_zero, List.set_cons_succ, Bool.not_true, Bool.not_false, wipe2]
  rw [main]
  simp [freeOf]

end T2
namespace T2
open PySem L2
/-- what stood stands -/
def Ext (R T : MH) : Prop := ∀ (i : Nat) (o : MO), R[i]? = some o → T[i]? = some o
theorem Ext.refl {R : MH} : Ext R R := fun _ _ h => h
theorem Ext.trans {R S T : MH} (a : Ext R S) (b : Ext S T) : Ext R T := fun i o h => b i o (a i o h)
theorem Ext.app {R G : MH} : Ext R (R ++ G) := fun i o h => by
  rw [List.getElem?_append_left (List.getElem?_eq_some_iff.mp h).1]; exact h
theorem Ext.set {R T : MH} (h : Ext R T) {p : Nat} (hp : R.length ≤ p) {o : MO} : Ext R (T.set p o) := fun i u hi => by
  have := (List.getElem?_eq_some_iff.mp hi).1
  rw [List.getElem?_set_ne (by omega)]; exact h i u hi
theorem Ext.len {R T : MH} (h : Ext R T) : R.length ≤ T.length := by
  rcases Nat.lt_or_ge T.length R.length with hl | hl
  · have := h T.length _ (List.getElem?_eq_getElem hl)
    have := (List.getElem?_eq_some_iff.mp this).1
    omega
  · exact hl
theorem app_run {e : Env2} {M M2 : MH} {n : Nat} {ds : List D} {y : D} {mo ma : EM} (h1 : mo e M = .ok (.ref n) M) (h2 : ∃ ds0, M[n]? = some (.lst ds0)) (h3 : ma e M = .ok y M2) (h4 : M2[n]? = some (.lst ds)) (h5 : ds.length < 1000) : eApp mo ma e M = .ok .non (M2.set n (MO.lst (ds ++ [y]))) := by
  obtain ⟨ds0, h2⟩ := h2
  unfold eApp
  rw [h1, Res.bind_ok]
  dsimp only
  rw [h2]
  dsimp only
  rw [h3, Res.bind_ok, h4]
  dsimp only
  rw [if_pos (by unfold big; omega)]
theorem nil_len : ("" : Str).length = 0 := by decide +kernel
def NmOk (z : Str) : Prop := Low z ∧ z.length ≤ 9
theorem free_le {z : Str} {zs : List Str} : (freeOf z zs).length ≤ 26 := by
  unfold freeOf
  refine Nat.le_trans (List.length_filter_le _ _) ?_
  rw [signs_len]
  decide +kernel
theorem cons_len {b : MO} {T : MH} : (b :: T).length = T.length + 1 := rfl
/-- the last part of a turn: a free sign is drawn, the name goes to the list -/
theorem last_run {s : Bx} {T : MH} {p : Nat} {z : Str} {zs : List Str} {a1 a4 a6 : Option D} (hs : BxOk s) (hT : T[p]? = some (MO.lst (zs.map D.str))) (hz : Low z) (hl : z.length ≤ 7) (hn : zs.length ≤ 10) :
    ∃ c s', 97 ≤ c ∧ c ≤ 122 ∧ BxOk s' ∧ namesL3 [some (.ref 0), a1, some (.str ("abcdefghijklmnopqrstuvwxyz" : Str)), some (.ref (p + 1)), a4, some (.str z), a6, some (.ref (T.length + 1)), none] (s.obj :: (T ++ [MO.lst (freeOf z zs)])) =
      .nx [some (.ref 0), a1, some (.str ("abcdefghijklmnopqrstuvwxyz" : Str)), some (.ref (p + 1)), a4, some (.str z), a6, some (.ref (T.length + 1)), none] (s'.obj :: (T ++ [MO.lst (freeOf z zs)]).set p (MO.lst (zs.map D.str ++ [D.str (z ++ ⟨#[c]⟩)]))) := by
  have hp : p < T.length := (List.getElem?_eq_some_iff.mp hT).1
  have hfr : 0 < (freeOf z zs).length := free_some (by omega)
  have hfl := free_le (z := z) (zs := zs)
  obtain ⟨q, s3, e4, q0, q1, h3⟩ := draw_at (R := T ++ [MO.lst (freeOf z zs)]) (n := (freeOf z zs).length) hs (by omega) (by omega)
  have hq : q.toNat < (freeOf z zs).length := by omega
  obtain ⟨c, hc, c1, c2⟩ := free_mem (List.getElem_mem hq)
  have hfM : ∀ s : Bx, SeqOf (s.obj :: (T ++ [MO.lst (freeOf z zs)])) "list" (.ref (T.length + 1)) (freeOf z zs) := fun s => ref_seq (by simp) s
  have e5 := (hfM s3).ix (List.getElem?_eq_getElem hq)
  rw [show ((q.toNat : Nat) : Int) = q by omega, hc] at e5
  have e6 := (hfM s).len
  have one : (⟨#[c]⟩ : Str).length = 1 := rfl
  have e7 := add_str (a := z) (b := ⟨#[c]⟩) (M := s3.obj :: (T ++ [MO.lst (freeOf z zs)])) (by omega)
  have hTp : ∀ s : Bx, (s.obj :: (T ++ [MO.lst (freeOf z zs)]))[p + 1]? = some (MO.lst (zs.map D.str)) := fun s => by
    rw [List.getElem?_cons_succ, List.getElem?_append_left hp]; exact hT
  refine ⟨c, s3, c1, c2, h3, ?_⟩
  rw [namesL3, z_do]
  have e8 := app_run (e := [some (.ref 0), a1, some (.str ("abcdefghijklmnopqrstuvwxyz" : Str)), some (.ref (p + 1)), a4, some (.str z), a6, some (.ref (T.length + 1)), none]) (M := s.obj :: (T ++ [MO.lst (freeOf z zs)])) (M2 := s3.obj :: (T ++ [MO.lst (freeOf z zs)])) (n := p + 1) (ds := zs.map D.str) (y := .str (z ++ ⟨#[c]⟩)) (mo := eVar 3) (ma := eBin dAdd (eVar 5) (eBin dIxA (eVar 7) (eCall 2 drawM (eCons (eVar 0) (eCons (eArgs dLen (eCons (eVar 7) (eNil))) (eNil)))))) rfl ⟨_, hTp s⟩ (by
    simp only [z_seq, z_seq_nx, z_seq_rt, z_seq_ex, z_seq_bk, z_seq_ct, z_if, z_if_t, z_if_f, z_if_x, z_set, z_set_ok, z_set_x, z_ret, z_ret_ok, z_ret_x, z_retN, z_do, z_do_ok, z_do_x, z_nil, z_raise0, z_raise, z_raise_ok, z_toR_rt, z_toR_nx, z_toR_ex, z_c, z_var, z_var_ok, z_un, z_un_ok, z_un_x, z_bin, z_bin_ok, z_bin_x, z_anil, z_cons, z_cons1, z_cons1x, z_cons2, z_cons2x, z_args, z_args_ok, z_args_x, z_tup, z_tup_ok, z_fro, z_fro_ok, z_lst, z_lst_ok, z_call, z_stat, z_call_ok, z_callk, z_callk1, z_callk2, z_mkF, z_mkF_ok, z_own1, z_own1_ok, z_prop, z_own2, z_own2_ok, z_val, z_val_ok, z_val_x, z_and, z_and_t, z_and_f, z_or, z_or_t, z_or_f, z_not, z_not_ok, z_yes, z_eand, z_eand_t, z_eand_f, z_eor, z_eor_t, z_eor_f, z_enot, z_enot_ok, z_eif, z_eif_t, z_eif_f, z_for, z_for_v, z_iseq, z_iseq_t, z_iseq_f, z_iseq_r, z_rng, z_rng_ok, z_env0, z_try, z_try_nx, z_try_rt, z_try0, z_try0_nx, z_try0_rt, z_for_l, z_fv0, z_fv_nx, z_fv_ct, z_fv_rt, z_lc, z_lc_v, z_step, z_step_ok, z_istr, z_istr_ok, z_env0, List.map_cons, List.map_nil, List.replicate, List.append_nil, Nat.reduceSub, List.cons_append, List.nil_append, List.length_cons, List.length_nil, Nat.reduceAdd, Nat.reduceLeDiff, List.getElem?_cons_zero, List.getElem?_cons_succ, List.set_cons_zero, List.set_cons_succ, Bool.not_true, Bool.not_false, e6, e4, e5, e7]) (hTp s3) (by rw [List.length_map]; omega)
  rw [e8, z_do_ok, List.set_cons_succ]
theorem turn_run {s : Bx} {T : MH} {p : Nat} {zs : List Str} {a1 a4 a5 a6 a7 : Option D} (hs : BxOk s) (hT : T[p]? = some (MO.lst (zs.map D.str))) (hn : zs.length ≤ 10) :
    ∃ z s' G a6' q, NmOk z ∧ BxOk s' ∧ namesL2 [some (.ref 0), a1, some (.str ("abcdefghijklmnopqrstuvwxyz" : Str)), some (.ref (p + 1)), a4, a5, a6, a7, none] (s.obj :: T) =
      .nx [some (.ref 0), a1, some (.str ("abcdefghijklmnopqrstuvwxyz" : Str)), some (.ref (p + 1)), a4, some (.str q), a6', some (.ref (T.length + 1)), none] (s'.obj :: (T ++ [G]).set p (MO.lst (zs.map D.str ++ [D.str z]))) := by
  obtain ⟨r, s1, e1, r0, r1, h1⟩ := draw_at (R := T) (n := 8) hs (by decide) (by decide)
  obtain ⟨s2, z, a62, e2, h2, hz2, hl2⟩ := stem_run (R := T) (a1 := a1) (a3 := some (.ref (p + 1))) (a4 := a4) (a7 := a7) (a8 := none) (rangeD 0 r.toNat) s1 "" a6 h1 low_nil (by rw [rangeD_len, nil_len]; omega)
  rw [rangeD_len, nil_len] at hl2
  have hlz : z.length ≤ 7 := by omega
  have hp : (s2.obj :: T)[p + 1]? = some (MO.lst (zs.map D.str)) := by rw [List.getElem?_cons_succ]; exact hT
  have e3 := free_run (M := s2.obj :: T) (n := p + 1) (z := z) (zs := zs) (a1 := a1) (a4 := a4) (a6 := a62) (a7 := a7) hp (by omega) (by omega)
  rw [cons_len, List.cons_append] at e3
  obtain ⟨c, s3, c1, c2, h3, e4⟩ := last_run (a1 := a1) (a4 := a4) (a6 := a62) h2 hT hz2 hlz hn
  have hr : qRng (.ok (.int r) (s1.obj :: T)) = .ok (.vals (rangeD 0 r.toNat)) (s1.obj :: T) := z_rng_ok r0 (by omega)
  have one : (⟨#[c]⟩ : Str).length = 1 := rfl
  have hlen := app_len z ⟨#[c]⟩
  refine ⟨z ++ ⟨#[c]⟩, s3, .lst (freeOf z zs), a62, z, ⟨hz2.app (low_one ⟨c1, c2⟩), by omega⟩, h3, ?_⟩
  rw [namesL2]
  simp only [z_seq, z_seq_nx, z_seq_rt, z_seq_ex, z_seq_bk, z_seq_ct, z_if, z_if_t, z_if_f, z_if_x, z_set, z_set_ok, z_set_x, z_ret, z_ret_ok, z_ret_x, z_retN, z_do, z_do_ok, z_do_x, z_nil, z_raise0, z_raise, z_raise_ok, z_toR_rt, z_toR_nx, z_toR_ex, z_c, z_var, z_var_ok, z_un, z_un_ok, z_un_x, z_bin, z_bin_ok, z_bin_x, z_anil, z_cons, z_cons1, z_cons1x, z_cons2, z_cons2x, z_args, z_args_ok, z_args_x, z_tup, z_tup_ok, z_fro, z_fro_ok, z_lst, z_lst_ok, z_call, z_stat, z_call_ok, z_callk, z_callk1, z_callk2, z_mkF, z_mkF_ok, z_own1, z_own1_ok, z_prop, z_own2, z_own2_ok, z_val, z_val_ok, z_val_x, z_and, z_and_t, z_and_f, z_or, z_or_t, z_or_f, z_not, z_not_ok, z_yes, z_eand, z_eand_t, z_eand_f, z_eor, z_eor_t, z_eor_f, z_enot, z_enot_ok, z_eif, z_eif_t, z_eif_f, z_for, z_for_v, z_iseq, z_iseq_t, z_iseq_f, z_iseq_r, z_rng, z_rng_ok, z_env0, z_try, z_try_nx, z_try_rt, z_try0, z_try0_nx, z_try0_rt, z_for_l, z_fv0, z_fv_nx, z_fv_ct, z_fv_rt, z_lc_v, z_step, z_step_ok, z_istr, z_istr_ok, z_env0, List.map_cons, List.map_nil, List.replicate, List.append_nil, Nat.reduceSub, List.cons_append, List.nil_append, List.length_cons, List.length_nil, Nat.reduceAdd, Nat.reduceLeDiff, List.getElem?_cons_zero, List.getElem?_cons_succ, List.set_cons_zero, List.set_cons_succ, Bool.not_true, Bool.not_false, e1, hr, e2, e3, e4]
theorem seq_run {a b : SM} {e e1 : Env2} {M M1 : MH} {r : SR} (h : a e M = .nx e1 M1) (h2 : b e1 M1 = r) : sSeq a b e M = r := by
  rw [z_seq, h, z_seq_nx, h2]
theorem set_nx {m : EM} {e : Env2} {M M1 : MH} {d : D} {i : Nat} (h : m e M = .ok d M1) : sSet i m e M = .nx (e.set i (some d)) M1 := by
  rw [z_set, h, z_set_ok]
theorem for_nx {it : Env2 → MH → Res IV} {tg : TgM} {b : SM} {e e1 : Env2} {M M0 M1 : MH} {ds : List D} (h : it e M = .ok (.vals ds) M0) (h2 : forV tg b ds e M0 = .nx e1 M1) : sForI it tg b e M = .nx e1 M1 := by
  rw [z_for, h, z_for_v, h2]
theorem ret_rt {m : EM} {e : Env2} {M M1 : MH} {d : D} (h : m e M = .ok d M1) : sRet m e M = .rt d M1 := by
  rw [z_ret, h, z_ret_ok]
theorem var_ok {e : Env2} {M : MH} {d : D} {i : Nat} (h : e[i]? = some (some d)) : eVar i e M = .ok d M := by
  rw [z_var, h, z_var_ok]
end T2
namespace T2
open PySem L2
/-- v is a list of these items, behind the box -/
def Lv (T : MH) (v : D) (ds : List D) : Prop := v = .fro ds ∨ ∃ p, v = .ref (p + 1) ∧ T[p]? = some (.lst ds)
theorem Lv.ext {T T' : MH} {v : D} {ds : List D} (h : Lv T v ds) (x : Ext T T') : Lv T' v ds := by
  rcases h with h | ⟨p, e, h⟩
  · exact .inl h
  · exact .inr ⟨p, e, x _ _ h⟩
theorem Lv.items {T : MH} {v : D} {ds : List D} (h : Lv T v ds) (b : MO) : listItems (b :: T) v = some ds := by
  rcases h with rfl | ⟨p, rfl, h⟩
  · rfl
  · unfold listItems
    dsimp only
    rw [List.getElem?_cons_succ, h]
theorem Lv.seq {T : MH} {v : D} {ds : List D} (h : Lv T v ds) (b : MO) : SeqOf (b :: T) "list" v ds := .inr ⟨rfl, h.items b⟩
theorem Lv.all {T : MH} {v : D} {ds : List D} (h : Lv T v ds) (b : MO) : T2.items (b :: T) v = some ds := by
  rcases h with rfl | ⟨p, rfl, h⟩
  · rfl
  · unfold T2.items
    dsimp only
    rw [List.getElem?_cons_succ, h]
theorem cat_F {M : MH} {x y : D} {xs ys : List D} (hx : listItems M x = some xs) (hy : listItems M y = some ys) (h : xs.length + ys.length ≤ 1000) : dCat mkF x y M = .ok (.fro (xs ++ ys)) M := by
  unfold dCat
  rw [hx, hy]
  dsimp only
  rw [if_pos (by unfold big; omega)]
  rfl
theorem cat_L {M : MH} {x y : D} {xs ys : List D} (hx : listItems M x = some xs) (hy : listItems M y = some ys) (h : xs.length + ys.length ≤ 1000) : dCat mkL x y M = .ok (.ref M.length) (M ++ [.lst (xs ++ ys)]) := by
  unfold dCat
  rw [hx, hy]
  dsimp only
  rw [if_pos (by unfold big; omega)]
  rfl
theorem push_ok {M : MH} {n : Nat} {acc : List D} {y : D} (hM : M[n]? = some (.lst acc)) (hz : acc.length < 1000) : pushAt n (some y) M = some (M.set n (.lst (acc ++ [y]))) := by
  unfold pushAt
  dsimp only
  rw [hM]
  dsimp only
  rw [if_pos (by unfold big; omega)]
/-- plain data: tuples, texts, numbers -/
def Pd : Nat → D → Prop
  | 0, _ => False
  | k + 1, x => x = .non ∨ (∃ b, x = .bl b) ∨ (∃ i, x = .int i) ∨ (∃ s, x = .str s ∧ PyData.strOk s = true) ∨ ∃ xs, x = .tup xs ∧ xs.length ≤ 1000 ∧ ∀ a ∈ xs, Pd k a
theorem Pd.up : ∀ {k : Nat} {x : D}, Pd k x → Pd (k + 1) x
  | 0, _, h => h.elim
  | k + 1, x, h => by
    rcases h with h | h | h | h | ⟨xs, h, hl, ha⟩
    · exact .inl h
    · exact .inr (.inl h)
    · exact .inr (.inr (.inl h))
    · exact .inr (.inr (.inr (.inl h)))
    · exact .inr (.inr (.inr (.inr ⟨xs, h, hl, fun a m => Pd.up (ha a m)⟩)))
theorem pd_str {k : Nat} {s : Str} (h : PyData.strOk s = true) : Pd (k + 1) (.str s) := .inr (.inr (.inr (.inl ⟨s, rfl, h⟩)))
theorem pd_int {k : Nat} {i : Int} : Pd (k + 1) (.int i) := .inr (.inr (.inl ⟨i, rfl⟩))
theorem pd_tup {k : Nat} {xs : List D} (hl : xs.length ≤ 1000) (h : ∀ a ∈ xs, Pd k a) : Pd (k + 1) (.tup xs) := .inr (.inr (.inr (.inr ⟨xs, rfl, hl, h⟩)))
theorem pd_2 {k : Nat} {x y : D} (hx : Pd k x) (hy : Pd k y) : Pd (k + 1) (.tup [x, y]) := pd_tup (by simp) (by simp [hx, hy])
theorem pd_1 {k : Nat} {x : D} (hx : Pd k x) : Pd (k + 1) (.tup [x]) := pd_tup (by simp) (by simp [hx])
theorem pd_3 {k : Nat} {x y z : D} (hx : Pd k x) (hy : Pd k y) (hz : Pd k z) : Pd (k + 1) (.tup [x, y, z]) := pd_tup (by simp) (by simp [hx, hy, hz])
theorem same_pd {M : MH} : ∀ {k : Nat} {x : D}, Pd k x → Same M k x x
  | 0, _, h => h.elim
  | k + 1, x, h => by
    rcases h with h | ⟨b, h⟩ | ⟨i, h⟩ | ⟨s, h, ho⟩ | ⟨xs, h, hl, ha⟩
    · exact .inl ⟨h, h⟩
    · exact .inr (.inl ⟨b, h, h⟩)
    · exact .inr (.inr (.inl ⟨i, h, h⟩))
    · exact .inr (.inr (.inr (.inl ⟨s, h, h, ho⟩)))
    · refine .inr (.inr (.inr (.inr ⟨"tuple", xs, xs, .inl ⟨rfl, h⟩, .inl ⟨rfl, h⟩, rfl, hl, fun i a c h1 h2 => ?_⟩)))
      rw [h1] at h2
      cases h2
      exact same_pd (ha a (List.mem_of_getElem? h1))
theorem same_list {M : MH} {k : Nat} {x y : D} {xs : List D} (hx : listItems M x = some xs) (hy : listItems M y = some xs) (hl : xs.length ≤ 1000) (h : ∀ a ∈ xs, Pd k a) : Same M (k + 1) x y := by
  refine .inr (.inr (.inr (.inr ⟨"list", xs, xs, .inr ⟨rfl, hx⟩, .inr ⟨rfl, hy⟩, rfl, hl, fun i a c h1 h2 => ?_⟩)))
  rw [h1] at h2
  cases h2
  exact same_pd (h a (List.mem_of_getElem? h1))
end T2
namespace T2
open PySem L2
theorem set_end' {T : MH} {x y : MO} : (T ++ [x]).set T.length y = T ++ [y] := by simp
def pkE (i : Nat) : EM := eCall 2 pickM (eCons (eVar 0) (eCons (eVar i) (eNil)))
theorem pick_step {s : Bx} {R : MH} {acc ds xs : List D} {e : Env2} {i : Nat} (h0 : e[0]? = some (some (.ref 0))) (hi : i < e.length) (hi0 : 0 < i) (hs : BxOk s) (hd : 0 < ds.length ∧ ds.length < 1000) (ha : acc.length < 1000) :
    ∃ d s', d ∈ ds ∧ BxOk s' ∧ lcV (tgName i) bYes (pkE i) e (R.length + 1) (.fro ds :: xs) (s.obj :: (R ++ [.lst acc])) = lcV (tgName i) bYes (pkE i) e (R.length + 1) xs (s'.obj :: (R ++ [.lst (acc ++ [d])])) := by
  obtain ⟨d, s', e1, hd', h'⟩ := pick_run (R := R ++ [.lst acc]) (t := "list") (l := .fro ds) hs (fun _ => .inr ⟨rfl, rfl⟩) hd.1 hd.2
  refine ⟨d, s', hd', h', ?_⟩
  have g0 : (e.set i (some (D.fro ds)))[0]? = some (some (.ref 0)) := by rw [List.getElem?_set_ne (by omega)]; exact h0
  have gi : (e.set i (some (D.fro ds)))[i]? = some (some (.fro ds)) := by rw [List.getElem?_set_self hi]
  have hst : lcStep (tgName i) bYes (pkE i) e (.fro ds) (s.obj :: (R ++ [.lst acc])) = .ok (some d) (s'.obj :: (R ++ [.lst acc])) := by
    rw [z_step, pkE]
    simp only [z_seq, z_seq_nx, z_seq_rt, z_seq_ex, z_seq_bk, z_seq_ct, z_if, z_if_t, z_if_f, z_if_x, z_set, z_set_ok, z_set_x, z_ret, z_ret_ok, z_ret_x, z_retN, z_do, z_do_ok, z_do_x, z_nil, z_raise0, z_raise, z_raise_ok, z_toR_rt, z_toR_nx, z_toR_ex, z_c, z_var, z_var_ok, z_un, z_un_ok, z_un_x, z_bin, z_bin_ok, z_bin_x, z_anil, z_cons, z_cons1, z_cons1x, z_cons2, z_cons2x, z_args, z_args_ok, z_args_x, z_tup, z_tup_ok, z_fro, z_fro_ok, z_lst, z_lst_ok, z_call, z_stat, z_call_ok, z_callk, z_callk1, z_callk2, z_mkF, z_mkF_ok, z_own1, z_own1_ok, z_prop, z_own2, z_own2_ok, z_val, z_val_ok, z_val_x, z_and, z_and_t, z_and_f, z_or, z_or_t, z_or_f, z_not, z_not_ok, z_yes, z_eand, z_eand_t, z_eand_f, z_eor, z_eor_t, z_eor_f, z_enot, z_enot_ok, z_eif, z_eif_t, z_eif_f, z_for, z_for_v, z_iseq, z_iseq_t, z_iseq_f, z_iseq_r, z_rng, z_rng_ok, z_env0, z_try, z_try_nx, z_try_rt, z_try0, z_try0_nx, z_try0_rt, z_for_l, z_fv0, z_fv_nx, z_fv_ct, z_fv_rt, z_lc_v, z_step, z_step_ok, z_istr, z_istr_ok, z_env0, List.map_cons, List.map_nil, List.replicate, List.append_nil, Nat.reduceSub, List.cons_append, List.nil_append, List.length_cons, List.length_nil, Nat.reduceAdd, Nat.reduceLeDiff, List.getElem?_cons_zero, List.getElem?_cons_succ, List.set_cons_zero, List.set_cons_succ, Bool.not_true, Bool.not_false, g0, gi, e1]
  rw [lcV, hst, Res.bind_ok, push_ok (acc := acc) (by rw [List.getElem?_cons_succ]; simp) ha, List.set_cons_succ, set_end']
/-- one of each menu -/
theorem picks_run {R : MH} {e : Env2} {i : Nat} (h0 : e[0]? = some (some (.ref 0))) (hi : i < e.length) (hi0 : 0 < i) : ∀ (ms : List (List D)) (acc : List D) (s : Bx), BxOk s → (∀ m ∈ ms, 0 < m.length ∧ m.length < 1000) → acc.length + ms.length ≤ 1000 →
    ∃ ds s', BxOk s' ∧ ds.length = ms.length ∧ (∀ (j : Nat) d m, ds[j]? = some d → ms[j]? = some m → d ∈ m) ∧ lcV (tgName i) bYes (pkE i) e (R.length + 1) (ms.map D.fro) (s.obj :: (R ++ [.lst acc])) = .ok (.ref (R.length + 1)) (s'.obj :: (R ++ [.lst (acc ++ ds)]))
  | [], acc, s, hs, _, _ => ⟨[], s, hs, rfl, fun j d m h => by simp at h, by simp [lcV]⟩
  | m :: ms, acc, s, hs, hm, hz => by
    obtain ⟨d, s1, hd, h1, e1⟩ := pick_step (R := R) (acc := acc) (xs := ms.map D.fro) h0 hi hi0 hs (hm m (by simp)) (by simp at hz; omega)
    obtain ⟨ds, s2, h2, hl, hmem, e2⟩ := picks_run h0 hi hi0 ms (acc ++ [d]) s1 h1 (fun m h => hm m (by simp [h])) (by simp at hz ⊢; omega)
    refine ⟨d :: ds, s2, h2, by simp [hl], ?_, ?_⟩
    · intro j d' m' hj hj'
      cases j with
      | zero => simp at hj hj'; rw [← hj, ← hj']; exact hd
      | succ j => exact hmem j d' m' (by simpa using hj) (by simpa using hj')
    · rw [List.map_cons, e1, e2]; simp
theorem len_cons {α : Type} {l : List α} {n : Nat} (h : l.length = n + 1) : ∃ a t, l = a :: t ∧ t.length = n := by
  cases l with
  | nil => simp at h
  | cons a t => exact ⟨a, t, rfl, by simpa using h⟩
theorem len_4 {α : Type} {l : List α} (h : l.length = 4) : ∃ a0 a1 a2 a3, l = [a0, a1, a2, a3] := by
  obtain ⟨a0, l0, rfl, h0⟩ := len_cons h
  obtain ⟨a1, l1, rfl, h1⟩ := len_cons h0
  obtain ⟨a2, l2, rfl, h2⟩ := len_cons h1
  obtain ⟨a3, l3, rfl, h3⟩ := len_cons h2
  cases List.eq_nil_of_length_eq_zero h3
  exact ⟨a0, a1, a2, a3, rfl⟩
/-! ### a law's body, statement by statement: it ends with True -/
/-! ### fields of an instance that is being made -/
/-! ### plain data compared: a bool, whatever the memory -/
/-! ### a list that is walked, under an invariant of the names -/
theorem forL_forV_I {tg : TgM} {body : SM} {n : Nat} {ds : List D} {M : MH} {I : Env2 → Prop} (hM : M[n]? = some (.lst ds)) (hb : ∀ x ∈ ds, ∀ e e1, I e → tg x e = some e1 → ∀ e2 M2, (body e1 M = .nx e2 M2 ∨ body e1 M = .ct e2 M2) → M2 = M ∧ I e2) : ∀ (k i : Nat) (e : Env2), I e → i + k = ds.length → forL tg body n k i e M = forV tg body (ds.drop i) e M
  | 0, i, e, _, hk => by
    unfold forL
    rw [hM]
    dsimp only
    rw [if_pos (by omega), List.drop_eq_nil_of_le (by omega)]
    rfl
  | k + 1, i, e, hI, hk => by
    have hi : i < ds.length := by omega
    have hx := List.getElem?_eq_getElem hi
    unfold forL
    rw [hM]
    dsimp only
    rw [hx, drop_cons' hx]
    dsimp only
    conv => rhs; unfold forV
    cases ht : tg ds[i] e with
    | none => rfl
    | some e1 =>
      dsimp only
      cases hq : body e1 M with
      | nx e2 M2 =>
        obtain ⟨rfl, h2⟩ := hb _ (List.getElem_mem hi) e e1 hI ht e2 M2 (.inl hq)
        exact forL_forV_I hM hb k (i + 1) e2 h2 (by omega)
      | ct e2 M2 =>
        obtain ⟨rfl, h2⟩ := hb _ (List.getElem_mem hi) e e1 hI ht e2 M2 (.inr hq)
        exact forL_forV_I hM hb k (i + 1) e2 h2 (by omega)
      | _ => rfl
theorem for_items_I {tg : TgM} {body : SM} {m : EM} {e : Env2} {M : MH} {l : D} {ds : List D} (I : Env2 → Prop) (hm : m e M = .ok l M) (h : listItems M l = some ds) (hI : I e) (hb : ∀ x ∈ ds, ∀ e e1, I e → tg x e = some e1 → ∀ e2 M2, (body e1 M = .nx e2 M2 ∨ body e1 M = .ct e2 M2) → M2 = M ∧ I e2) : sForI (iSeq m) tg body e M = forV tg body ds e M := by
  rw [z_for, z_iseq, hm]
  rcases items_ref h with rfl | ⟨n, rfl, hn⟩
  · rfl
  · rw [z_iseq_r, z_for_l hn, forL_forV_I hn hb ds.length 0 e hI (by omega)]
    rfl
end T2
namespace T2
open PySem L2 PyProof.Rows

/-! ### o.f += e (ints) -/
def sIncF (cs : List Nat) (f : Str) (mo mv : EM) : SM := fun e M => (mo e M).toS e fun o M1 => match dFld cs f o M1 with
  | .ok (.int i) _ => (mv e M1).toS e fun y M2 => match y, instOf M1 o, instOf M2 o with
    | .int j, some (c, _, _), some (c', _, _) => if c = c' then (match dPutF cs f o (.int (i + j)) M2 with
      | some M3 => .nx e M3
      | none => .bad) else .bad
    | _, _, _ => .bad
  | _ => .bad
section
variable {X : Cx} {g : Wd} {W : WY} {a b o : Expr} {pos p apos : Pos} {m1 m2 m3 : EM} {ma : AM} {es : List Expr}
/-! ### a, b, .. = a list -/
def sUnpL (is : List Nat) (m : EM) : SM := fun e M => (m e M).toS e fun d M1 => match listItems M1 d with
  | some ds => if ds.length = is.length then .nx (setAll e is ds) M1 else .bad
  | none => .bad
end

/-! ### dict comprehensions (one clause, over values) -/
section
variable {X : Cx} {g : Wd} {W : WY} {pos : Pos} {mk mv : EM} {tt : BM}
variable {kx vx tgE iter : Expr} {ifs : List Expr} {scope : Scope} {own : List (Str × Nat)}
end
end T2
namespace T2
open PySem L2
/-! ### functions changed at one place; three in a row -/
def up1 {α : Type} (f : Nat → α) (i : Nat) (v : α) : Nat → α := fun j => if j = i then v else f j
theorem up1_same {α : Type} {f : Nat → α} {i : Nat} {v : α} : up1 f i v i = v := if_pos rfl
theorem up1_ne {α : Type} {f : Nat → α} {i j : Nat} {v : α} (h : j ≠ i) : up1 f i v j = f j := if_neg h
def r3 {α : Type} (f : Nat → α) : List α := [f 0, f 1, f 2]
def k3 : List Key := [.inl 0, .inl 1, .inl 2]
/-! ### slots: slot i stands at the place π i behind the box and holds c i -/
structure Sl (N : Nat) (T : MH) (π : Nat → Nat) (c : Nat → MO) : Prop where
  at_ : ∀ i, i < N → T[π i]? = some (c i)
  inj : ∀ i j, i < N → j < N → π i = π j → i = j
section
variable {N : Nat} {T T' : MH} {π : Nat → Nat} {c : Nat → MO} {i : Nat} {o : MO}
theorem Sl.lt (h : Sl N T π c) (hi : i < N) : π i < T.length := (List.getElem?_eq_some_iff.mp (h.at_ i hi)).1
theorem Sl.set (h : Sl N T π c) (hi : i < N) : Sl N (T.set (π i) o) π (up1 c i o) := by
  refine ⟨fun j hj => ?_, h.inj⟩
  by_cases e : j = i
  · subst e; rw [List.getElem?_set_self (h.lt hi), up1_same]
  · rw [List.getElem?_set_ne (fun z => e (h.inj j i hj hi z.symm)), up1_ne e]; exact h.at_ j hj
theorem Sl.ext (h : Sl N T π c) (x : Ext T T') : Sl N T' π c := ⟨fun j hj => x _ _ (h.at_ j hj), h.inj⟩
theorem Sl.fresh (h : Sl N T π c) (hi : i < N) : Sl N (T ++ [o]) (up1 π i T.length) (up1 c i o) := by
  refine ⟨fun j hj => ?_, fun a b ha hb e => ?_⟩
  · by_cases e : j = i
    · subst e; rw [up1_same, up1_same]; simp
    · rw [up1_ne e, up1_ne e, List.getElem?_append_left (h.lt hj)]; exact h.at_ j hj
  · by_cases ea : a = i
    · by_cases eb : b = i
      · rw [ea, eb]
      · rw [ea, up1_same, up1_ne eb] at e
        have := h.lt hb; omega
    · by_cases eb : b = i
      · rw [eb, up1_same, up1_ne ea] at e
        have := h.lt ha; omega
      · rw [up1_ne ea, up1_ne eb] at e; exact h.inj a b ha hb e
/-- one slot more -/
theorem Sl.more (h : Sl N T π c) (hN : π N = T.length) (hc : c N = o) : Sl (N + 1) (T ++ [o]) π c := by
  refine ⟨fun j hj => ?_, fun a b ha hb e => ?_⟩
  · by_cases e : j = N
    · subst e; rw [hN, hc]; simp
    · rw [List.getElem?_append_left (h.lt (by omega))]; exact h.at_ j (by omega)
  · by_cases ea : a = N
    · by_cases eb : b = N
      · rw [ea, eb]
      · have := h.lt (i := b) (by omega); rw [ea, hN] at e; omega
    · by_cases eb : b = N
      · have := h.lt (i := a) (by omega); rw [eb, hN] at e; omega
      · exact h.inj a b (by omega) (by omega) e
end
abbrev rf (π : Nat → Nat) (i : Nat) : D := .ref (π i + 1)
section
variable {T : MH} {p : Nat} {b : MO} {u : Nat} {v d : D} {ds : List D} {M M1 M2 : MH} {e e1 : Env2}
theorem at1 {o : MO} (h : T[p]? = some o) : (b :: T)[p + 1]? = some o := by rw [List.getElem?_cons_succ]; exact h
/-! ### loops over lists that stay, while other things change -/
/-! ### comprehensions with a test, nothing new but the list -/
end
end T2
namespace T2
open PySem L2

/-! ### what a call hands back is frozen, what it has made beside it is forgotten -/
mutual
def fzA (rf : Nat → Option D) : D → Option D
  | .ref n => rf n
  | .tup ds => (fzAs rf ds).map .tup
  | .fro ds => (fzAs rf ds).map .fro
  | .ins c ns ds => (fzAs rf ds).map (.ins c ns)
  | .non => some .non
  | .bl b => some (.bl b)
  | .int i => some (.int i)
  | .str x => some (.str x)
  | .ty n => some (.ty n)
  | .cls c => some (.cls c)
  | .obj a => some (.obj a)
  | .tk ks => some (.tk ks)
def fzAs (rf : Nat → Option D) : List D → Option (List D)
  | [] => some []
  | d :: ds => match fzA rf d, fzAs rf ds with
    | some x, some xs => some (x :: xs)
    | _, _ => none
end
def rfz (M : MH) (k : Nat) : Nat → Nat → Option D
  | 0, n => if n < k then some (.ref n) else none
  | f + 1, n => if n < k then some (.ref n) else match M[n]? with
    | some (.lst ds) => (fzAs (rfz M k f) ds).map .fro
    | _ => none
section
variable {g : Wd} {F : List Addr} {H : Hp} {M : MH} {k : Nat}
mutual
theorem fzA_rep {rf : Nat → Option D} (hrf : ∀ n d' a, F[n]? = some a → rf n = some d' → Rep g (F.take k) H d' (.ref a)) : ∀ {d : D} {v : V} {d' : D}, Rep g F H d v → fzA rf d = some d' → Rep g (F.take k) H d' v
  | _, _, _, .non, h => by cases h; exact .non
  | _, _, _, .bl b, h => by cases h; exact .bl b
  | _, _, _, .int i, h => by cases h; exact .int i
  | _, _, _, .str x, h => by cases h; exact .str x
  | _, _, _, .ty n, h => by cases h; exact .ty n
  | _, _, _, .cls c, h => by cases h; exact .cls c
  | _, _, _, .obj a, h => by cases h; exact .obj a
  | _, _, _, .tk h0, h => by cases h; exact .tk h0
  | _, _, _, .ref hn, h => hrf _ _ _ hn h
  | _, _, _, .tup h0 r, h => by
    obtain ⟨xs, h1, rfl⟩ := Option.map_eq_some_iff.mp h
    exact .tup h0 (fzAs_rep hrf r h1)
  | _, _, _, .fro h0 r, h => by
    obtain ⟨xs, h1, rfl⟩ := Option.map_eq_some_iff.mp h
    exact .fro h0.cut (fzAs_rep hrf r h1)
  | _, _, _, .ins h0 hn hl r, h => by
    obtain ⟨xs, h1, rfl⟩ := Option.map_eq_some_iff.mp h
    exact .ins h0 (fun z => hn (List.mem_of_mem_take z)) hl (fzAs_rep hrf r h1)
theorem fzAs_rep {rf : Nat → Option D} (hrf : ∀ n d' a, F[n]? = some a → rf n = some d' → Rep g (F.take k) H d' (.ref a)) : ∀ {ds : List D} {vs : List V} {ds' : List D}, Reps g F H ds vs → fzAs rf ds = some ds' → Reps g (F.take k) H ds' vs
  | _, _, _, .nil, h => by cases h; exact .nil
  | _, _, _, .cons (d := d) (ds := ds) r t, h => by
    unfold fzAs at h
    cases h1 : fzA rf d with
    | none => rw [h1] at h; cases h
    | some x =>
      cases h2 : fzAs rf ds with
      | none => rw [h1, h2] at h; cases h
      | some xs =>
        rw [h1, h2] at h
        cases h
        exact .cons (fzA_rep hrf r h1) (fzAs_rep hrf t h2)
end
theorem notin_take {n : Nat} {a : Addr} (nd : F.Nodup) (hn : F[n]? = some a) (hk : k ≤ n) : a ∉ F.take k := fun z => by
  obtain ⟨i, hi⟩ := List.getElem?_of_mem z
  have hik : i < k := by
    have := (List.getElem?_eq_some_iff.mp hi).1
    rw [List.length_take] at this
    omega
  rw [List.getElem?_take_of_lt hik] at hi
  have := (List.getElem?_inj (List.getElem?_eq_some_iff.mp hi).1 nd).mp (hi.trans hn.symm)
  omega
theorem rfz_rep (R : RelM g F M H) : ∀ (f n : Nat) (d' : D) (a : Addr), F[n]? = some a → rfz M k f n = some d' → Rep g (F.take k) H d' (.ref a)
  | 0, n, d', a, hn, h => by
    unfold rfz at h
    split at h
    · rename_i hk
      cases h
      exact .ref (by rw [List.getElem?_take_of_lt hk]; exact hn)
    · cases h
  | f + 1, n, d', a, hn, h => by
    unfold rfz at h
    split at h
    · rename_i hk
      cases h
      exact .ref (by rw [List.getElem?_take_of_lt hk]; exact hn)
    · rename_i hk
      split at h
      · rename_i ds hM
        obtain ⟨xs, h1, rfl⟩ := Option.map_eq_some_iff.mp h
        obtain ⟨o, ho, r⟩ := R.obj n a _ hn hM
        cases r with | lst r =>
        exact .fro (.inl ⟨ho, notin_take R.nd hn (by omega)⟩) (fzAs_rep (rfz_rep R f) r h1)
      · cases h
end
mutual
theorem D.low_up {k m : Nat} (h : k ≤ m) : ∀ {d : D}, D.low k d → D.low m d
  | .ref n, l => by unfold D.low at l ⊢; omega
  | .tup ds, l => by unfold D.low at l ⊢; exact D.lows_up h l
  | .fro ds, l => by unfold D.low at l ⊢; exact D.lows_up h l
  | .ins _ _ ds, l => by unfold D.low at l ⊢; exact D.lows_up h l
  | .non, _ => trivial
  | .bl _, _ => trivial
  | .int _, _ => trivial
  | .str _, _ => trivial
  | .ty _, _ => trivial
  | .cls _, _ => trivial
  | .obj _, _ => trivial
  | .tk _, _ => trivial
theorem D.lows_up {k m : Nat} (h : k ≤ m) : ∀ {ds : List D}, D.lows k ds → D.lows m ds
  | [], _ => trivial
  | d :: ds, l => ⟨D.low_up h l.1, D.lows_up h l.2⟩
end
theorem MO.low_up {k m : Nat} (h : k ≤ m) : ∀ {o : MO}, MO.low k o → MO.low m o
  | .lst _, l => D.lows_up h l
  | .dk _ _, l => D.lows_up h l
  | .dt _ _, l => D.lows_up h l
  | .ob _ _ _, l => D.lows_up h l
  | .lk _ _, l => D.lows_up h l
  | .lt _ _, l => D.lows_up h l
open Classical in
/-- the first thing alone may have changed, and refers to nothing -/
noncomputable def frzB (f : List D → MH → Res D) : List D → MH → Res D := fun ds M => match M, f ds M with
  | _ :: T, .ok d (b' :: T') => if T'.take T.length = T ∧ MO.low 0 b' then (match fzA (rfz (b' :: T') (T.length + 1) 4) d with
    | some d' => .ok d' (b' :: T)
    | none => .bad) else .bad
  | _, _ => .bad
theorem frz_ok {f : List D → MH → Res D} {ds : List D} {b b' : MO} {T G : MH} {d d' : D} (h : f ds (b :: T) = .ok d (b' :: (T ++ G))) (hb : MO.low 0 b') (hd : fzA (rfz (b' :: (T ++ G)) (T.length + 1) 4) d = some d') : frzB f ds (b :: T) = .ok d' (b' :: T) := by
  unfold frzB
  rw [h]
  dsimp only
  rw [if_pos ⟨by simp, hb⟩, hd]
theorem fn_frz {P : Program} {w : World} {K : PySem.W.Frag} {mg : Str → Option Value} {base : Heap} {CX : CXT} {g : Wd} {f : Addr} {fd : FuncData} {ps : List Str} {k n : Nat} {m : List D → MH → Res D} (F : FnOk P w K mg base CX k f fd ps (spD g n m)) : FnOk P w K mg base CX k f fd ps (spD g n (frzB m)) :=
  F.imp fun vs H Q E ⟨hl, F, M, ds, R, r, q⟩ => ⟨hl, F, M, ds, R, r, by
    unfold frzB at q
    split at q
    · rename_i b T d b' T' hm
      split at q
      · rename_i hc
        split at q
        · rename_i d' hd
          rw [hm]
          intro F1 H1 v g1 R1 rv
          have e : b' :: T' = (b' :: T) ++ T'.drop T.length := by
            rw [List.cons_append]
            congr 1
            conv => lhs; rw [← List.take_append_drop T.length T', hc.1]
          have lm : MLow (b' :: T) := fun o ho => by
            rcases List.mem_cons.mp ho with rfl | ho
            · exact MO.low_up (Nat.zero_le _) hc.2
            · have := R.low o (List.mem_cons_of_mem _ ho)
              exact this
          have R1' : RelM g F1 ((b' :: T) ++ T'.drop T.length) H1 := by rw [← e]; exact R1
          exact q _ H1 v (g1.cut (by rw [R.len]; simp)) (R1'.cut lm) (fzA_rep (rfz_rep R1 4) rv hd)
        · exact q.elim
      · exact q.elim
    · exact q.elim⟩
/-- data without places stay as they are -/
theorem fz_pd {rf : Nat → Option D} : ∀ {k : Nat} {x : D}, Pd k x → fzA rf x = some x
  | 0, _, h => h.elim
  | k + 1, x, h => by
    rcases h with rfl | ⟨b, rfl⟩ | ⟨i, rfl⟩ | ⟨s, rfl, ho⟩ | ⟨xs, rfl, hl, ha⟩
    · rfl
    · rfl
    · rfl
    · rfl
    · have key : ∀ ys : List D, (∀ a ∈ ys, Pd k a) → fzAs rf ys = some ys := by
        intro ys
        induction ys with
        | nil => exact fun _ => rfl
        | cons y ys ih =>
          intro h
          unfold fzAs
          rw [fz_pd (h y (by simp)), ih fun a m => h a (by simp [m])]
      unfold fzA
      rw [key xs ha]
      rfl
theorem fzs_pd {rf : Nat → Option D} {k : Nat} : ∀ {ys : List D}, (∀ a ∈ ys, Pd k a) → fzAs rf ys = some ys
  | [], _ => rfl
  | y :: ys, h => by
    unfold fzAs
    rw [fz_pd (h y (by simp)), fzs_pd fun a m => h a (by simp [m])]
theorem low_ints {k : Nat} : ∀ ns : List Int, D.lows k (ns.map D.int)
  | [] => trivial
  | _ :: ns => ⟨trivial, low_ints ns⟩
theorem box_low {s : Bx} : MO.low 0 s.obj := by
  unfold Bx.obj MO.low
  refine ⟨?_, trivial, trivial, trivial, trivial, trivial⟩
  unfold D.low
  exact low_ints _
/-- a new list of plain data, frozen -/
theorem fz_new {s : Bx} {T G : MH} {p k : Nat} {xs : List D} (hp : T.length < p) (hG : (s.obj :: (T ++ G))[p]? = some (.lst xs)) (hx : ∀ a ∈ xs, Pd k a) : fzA (rfz (s.obj :: (T ++ G)) (T.length + 1) 4) (.ref p) = some (.fro xs) := by
  show rfz (s.obj :: (T ++ G)) (T.length + 1) 4 p = _
  unfold rfz
  rw [if_neg (by omega), hG]
  dsimp only
  rw [fzs_pd hx]
  rfl

/-! ### min of a list of numbers -/
def intsOf : List D → Option (List Int)
  | [] => some []
  | .int i :: ds => (intsOf ds).map (i :: ·)
  | _ => none
theorem ints_rep {g : Wd} {F : List Addr} {H : Hp} : ∀ {ds : List D} {vs : List V} {is : List Int}, Reps g F H ds vs → intsOf ds = some is → vs = is.map V.int
  | _, _, is, .nil, h => by cases h; rfl
  | _, _, is, .cons r t, h => by
    cases r with
    | int i =>
      unfold intsOf at h
      obtain ⟨cs, h1, rfl⟩ := Option.map_eq_some_iff.mp h
      rw [ints_rep t h1]; rfl
    | _ => cases h
section
variable {X : Cx} {g : Wd} {W : WY} {a : Expr} {pos p : Pos} {ma : AM} {es : List Expr}
end
end T2
namespace T2
open PySem L2

/-! ### dicts whose keys are tuples -/
section
variable {X : Cx} {g : Wd} {W : WY} {a b o : Expr} {pos p apos : Pos} {m1 m2 m3 : EM} {ma : AM} {es : List Expr}
end
/-! ### for k in d: the dict is locked as long as the loop goes -/
section
variable {g : Wd} {F F' : List Addr} {H H' : Hp}
end
section
variable {X : Cx} {g : Wd} {W : WY} {sts : List Stmt} {s1 : SM} {pos p : Pos}
end
section
variable {X : Cx} {g : Wd} {W : WY} {pos p : Pos} {x : Str} {c : Nat}
/-- C.f, a tuple of the class -/
theorem de_cval {fn : Str} {d : D} {a : Addr} {u : Value} {mc : Value} (gC : X.mg x = some (.ref (g.ca c))) (r : ClX.CRead X.K (g.ca c) mc) (cv : ClX.CVal X.K (g.ca c) mc fn (.ref a) u ∧ ∀ F H, Rep g F H d (.ref a)) (hgx : Gl X x := by rfl) (hdx : (x == ("__debug__" : Str)) = false := by decide)
    (hab : attributeBase (.Name x p) fn X.env (eval (.Name x p) X.env) = eval (.Name x p) X.env := by rfl) : PE X (.Attribute (.Name x p) fn pos) (tD g W (eC d)) :=
  pe_imp (ClX.pe_cval (pe_glob (v := .ref (g.ca c)) hgx gC rfl hdx) hab) fun σ H Q ⟨F, e, M, RS, q⟩ => ⟨_, mc, _, u, rfl, r, cv.1, q.here RS.m (cv.2 _ _)⟩
end
end T2
namespace T2
open PySem L2
/-! ### break -/
def sBk : SM := fun e M => .bk e M
section
variable {X : Cx} {g : Wd} {W : WY} {pos : Pos}
theorem ds_break : PS X (.Break pos) (tS g W sBk) := ps_imp ps_break fun E σ H ⟨F, e, M, RS, q⟩ => q F H σ .same RS.m RS.e RS.x
end
end T2
namespace GP
open PySem
open Sem (wp)

/-! ### a sleeping generator that nobody wakes stays as it is -/
/-- the same to look at, but it cannot be woken -/
def poi : GenState → GenState
  | .suspended _ l c p fs cl => .suspended (fun _ => .unsupported "") l c p fs cl
  | x => x
def susp : GenState → Bool
  | .suspended .. => true
  | _ => false
theorem poi_seen (x : GenState) : (poi x).seen = x.seen := by cases x <;> rfl
/-- no generator's frame among them -/
def NG (fs : List Frame) : Prop := splitAtGen fs = none
def NGst : GenState → Prop
  | .suspended _ _ _ _ fs _ => NG fs
  | _ => True
/-- a: what runs; b: what is so; f: the sleeping ones -/
structure Poi (f : Nat → Option GenState) (a b : Array GenState) : Prop where
  size : a.size = b.size
  fix : ∀ i st, f i = some st → susp st = true ∧ b[i]? = some st ∧ a[i]? = some (poi st)
  same : ∀ i, f i = none → a[i]? = b[i]? ∧ ∀ st, a[i]? = some st → NGst st
theorem Poi.get {f : Nat → Option GenState} {a b : Array GenState} {i : Nat} {st : GenState} (P : Poi f a b) (h : a[i]? = some st) : ∃ st', b[i]? = some st' ∧ st'.seen = st.seen := by
  cases e : f i with
  | none => exact ⟨st, by rw [← (P.same i e).1]; exact h, rfl⟩
  | some x =>
    obtain ⟨h1, h2, h3⟩ := P.fix i x e
    rw [h] at h3; cases h3
    exact ⟨x, h2, (poi_seen x).symm⟩
/-- what is no sleeping one -/
theorem Poi.awake {f : Nat → Option GenState} {a b : Array GenState} {i : Nat} {st : GenState} (P : Poi f a b) (h : a[i]? = some st) (n : susp st = false) : f i = none := by
  cases e : f i with
  | none => rfl
  | some x =>
    obtain ⟨h1, h2, h3⟩ := P.fix i x e
    rw [h] at h3; cases h3
    cases x <;> first | (have n' : true = false := n; exact absurd n' (by decide)) | (have n' : false = true := h1; exact absurd n' (by decide))
theorem Poi.set {f : Nat → Option GenState} {a b : Array GenState} {i : Nat} {st : GenState} (P : Poi f a b) (n : f i = none) (hst : NGst st) : Poi f (a.setIfInBounds i st) (b.setIfInBounds i st) := by
  refine ⟨by simp [P.size], fun j x hj => ?_, fun j hj => ?_⟩
  · have hne : i ≠ j := fun z => by rw [z] at n; rw [n] at hj; cases hj
    obtain ⟨h1, h2, h3⟩ := P.fix j x hj
    exact ⟨h1, by rw [Array.getElem?_setIfInBounds_ne hne]; exact h2, by rw [Array.getElem?_setIfInBounds_ne hne]; exact h3⟩
  · by_cases hij : i = j
    · subst hij
      refine ⟨by simp [Array.getElem?_setIfInBounds, P.size], fun x hx => ?_⟩
      rw [Array.getElem?_setIfInBounds] at hx
      split at hx
      · split at hx
        · cases hx; exact hst
        · cases hx
      · rename_i hh; exact absurd rfl hh
    · obtain ⟨h1, h2⟩ := P.same j hj
      refine ⟨by rw [Array.getElem?_setIfInBounds_ne hij, Array.getElem?_setIfInBounds_ne hij]; exact h1, fun x hx => ?_⟩
      rw [Array.getElem?_setIfInBounds_ne hij] at hx
      exact h2 x hx
theorem Poi.push {f : Nat → Option GenState} {a b : Array GenState} {c : Code} (P : Poi f a b) : Poi f (a.push (.fresh c)) (b.push (.fresh c)) := by
  refine ⟨by simp [P.size], fun j x hj => ?_, fun j hj => ?_⟩
  · obtain ⟨h1, h2, h3⟩ := P.fix j x hj
    have l1 : j < b.size := (Array.getElem?_eq_some_iff.mp h2).1
    have l2 : j < a.size := (Array.getElem?_eq_some_iff.mp h3).1
    exact ⟨h1, by rw [Array.getElem?_push, if_neg (Nat.ne_of_lt l1)]; exact h2, by rw [Array.getElem?_push, if_neg (Nat.ne_of_lt l2)]; exact h3⟩
  · obtain ⟨h1, h2⟩ := P.same j hj
    refine ⟨by rw [Array.getElem?_push, Array.getElem?_push, P.size, h1], fun x hx => ?_⟩
    rw [Array.getElem?_push] at hx
    split at hx
    · cases hx; trivial
    · exact h2 x hx
/-- the sleeping ones -/
def fixOf (b : Array GenState) (i : Nat) : Option GenState := (b[i]?).filter susp
/-- nothing that sleeps has changed -/
def Sleeps (a b : Array GenState) : Prop := ∀ (i : Nat) (st : GenState), a[i]? = some st → susp st = true → b[i]? = some st
theorem Sleeps.refl (a : Array GenState) : Sleeps a a := fun _ _ h _ => h
theorem Sleeps.trans {a b c : Array GenState} (x : Sleeps a b) (y : Sleeps b c) : Sleeps a c := fun i st h n => y i st (x i st h n) n
theorem Poi.sleeps {b0 a b : Array GenState} (P : Poi (fixOf b0) a b) : Sleeps b0 b := fun i st h n => (P.fix i st (by unfold fixOf; rw [h, Option.filter_some, if_pos n])).2.1
end GP
namespace GP
open PySem PySem.Spec PyProof.Rows GenW
open Sem (wp)

/-! ### the heap never shrinks -/
/-! ### a generator's code from one waking to the next halt -/
def Sg (M : Model) (A : Around) (Φ : End → Shared → Prop) (c : Code) (t : Sem PySem.Fin) (fs : List Frame) (s : Shared) : Prop :=
  ∀ Γ p, Γ.code = c → Γ.Woken A → ∃ e s', Runs M Γ p t fs s e s' ∧ Φ e s'
section
variable {M : Model} {A : Around} {Φ : End → Shared → Prop} {c : Code} {fs : List Frame} {s : Shared}
end

/-! ### the state of a generator that walks nested tuples -/
/-- since it was woken: the state then, its own things then -/
structure Ph where
  s : Shared
  own : List Addr
structure Mv (ph : Ph) (s : Shared) : Prop where
  os : s.os = ph.s.os
  gens : s.gens = ph.s.gens
  keep : ∀ b o, ph.s.heap.get? b = some o → b ∉ ph.own → s.heap.get? b = some o
  sz : ph.s.heap.objs.size ≤ s.heap.objs.size
/-- the base's heap, the tuple -/
structure Gb where
  bh : Heap
  t : Addr
  its : Array Value
structure GSt (G : Gb) (L : Addr) (ph : Ph) (m : Str → Option Value) (il : List (Addr × Nat)) (s : Shared) : Prop where
  mv : Mv ph s
  bs : ∀ b o, G.bh.get? b = some o → s.heap.get? b = some o
  ns : s.heap.Ns L m
  it : ∀ p ∈ il, s.heap.IsTupleIter p.1 G.t p.2
  own : ∀ b ∈ L :: il.map (·.1), (b ∈ ph.own ∨ ph.s.heap.objs.size ≤ b) ∧ G.bh.get? b = none
  nd : (L :: il.map (·.1)).Nodup
section
variable {G : Gb} {L : Addr} {ph : Ph} {m : Str → Option Value} {il : List (Addr × Nat)} {s : Shared}
theorem GSt.lt (x : GSt G L ph m il s) {b : Addr} (hb : b ∈ L :: il.map (·.1)) : b < s.heap.objs.size := by
  rcases List.mem_cons.mp hb with e | e
  · rw [e]; exact x.ns.lt
  · obtain ⟨p, hp, rfl⟩ := List.mem_map.mp e
    obtain ⟨o, e, _⟩ := x.it p hp
    exact Heap.lt_size e
/-- nothing changed but tokens and new things -/
theorem GSt.kept (x : GSt G L ph m il s) {h' : Heap} {tk : Nat} (k : ∀ b o, s.heap.get? b = some o → h'.get? b = some o) (z : s.heap.objs.size ≤ h'.objs.size) : GSt G L ph m il { s with heap := h', toks := tk } where
  mv := ⟨x.mv.os, x.mv.gens, fun b o e n => k b o (x.mv.keep b o e n), Nat.le_trans x.mv.sz z⟩
  bs := fun b o e => k b o (x.bs b o e)
  ns := x.ns.keeps k
  it := fun p hp => (x.it p hp).at fun o e => k _ o e
  own := x.own
  nd := x.nd
/-- an iterator turns -/
theorem GSt.turn {a : Addr} {i j : Nat} (x : GSt G L ph m ((a, i) :: il) s) {h' : Heap} {tk : Nat} (n : h'.IsTupleIter a G.t j) (k : Heap.ExtBut a s.heap h') (z : s.heap.objs.size ≤ h'.objs.size) : GSt G L ph m ((a, j) :: il) { s with heap := h', toks := tk } := by
  have ha := x.own a (List.mem_cons_of_mem _ List.mem_cons_self)
  have nd := x.nd
  simp only [List.map_cons, List.nodup_cons, List.mem_cons, not_or] at nd
  refine ⟨⟨x.mv.os, x.mv.gens, fun b o e n2 => k b o ?_ (x.mv.keep b o e n2), Nat.le_trans x.mv.sz z⟩, fun b o e => k b o (fun z => by rw [z, ha.2] at e; cases e) (x.bs b o e), x.ns.extBut k nd.1.1, fun p hp => ?_, x.own, x.nd⟩
  · rintro rfl
    rcases ha.1 with z | z
    · exact n2 z
    · exact absurd (Nat.lt_of_lt_of_le (Heap.lt_size e) z) (Nat.lt_irrefl _)
  · rcases List.mem_cons.mp hp with e | e
    · subst e; exact n
    · refine (x.it p (List.mem_cons_of_mem _ e)).at fun o e2 => k _ o (fun z => nd.2.1 (List.mem_map.mpr ⟨p, e, z⟩)) e2
/-- an iterator is through -/
theorem GSt.drop {a : Addr} {i : Nat} (x : GSt G L ph m ((a, i) :: il) s) {h' : Heap} {tk : Nat} (k : Heap.ExtBut a s.heap h') (z : s.heap.objs.size ≤ h'.objs.size) : GSt G L ph m il { s with heap := h', toks := tk } := by
  have ha := x.own a (List.mem_cons_of_mem _ List.mem_cons_self)
  have nd := x.nd
  simp only [List.map_cons, List.nodup_cons, List.mem_cons, not_or] at nd
  refine ⟨⟨x.mv.os, x.mv.gens, fun b o e n2 => k b o ?_ (x.mv.keep b o e n2), Nat.le_trans x.mv.sz z⟩, fun b o e => k b o (fun z => by rw [z, ha.2] at e; cases e) (x.bs b o e), x.ns.extBut k nd.1.1, fun p hp => ?_, fun b hb => x.own b ?_, ?_⟩
  · rintro rfl
    rcases ha.1 with z | z
    · exact n2 z
    · exact absurd (Nat.lt_of_lt_of_le (Heap.lt_size e) z) (Nat.lt_irrefl _)
  · refine (x.it p (List.mem_cons_of_mem _ hp)).at fun o e2 => k _ o (fun z => nd.2.1 (List.mem_map.mpr ⟨p, hp, z⟩)) e2
  · rcases List.mem_cons.mp hb with e | e
    · rw [e]; exact List.mem_cons_self
    · exact List.mem_cons_of_mem _ (List.mem_cons_of_mem _ e)
  · exact List.nodup_cons.mpr ⟨nd.1.2, nd.2.2⟩
/-- a new iterator -/
theorem GSt.made (x : GSt G L ph m il s) : GSt G L ph m ((s.heap.objs.size, 0) :: il) { s with heap := s.heap.push { cls := .type "tuple_iterator", data := .fields #[.ref G.t, .int 0 0] } } := by
  have y := x.kept (h' := s.heap.push { cls := .type "tuple_iterator", data := .fields #[.ref G.t, .int 0 0] }) (tk := s.toks) (fun b o e => Heap.get?_push_of_some _ e) (by rw [Heap.size_push]; omega)
  have hb : ∀ b o, G.bh.get? b = some o → b < s.heap.objs.size := fun b o e => Heap.lt_size (x.bs b o e)
  have fresh : ∀ {h : Heap}, (∀ b o, h.get? b = some o → b < s.heap.objs.size) → h.get? s.heap.objs.size = none := fun {h} k => by
    cases e : h.get? s.heap.objs.size with
    | none => rfl
    | some o => exact absurd (k _ o e) (Nat.lt_irrefl _)
  refine ⟨y.mv, y.bs, y.ns, fun p h => ?_, fun b h => ?_, ?_⟩
  · rcases List.mem_cons.mp h with e | e
    · subst e; exact ⟨_, Heap.get?_push_size _ rfl, rfl, rfl⟩
    · exact y.it p e
  · rcases List.mem_cons.mp h with e | e
    · rw [e]; exact x.own L List.mem_cons_self
    · rcases List.mem_cons.mp e with e | e
      · rw [e]; exact ⟨.inr x.mv.sz, fresh hb⟩
      · exact x.own b (List.mem_cons_of_mem _ e)
  · have n := x.nd
    rw [List.nodup_cons] at n ⊢
    refine ⟨fun h => ?_, List.nodup_cons.mpr ⟨fun h => ?_, n.2⟩⟩
    · rcases List.mem_cons.mp h with e | e
      · exact absurd x.ns.lt (by rw [e]; exact Nat.lt_irrefl _)
      · exact n.1 e
    · exact absurd (x.lt (List.mem_cons_of_mem _ h)) (Nat.lt_irrefl _)
end
/-! ### for over a tuple, in a generator -/
section
variable {M : Model} {A : Around} {Φ : End → Shared → Prop} {c : Code} {fs : List Frame} {s : Shared} {env : Env}
end
section
variable {prog : Program} {w : World} {A : Around} {Φ : End → Shared → Prop} {fs : List Frame} {s : Shared} {env : Env}
end
end GP
namespace GP
open PySem PySem.Spec PyProof.Rows GenW
open Sem (wp)

section
variable {M : Model} {A : Around} {Φ : End → Shared → Prop} {c : Code} {fs : List Frame} {s : Shared} {env : Env} {K : Flow → Sem PySem.Fin} {H : Value → Sem PySem.Fin} {gd : Bool → Bool} {lv : List Value → List Value}
end

/-! ### all_rows -/
structure ArEnv (G : Gb) (env : Env) : Prop where
  kind : env.scope.kind = .function
  n1 : env.kindOf "first" = some .local
  n2 : env.kindOf "second" = some .local
  n3 : env.kindOf "third" = some .local
  nv : env.kindOf "VALUES" = some .globalImplicit
  glob : ∃ mg, G.bh.Ns env.globals mg ∧ mg "VALUES" = some (.ref G.t)
  tup : G.bh.IsTuple G.t G.its
  size : G.its.size = 4
  co : env.scope.isCoroutine = false
  ia : interactive env = false
/-- the row that is due when r are left -/
def Row (its : Array Value) (r : Nat) (h : Heap) (q : Addr) : Prop := ∃ i j k a b c, i < 4 ∧ j < 4 ∧ k < 4 ∧ r + 16 * i + 4 * j + k = 64 ∧ its[i]? = some a ∧ its[j]? = some b ∧ its[k]? = some c ∧ h.IsTuple q #[a, b, c]
def Phi (M : Model) (A : Around) (G : Gb) : Nat → Ph → End → Shared → Prop
  | 0, ph, e, s' => e = .ret (.ok (.ret .none)) ∧ Mv ph s'
  | r + 1, ph, e, s' => ∃ q l k c p fs, e = .susp (.ref q) false l k c p fs ∧ fs.any Frame.guarded = false ∧ Mv ph s' ∧ Row G.its (r + 1) s'.heap q ∧ ph.s.heap.objs.size ≤ q ∧
      ∃ pins : List (Addr × Obj), (∀ p ∈ pins, s'.heap.get? p.1 = some p.2 ∧ (p.1 ∈ ph.own ∨ ph.s.heap.objs.size ≤ p.1) ∧ (∀ v, p.2.data ≠ .cell v) ∧ p.1 ≠ q) ∧
        ∀ s'' : Shared, (∀ p ∈ pins, s''.heap.get? p.1 = some p.2) → (∀ b o, G.bh.get? b = some o → s''.heap.get? b = some o) → Sg M A (Phi M A G r ⟨s'', pins.map (·.1)⟩) c (k (.send .none)) fs s''
section
variable {prog : Program} {w : World} {A : Around} {G : Gb} {env : Env} {L : Addr}
theorem GSt.glob {ph : Ph} {m : Str → Option Value} {il : List (Addr × Nat)} {s : Shared} (x : GSt G L ph m il s) (E : ArEnv G env) {A : Around} {M : Model} {px : Pos} {Q : Value → Shared → Prop} {Ex : Value → Shared → Prop} (h : Q (.ref G.t) s) : wpAny M A (eval (.Name "VALUES" px) env) Q Ex s := by
  obtain ⟨mg, hg, hv⟩ := E.glob
  exact Calls.Name_function_global E.kind E.nv (Calls.loadGlobal_global (hg.keeps x.bs) hv h)
end
end GP
namespace GP
open PySem PySem.Spec PyProof.Rows GenW
open Sem (wp)

/-- a generator that will hand out the last r rows; its own things -/
def Rdy (M : Model) (A : Around) (G : Gb) (r : Nat) (pins : List (Addr × Obj)) (gs : GenState) : Prop :=
  ∀ s'' : Shared, (∀ p ∈ pins, s''.heap.get? p.1 = some p.2) → (∀ b o, G.bh.get? b = some o → s''.heap.get? b = some o) → match gs with
    | .fresh c => Sg M A (Phi M A G r ⟨s'', pins.map (·.1)⟩) c (M.den c) [] s''
    | .suspended k _ c _ fs _ => Sg M A (Phi M A G r ⟨s'', pins.map (·.1)⟩) c (k (.send .none)) fs s''
    | _ => False
section
variable {M : Model} {G : Gb} {A : Around} {r : Nat} {pins : List (Addr × Obj)}
end
section
variable {prog : Program} {w : World} {G : Gb} {A : Around} {r : Nat} {pins : List (Addr × Obj)} {E : Value → Shared → Prop} {s : Shared}
end
end GP
namespace GP
open PySem PySem.Spec PyProof.Rows GenW L2

/-- what the loop knows of its generator, i rows being out -/
structure ArT (X : Cx) (G : Gb) (pins : List (Addr × Obj)) (a g i : Nat) (H : Hp) (s : Shared) (ap : List (Addr × Obj)) (gs : GenState) : Prop where
  gen : s.heap.IsGen a g
  st : s.gens[g]? = some gs
  rdy : Rdy (model X.prog X.w) X.A.in1 G (64 - i) ap gs
  le : i ≤ 64
  awake : i = 0 ∨ susp gs = true
  ga : FpOk X pins H a
  pin : ∀ p ∈ ap, s.heap.get? p.1 = some p.2 ∧ FpOk X pins H p.1 ∧ (∀ v, p.2.data ≠ .cell v) ∧ p.1 ≠ a
def ArTurn (X : Cx) (G : Gb) (pins : List (Addr × Obj)) (a g i : Nat) (H : Hp) (s : Shared) : Prop := ∃ ap gs, ArT X G pins a g i H s ap gs
section
variable {X : Cx} {pins : List (Addr × Obj)} {σ : L2.St} {H : Hp} {s : Shared} {f tv : Addr}
end
end GP
namespace GP
open PySem PySem.Spec PyProof.Rows GenW L2
section
variable {X : Cx} {pins : List (Addr × Obj)} {σ : L2.St} {H : Hp} {s : Shared} {tv : Addr} {its : Array Value} {a g i : Nat}
end
end GP
namespace GP
open PySem PySem.Spec PyProof.Rows GenW L2
section
variable {X : Cx} {pins : List (Addr × Obj)} {σ : L2.St} {H : Hp} {s : Shared} {tv : Addr} {its : Array Value} {a g i : Nat} {G : Gb}
/-- the loop's own things, pinned -/
def arPins (a : Addr) (go : Obj) (ap : List (Addr × Obj)) : List (Addr × Obj) := (a, go) :: ap
theorem ArT.pinned {ap : List (Addr × Obj)} {gs : GenState} {go : Obj} (I : Inv X pins σ H s) (T : ArT X G pins a g i H s ap gs) (h : s.heap.get? a = some go) : Inv X (pins ++ arPins a go ap) σ H s :=
  I.pins_of fun p hp => (List.mem_append.mp hp).elim (fun z => I.pin p (List.mem_append_right _ z)) fun z => by
    rcases List.mem_cons.mp z with e | e
    · subst e
      obtain ⟨o, nm, qn, ho, _, hd, _⟩ := T.gen
      rw [h] at ho; cases ho
      obtain ⟨f0, f1, f2, _⟩ := T.ga
      exact ⟨h, f0, f1, f2, fun v z => by rw [hd] at z; cases z⟩
    · obtain ⟨h1, ⟨f0, f1, f2, _⟩, h3, _⟩ := T.pin p e
      exact ⟨h1, f0, f1, f2, h3⟩
theorem ArT.after {ap : List (Addr × Obj)} {gs : GenState} {go : Obj} {σ' : L2.St} {H' : Hp} {s' : Shared} (T : ArT X G pins a g i H s ap gs) (h : s.heap.get? a = some go) (I : Inv X (pins ++ arPins a go ap) σ' H' s') (z : Sleeps s.gens s'.gens) (hs : susp gs = true) : ArTurn X G pins a g i H' s' := by
  have pin : ∀ p ∈ arPins a go ap, s'.heap.get? p.1 = some p.2 ∧ H' p.1 = none := fun p hp =>
    let q := I.pin p (List.mem_append_right _ (List.mem_append_right _ hp))
    ⟨q.1, q.2.1⟩
  have fp : ∀ b, H' b = none → FpOk X pins H b → FpOk X pins H' b := fun b n ⟨_, f⟩ => ⟨n, f⟩
  obtain ⟨o, nm, qn, ho, r1, r2, r3⟩ := T.gen
  rw [h] at ho; cases ho
  refine ⟨ap, gs, ⟨go, nm, qn, (pin (a, go) List.mem_cons_self).1, r1, r2, r3⟩, z g gs T.st hs, T.rdy, T.le, .inr hs, fp a (pin (a, go) List.mem_cons_self).2 T.ga, fun p hp => ?_⟩
  obtain ⟨h1, h2, h3, h4⟩ := T.pin p hp
  obtain ⟨p1, p2⟩ := pin p (List.mem_cons_of_mem _ hp)
  exact ⟨p1, fp _ p2 h2, h3, h4⟩
end
section
variable {X : Cx} {f tv : Addr}
end
end GP
namespace GP
open PySem PySem.Spec PyProof.Rows GenW L2
section
variable {X : Cx} {f tv : Addr}
theorem ArTurn.fp {pins : List (Addr × Obj)} {G : Gb} {a g i : Nat} {H : Hp} {s : Shared} {ap : List (Addr × Obj)} {gs : GenState} (T : ArT X G pins a g i H s ap gs) : ∀ b ∈ a :: ap.map (·.1), FpOk X pins H b ∧ b < s.heap.objs.size := fun b hb => by
  rcases List.mem_cons.mp hb with e | e
  · rw [e]
    obtain ⟨o, _, _, ho, _⟩ := T.gen
    exact ⟨T.ga, Heap.lt_size ho⟩
  · obtain ⟨p, hp, e⟩ := List.mem_map.mp e
    rw [← e]
    exact ⟨(T.pin p hp).2.1, Heap.lt_size (T.pin p hp).1⟩
end
end GP
namespace T2
open PySem L2

/-! ### the rows that all_rows hands out -/
section
variable {X : Cx} {g : Wd} {W : WY} {pos pf pc : Pos} {m : EM} {sts : List Stmt} {s1 : SM} {f tv : Addr}
variable {elt tgE : Expr} {ifs : List Expr} {scope : Scope} {own : List (Str × Nat)} {tt : BM}
end
end T2
namespace T2
open PySem L2

/-! ### values, rows, truth values, conditions, as plain Lean -/
inductive C3 where
  | z | o | t
deriving DecidableEq, Repr
def C3.i : C3 → Int
  | .z => 0
  | .o => 1
  | .t => 2
abbrev Vl := Option C3
def Vl.d : Vl → D
  | none => .non
  | some c => .int c.i
structure Rw where
  x : Vl
  y : Vl
  z : Vl
deriving DecidableEq, Repr
def Rw.d (r : Rw) : D := .tup [Vl.d r.x, Vl.d r.y, Vl.d r.z]
def Rw.at (r : Rw) : C3 → Vl
  | .z => r.x
  | .o => r.y
  | .t => r.z
inductive T4 where
  | f | u | t | e
deriving DecidableEq, Repr
def T4.i : T4 → Int
  | .f => 0
  | .u => 1
  | .t => 2
  | .e => 3
inductive Cnd where
  | alw
  | unk (c : C3)
  | eql (c v : C3)
  | blw (c v : C3)
  | quo (c d v : C3)
  | no (x : Cnd)
  | an (x y : Cnd)
  | orr (x y : Cnd)
deriving DecidableEq
def Cnd.d : Cnd → D
  | .alw => .tup [.str "always"]
  | .unk c => .tup [.str "unknown", .int c.i]
  | .eql c v => .tup [.str "equal", .int c.i, .int v.i]
  | .blw c v => .tup [.str "below", .int c.i, .int v.i]
  | .quo c d v => .tup [.str "quotient", .int c.i, .int d.i, .int v.i]
  | .no x => .tup [.str "not", x.d]
  | .an x y => .tup [.str "and", x.d, y.d]
  | .orr x y => .tup [.str "or", x.d, y.d]
/-- levels -/
def Cnd.lv : Cnd → Nat
  | .no x => x.lv + 1
  | .an x y => max x.lv y.lv + 1
  | .orr x y => max x.lv y.lv + 1
  | _ => 1
/-- has a quotient -/
def Cnd.hq : Cnd → Bool
  | .quo .. => true
  | .no x => x.hq
  | .an x y => x.hq || y.hq
  | .orr x y => x.hq || y.hq
  | _ => false
def T4.no : T4 → T4
  | .f => .t
  | .u => .u
  | .t => .f
  | .e => .e
def T4.an : T4 → T4 → T4
  | .f, _ => .f
  | .e, _ => .e
  | _, .e => .e
  | _, .f => .f
  | .t, .t => .t
  | _, _ => .u
def T4.or : T4 → T4 → T4
  | .t, _ => .t
  | .e, _ => .e
  | _, .e => .e
  | _, .t => .t
  | .f, .f => .f
  | _, _ => .u
def T4.ob (b : Bool) : T4 := if b then .t else .f
/-- what a condition is for a row -/
def Cnd.ev (r : Rw) : Cnd → T4
  | .alw => .t
  | .unk c => .ob (r.at c).isNone
  | .eql c v => match r.at c with
    | none => .u
    | some a => .ob (a.i == v.i)
  | .blw c v => match r.at c with
    | none => .u
    | some a => .ob (decide (a.i < v.i))
  | .quo c d v => match r.at d with
    | some .z => .e
    | none => .u
    | some b => match r.at c with
      | none => .u
      | some a => .ob (a.i / b.i == v.i)
  | .no x => (x.ev r).no
  | .an x y => (x.ev r).an (y.ev r)
  | .orr x y => (x.ev r).or (y.ev r)
end T2
namespace T2
open PySem L2
def rankN : List Str := ["rank"]
/-! ### words -/
theorem ixT {l : List D} {i : Nat} {d : D} {M : MH} (h : l[i]? = some d) : dIxA (.tup l) (.int i) M = .ok d M := by
  have hl : i < l.length := (List.getElem?_eq_some_iff.mp h).1
  have ha : atI l (i : Int) = some d := by
    unfold atI ixN
    rw [if_pos (by omega), if_pos (by omega)]
    exact h
  unfold dIxA dIx items
  dsimp only
  rw [ha]
theorem ixT0 {a : D} {l : List D} {M : MH} : dIxA (.tup (a :: l)) (.int 0) M = .ok a M := ixT (i := 0) rfl
theorem ixT1 {a b : D} {l : List D} {M : MH} : dIxA (.tup (a :: b :: l)) (.int 1) M = .ok b M := ixT (i := 1) rfl
theorem ixT2 {a b c : D} {l : List D} {M : MH} : dIxA (.tup (a :: b :: c :: l)) (.int 2) M = .ok c M := ixT (i := 2) rfl
theorem ixT3 {a b c d : D} {l : List D} {M : MH} : dIxA (.tup (a :: b :: c :: d :: l)) (.int 3) M = .ok d M := ixT (i := 3) rfl
/-! ### the program's truth -/
def tv (cT : Nat) (r : Int) : D := .ins cT rankN [.int r]
section
variable {cT cZ : Nat} {isi : Tg → Tg → Option Bool} {r : Rw} {k : Nat} {M : MH}
end
/-! ### the laws' truth -/
section
variable {r : Rw} {k : Nat} {M : MH}
end
/-! ### a condition is drawn -/
end T2
namespace T2
open PySem L2

/-! ### a def that changes nothing: what it hands back is frozen, what it has made beside is forgotten -/
open Classical in
noncomputable def frzP (f : List D → MH → Res D) : List D → MH → Res D := fun ds M => match f ds M with
  | .ok d M' => if M'.take M.length = M then (match fzA (rfz M' M.length 4) d with
    | some d' => .ok d' M
    | none => .bad) else .bad
  | .exc c ns xs M' => if M'.take M.length = M then (match fzAs (rfz M' M.length 4) xs with
    | some xs' => .exc c ns xs' M
    | none => .bad) else .bad
  | .bad => .bad
theorem frzP_ok {f : List D → MH → Res D} {ds : List D} {M G : MH} {d d' : D} (h : f ds M = .ok d (M ++ G)) (hd : fzA (rfz (M ++ G) M.length 4) d = some d') : frzP f ds M = .ok d' M := by
  unfold frzP
  rw [h]
  dsimp only
  rw [if_pos (by simp), hd]
theorem fzP_new {M M' : MH} {p k : Nat} {xs : List D} (hp : M.length ≤ p) (hG : M'[p]? = some (.lst xs)) (hx : ∀ a ∈ xs, Pd k a) : fzA (rfz M' M.length 4) (.ref p) = some (.fro xs) := by
  show rfz M' M.length 4 p = _
  unfold rfz
  rw [if_neg (by omega), hG]
  dsimp only
  rw [fzs_pd hx]
  rfl
theorem frzP_new {f : List D → MH → Res D} {ds : List D} {M G : MH} {p k : Nat} {xs : List D} (h : f ds M = .ok (.ref p) (M ++ G)) (hp : M.length ≤ p) (hG : (M ++ G)[p]? = some (.lst xs)) (hx : ∀ a ∈ xs, Pd k a) : frzP f ds M = .ok (.fro xs) M := frzP_ok h (fzP_new hp hG hx)
theorem frzP_fro {f : List D → MH → Res D} {ds : List D} {M G : MH} {k : Nat} {xs : List D} (h : f ds M = .ok (.fro xs) (M ++ G)) (hx : ∀ a ∈ xs, Pd k a) : frzP f ds M = .ok (.fro xs) M := frzP_ok h (by
  show (fzAs _ xs).map D.fro = _
  rw [fzs_pd hx]; rfl)
theorem fn_frzP {P : Program} {w : World} {K : PySem.W.Frag} {mg : Str → Option Value} {base : Heap} {CX : CXT} {g : Wd} {f : Addr} {fd : FuncData} {ps : List Str} {k n : Nat} {m : List D → MH → Res D} (F : FnOk P w K mg base CX k f fd ps (spD g n m)) : FnOk P w K mg base CX k f fd ps (spD g n (frzP m)) :=
  F.imp fun vs H Q E ⟨hl, F, M, ds, R, r, q⟩ => ⟨hl, F, M, ds, R, r, by
    unfold frzP at q
    cases hm : m ds M with
    | ok d M' =>
      rw [hm] at q
      dsimp only at q
      split at q
      · rename_i hc
        split at q
        · rename_i d' hd
          intro F1 H1 v g1 R1 rv
          have e : M' = M ++ M'.drop M.length := by
            conv => lhs; rw [← List.take_append_drop M.length M', hc]
          have R1' : RelM g F1 (M ++ M'.drop M.length) H1 := by rw [← e]; exact R1
          exact q _ H1 v (g1.cut (by rw [R.len]; exact Nat.le_refl _)) (R1'.cut R.low) (fzA_rep (rfz_rep R1 4) rv hd)
        · exact q.elim
      · exact q.elim
    | exc c ns xs M' =>
      rw [hm] at q
      dsimp only at q
      split at q
      · rename_i hc
        split at q
        · rename_i xs' hd
          intro F1 H1 v g1 R1 rx
          have e : M' = M ++ M'.drop M.length := by
            conv => lhs; rw [← List.take_append_drop M.length M', hc]
          have R1' : RelM g F1 (M ++ M'.drop M.length) H1 := by rw [← e]; exact R1
          refine q _ H1 v (g1.cut (by rw [R.len]; exact Nat.le_refl _)) (R1'.cut R.low) ?_
          cases rx with
          | no => cases hd; exact .no
          | so h hne hl r =>
            have r' := fzAs_rep (k := M.length) (rfz_rep R1 4) r hd
            exact .so h hne hl r'
        · exact q.elim
      · exact q.elim
    | bad => rw [hm] at q; exact q.elim⟩
/-! ### small things that laws want -/
theorem pd_vl {k : Nat} (a : Vl) : Pd (k + 1) (Vl.d a) := by
  cases a with
  | none => exact .inl rfl
  | some c => exact pd_int
theorem pd_row {k : Nat} (r : Rw) : Pd (k + 2) r.d := pd_3 (pd_vl _) (pd_vl _) (pd_vl _)
theorem Pd.mono {k m : Nat} {d : D} (h : Pd k d) (hm : k ≤ m) : Pd m d := by
  obtain ⟨j, rfl⟩ : ∃ j, m = k + j := ⟨m - k, by omega⟩
  clear hm
  induction j with
  | zero => exact h
  | succ j ih => exact ih.up
/-! ### all rows, as the laws write them -/
end T2
namespace T2
open PySem L2

/-! ### plain data without truth values: == is equality -/
def Nb : Nat → D → Prop
  | 0, _ => False
  | k + 1, x => x = .non ∨ (∃ i, x = .int i) ∨ (∃ s, x = .str s ∧ PyData.strOk s = true) ∨ (∃ xs, x = .tup xs ∧ ∀ a ∈ xs, Nb k a) ∨ ∃ xs, x = .fro xs ∧ ∀ a ∈ xs, Nb k a
theorem nb_non {k : Nat} : Nb (k + 1) .non := .inl rfl
theorem nb_int {k : Nat} {i : Int} : Nb (k + 1) (.int i) := .inr (.inl ⟨i, rfl⟩)
theorem nb_str {k : Nat} {s : Str} (h : PyData.strOk s = true) : Nb (k + 1) (.str s) := .inr (.inr (.inl ⟨s, rfl, h⟩))
theorem nb_tup {k : Nat} {xs : List D} (h : ∀ a ∈ xs, Nb k a) : Nb (k + 1) (.tup xs) := .inr (.inr (.inr (.inl ⟨xs, rfl, h⟩)))
theorem nb_fro {k : Nat} {xs : List D} (h : ∀ a ∈ xs, Nb k a) : Nb (k + 1) (.fro xs) := .inr (.inr (.inr (.inr ⟨xs, rfl, h⟩)))
theorem Nb.up : ∀ {k : Nat} {x : D}, Nb k x → Nb (k + 1) x
  | 0, _, h => h.elim
  | k + 1, x, h => by
    rcases h with rfl | ⟨i, rfl⟩ | ⟨s, rfl, ho⟩ | ⟨xs, rfl, ha⟩ | ⟨xs, rfl, ha⟩
    · exact nb_non
    · exact nb_int
    · exact nb_str ho
    · exact nb_tup fun a m => (ha a m).up
    · exact nb_fro fun a m => (ha a m).up
theorem Nb.mono {k m : Nat} {d : D} (h : Nb k d) (hm : k ≤ m) : Nb m d := by
  obtain ⟨j, rfl⟩ : ∃ j, m = k + j := ⟨m - k, by omega⟩
  clear hm
  induction j with
  | zero => exact h
  | succ j ih => exact ih.up
theorem nb_P : ∀ {k : Nat} {x : D}, Nb k x → ∃ p, (∀ rf, toPa rf x = some p) ∧ PyData.canLay0 p = true ∧ PyData.depth p ≤ k
  | 0, _, h => h.elim
  | k + 1, x, h => by
    have key : ∀ ys : List D, (∀ a ∈ ys, Nb k a) → ∃ ps, (∀ rf, toPas rf ys = some ps) ∧ PyData.canLayAll0 ps = true ∧ PyData.depthAll ps ≤ k := by
      intro ys
      induction ys with
      | nil => exact fun _ => ⟨[], fun _ => rfl, rfl, by simp [PyData.depthAll]⟩
      | cons y ys ih =>
        intro h
        obtain ⟨p, h1, h2, h3⟩ := nb_P (h y (by simp))
        obtain ⟨ps, g1, g2, g3⟩ := ih fun a m => h a (by simp [m])
        refine ⟨p :: ps, fun rf => by rw [toPas, h1, g1], by rw [PyData.canLayAll0, h2, g2]; rfl, ?_⟩
        rw [PyData.depthAll]; omega
    rcases h with rfl | ⟨i, rfl⟩ | ⟨s, rfl, ho⟩ | ⟨xs, rfl, ha⟩ | ⟨xs, rfl, ha⟩
    · exact ⟨.none, fun _ => rfl, rfl, by simp [PyData.depth]⟩
    · exact ⟨.int i, fun _ => rfl, rfl, by simp [PyData.depth]⟩
    · exact ⟨.str s, fun _ => rfl, ho, by simp [PyData.depth]⟩
    · obtain ⟨ps, g1, g2, g3⟩ := key xs ha
      refine ⟨.tuple ps, fun rf => by rw [toPa, g1]; rfl, by rw [PyData.canLay0]; exact g2, ?_⟩
      rw [PyData.depth]; omega
    · obtain ⟨ps, g1, g2, g3⟩ := key xs ha
      refine ⟨.list ps, fun rf => by rw [toPa, g1]; rfl, by rw [PyData.canLay0]; exact g2, ?_⟩
      rw [PyData.depth]; omega
theorem nb_eqv : ∀ {k : Nat} {x y : D} {rf : Nat → Option PyData} {p q : PyData}, Nb k x → Nb k y → toPa rf x = some p → toPa rf y = some q → (PyData.eqv p q = true ↔ x = y)
  | 0, _, _, _, _, _, h, _, _, _ => h.elim
  | k + 1, x, y, rf, p, q, hx, hy, e1, e2 => by
    have key : ∀ xs ys : List D, (∀ a ∈ xs, Nb k a) → (∀ a ∈ ys, Nb k a) → ∀ ps qs, toPas rf xs = some ps → toPas rf ys = some qs → (PyData.eqvAll ps qs = true ↔ xs = ys) := by
      intro xs
      induction xs with
      | nil =>
        intro ys _ _ ps qs h1 h2
        cases h1
        cases ys with
        | nil => cases h2; simp [PyData.eqvAll]
        | cons y ys =>
          rw [toPas] at h2
          split at h2
          · cases h2; simp [PyData.eqvAll]
          · cases h2
      | cons x xs ih =>
        intro ys ha hb ps qs h1 h2
        rw [toPas] at h1
        split at h1
        · rename_i p' ps' e3 e4
          cases h1
          cases ys with
          | nil => cases h2; simp [PyData.eqvAll]
          | cons y ys =>
            rw [toPas] at h2
            split at h2
            · rename_i q' qs' e5 e6
              cases h2
              rw [PyData.eqvAll, Bool.and_eq_true, nb_eqv (ha x (by simp)) (hb y (by simp)) e3 e5, ih ys (fun a m => ha a (by simp [m])) (fun a m => hb a (by simp [m])) ps' qs' e4 e6]
              simp
            · cases h2
        · cases h1
    rcases hx with rfl | ⟨i, rfl⟩ | ⟨s, rfl, ho⟩ | ⟨xs, rfl, ha⟩ | ⟨xs, rfl, ha⟩ <;> rcases hy with rfl | ⟨j, rfl⟩ | ⟨s', rfl, ho'⟩ | ⟨ys, rfl, hb⟩ | ⟨ys, rfl, hb⟩ <;>
      simp only [toPa, Option.some.injEq, Option.map_eq_some_iff] at e1 e2
    all_goals first
      | (obtain ⟨ps, g1, rfl⟩ := e1; obtain ⟨qs, g2, rfl⟩ := e2; simp only [PyData.eqv, key xs ys ha hb ps qs g1 g2, D.tup.injEq, D.fro.injEq]; done)
      | (obtain ⟨ps, g1, rfl⟩ := e1; obtain ⟨qs, g2, rfl⟩ := e2; simp [PyData.eqv]; done)
      | (obtain ⟨ps, g1, rfl⟩ := e1; subst e2; simp [PyData.eqv]; done)
      | (obtain ⟨qs, g2, rfl⟩ := e2; subst e1; simp [PyData.eqv]; done)
      | (subst e1; subst e2; simp [PyData.eqv]; done)
open Classical in
theorem eq_nb {k : Nat} {x y : D} (hk : k ≤ 64) (hx : Nb k x) (hy : Nb k y) {M : MH} : dEq x y M = .ok (.bl (decide (x = y))) M := by
  obtain ⟨p, h1, h2, h3⟩ := nb_P hx
  obtain ⟨q, g1, g2, g3⟩ := nb_P hy
  unfold dEq toP
  have e := nb_eqv hx hy (h1 (rfOf M 4)) (g1 (rfOf M 4))
  rw [h1, g1]
  dsimp only
  rw [if_pos]
  · congr 2
    rw [Bool.eq_iff_iff, e, decide_eq_true_iff]
  · unfold SeqAt.shaped
    rw [h2, g2]
    simp only [Bool.true_and, decide_eq_true_eq]
    exact ⟨by omega, by omega⟩
/-! ### rows by their places -/
end T2
namespace T2
open PySem L2 PyProof.Rows

/-! ### list * int -/
section
variable {X : Cx} {g : Wd} {W : WY} {a b : Expr} {pos : Pos} {m1 m2 : EM}
end

/-! ### def f(a, .., *v, k, ..): called with plain arguments and every keyword -/
def packRK (n : Nat) (ds zs : List D) : List D := ds.take n ++ zs ++ [.tup (ds.drop n)]
def FnRK (P : Program) (w : World) (K : PySem.W.Frag) (mg : Str → Option Value) (base : Heap) (CX : CXT) (k : Nat) (f : Addr) (ks : List Str) (sp : List V → List V → Hp → VK → XK → Prop) : Prop :=
  ∀ (A : Around) (outer : List Env) (s : Shared) (H : Hp) (us : List Value) (vs : List V) (ws : List Value) (zs : List V) (Q : VK) (E : XK), Room k A → Env0 P w K mg base A outer s H → Vals vs us → Vals zs ws → zs.length = ks.length → sp vs zs H Q E →
    codeAny (model P w) A (.call (.ref f) ⟨us, ks.zip ws⟩) (CR CX outer P w H s Q E) s
theorem FnRK.mono {P : Program} {w : World} {K : PySem.W.Frag} {mg : Str → Option Value} {base : Heap} {CX : CXT} {j k : Nat} {f : Addr} {ks : List Str} {sp : List V → List V → Hp → VK → XK → Prop} (F : FnRK P w K mg base CX j f ks sp) (h : j ≤ k) : FnRK P w K mg base CX k f ks sp :=
  fun A outer s H us vs ws zs Q E hr => F A outer s H us vs ws zs Q E (hr.mono h)
section
variable {CX : CXT} {P : Program} {w : World} {K : PySem.W.Frag} {mg : Str → Option Value} {base : Heap} {k : Nat} {f : Addr} {name qual : Str} {params : Arguments} {body : List Stmt} {scope : Scope} {dV kV doc pm cdv ct oc : Value} {an od : Option Addr}
  {osl : Array (Option Value)} {N ps ks : List Str}
end
def fCallRK (n : Nat) (f : List D → MH → Res D) (ds zs : List D) (M : MH) : Res D := if n ≤ ds.length ∧ ds.length ≤ 1000 then f (packRK n ds zs) M else .bad
def eCallRK (n k : Nat) (f : List D → MH → Res D) (ma mk : AM) : EM := fun e M => (ma e M).bind fun ds M1 => (mk e M1).bind fun zs M2 => if zs.length = k then fCallRK n f ds zs M2 else .bad
section
variable {X : Cx} {g : Wd} {W : WY} {e : Expr} {es : List Expr} {pos p : Pos} {ma mk : AM} {k n : Nat} {f : Addr} {m : List D → MH → Res D} {x : Str} {kws : List Keyword} {ks : List Str}
end
end T2
namespace T2
open PySem L2 PyProof.Rows

/-! ### continue; chained comparisons -/
section
variable {X : Cx} {g : Wd} {W : WY} {a b c o : Expr} {pos p apos : Pos} {m1 m2 m3 : EM} {ma : AM} {es : List Expr}
/-! ### xs.insert(i, y); xs.clear() -/
def insD (ds : List D) (i : Int) (y : D) : List D := ds.take i.toNat ++ [y] ++ ds.drop i.toNat
def eIns (mo mi my : EM) : EM := fun e M => (mo e M).bind fun x M1 => match x with
  | .ref n => match M1[n]? with
    | some (.lst _) => (eCons mi (eCons my eNil) e M1).bind fun ys M2 => match M2[n]?, ys with
      | some (.lst ds), [.int i, y] => if ds.length < big ∧ 0 ≤ i ∧ i < 2 ^ 63 then .ok .non (M2.set n (.lst (insD ds i y))) else .bad
      | _, _ => .bad
    | _ => .bad
  | _ => .bad
end
end T2
namespace T2
open PySem L2 PyProof.Rows
/-! ### x in o, by the own __contains__; len(o), by the own __len__ -/
def tOwnLen (C : Addr) (sp : Sp) (E : L2.St → XK) (t : TA) : TE := fun σ H Q => t σ H fun vs H1 => ∃ a dx fs, vs = [.ref a] ∧ H1 a = some (.ins C dx fs) ∧ sp vs H1 (fun v H2 => ∃ n : Int, v = .int n ∧ 0 ≤ n ∧ n < 2 ^ 63 ∧ Q (.int n) H2) (E σ)
section
variable {X : Cx} {CX : CXT} {k : Nat} {f C : Addr} {fd : FuncData} {ps : List Str} {sp : Sp} {E : L2.St → XK} {x m : Str} {p pos apos : Pos} {a b e o : Expr} {es : List Expr} {ta tb : TE} {t : TA}
theorem pe_lenOS (hs : PySem.W.findIn X.K (.ref C) "__len__" = some (some (.ref f))) (hf : PySem.W.isFn X.K (.ref f) = true) (G : FnOk X.prog X.w X.K X.mg X.base CX k f fd ps sp) (hr : Room (k + 1) X.A) (hb : Binds X.K fd ps []) (hx : ∀ σ, PassesAt CX X σ (E σ))
    (hg : Gl X "len") (hm : X.mg "len" = none) (ha : PA X (e :: es) t) (he : starEach (e :: es) X.env = (false, eval e X.env) :: starEach es X.env) (hpl : (backTo pos (starEach es X.env)).any (·.1) = false) : PE X (.Call (.Name "len" p) (e :: es) [] pos) (tOwnLen C sp E t) := by
  refine ⟨fun pins s σ H Q I h => wpAny_Call_Name_kw (ld_blt I hg hm (show bootBuiltins "len" = some (.builtin "len") by decide +kernel) ?_ (by decide) (by decide))⟩
  refine PyProof.Rows.callWith_builtin1 (thn (ha.run pos pins s σ H _ I h) fun us s1 ⟨vs, H1, I1, r1, q⟩ => ?_) he hpl
  obtain ⟨p, dx, fs, rfl, e1, q⟩ := q
  obtain ⟨u, rfl, ru⟩ := vals1 r1
  obtain rfl : u = Value.ref p := ru
  obtain ⟨mA, J, _⟩ := ins_get I1.hok e1
  obtain ⟨od, J, _⟩ := J.look
  obtain ⟨m, hF⟩ := I1.fr
  refine PySem.W.len_K hF I1.ok.mod.kin J hs hf (wpAny_mono (run_at (vs := [.ref p]) (us := [.ref p]) G hr.in1 I1.env0.in1 hb (hx σ) I1 (.cons rfl .nil) q) (fun v s' z => ?_) fun _ _ e => e)
  obtain ⟨y, H', I', ry, n, rfl, h0, h1, qy⟩ := z
  obtain ⟨tk, rfl⟩ := ry
  exact ⟨⟨h0, h1⟩, .int n, H', I'.tok _, ⟨_, rfl⟩, qy⟩
end
def eOwnIn (neg : Bool) (c : Nat) (f : List D → MH → Res D) (a b : EM) : EM := fun e M => (a e M).bind fun x M1 => (b e M1).bind fun y M2 => match instOf M2 y with
  | some (c1, _, _) => if c1 = c then (blR (f [y, x] M2)).bind fun r M3 => match r with
    | .bl k => .ok (.bl (if neg then !k else k)) M3
    | _ => .bad else .bad
  | none => .bad
def inR (r : Res D) : Res D := match r with
  | .ok (.int n) M => if 0 ≤ n ∧ n < 2 ^ 63 then .ok (.int n) M else .bad
  | .ok _ _ => .bad
  | r => r
def eLenO (c : Nat) (f : List D → MH → Res D) (ma : AM) : EM := eArgs (fun ds M => match ds with
  | [x] => (match instOf M x with
    | some (c1, _, _) => if c1 = c then inR (f [x] M) else .bad
    | none => .bad)
  | _ => .bad) ma
section
variable {X : Cx} {g : Wd} {W : WY} {a b o : Expr} {pos p apos : Pos} {m1 m2 : EM} {ma : AM} {es : List Expr} {k n : Nat} {f C : Addr} {fd : FuncData} {ps : List Str} {m : List D → MH → Res D} {x mn : Str} {c : Nat} {neg : Bool}
theorem de_lenO (hs : PySem.W.findIn X.K (.ref (g.ca c)) "__len__" = some (some (.ref f))) (hf : PySem.W.isFn X.K (.ref f) = true) (G : FnOk X.prog X.w X.K X.mg X.base (L2N.CX X.prog X.w) k f fd ps (spD g 1 m)) (hr : Room (k + 1) X.A) (tk : L2N.Takes X W.w) (hb : Binds X.K fd ps [])
    (hm : X.mg "len" = none) (ha : PA X (a :: es) (tA g W ma)) (hg : Gl X "len" := by rfl) (he : starEach (a :: es) X.env = (false, eval a X.env) :: starEach es X.env := by rfl) (hpl : (backTo pos (starEach es X.env)).any (·.1) = false := by rfl) : PE X (.Call (.Name "len" p) (a :: es) [] pos) (tD g W (eLenO c m ma)) :=
  pe_imp (pe_lenOS hs hf G hr hb (fun σ => L2N.passAt tk σ) hg hm ha he hpl) fun σ H Q ⟨F, e, M, RS, q⟩ => ⟨F, e, M, RS, q.bind fun ds M1 F1 H1 vs e1 g1 R1 rs q1 => by
    split at q1
    · rename_i x
      cases rs with | cons rx rt =>
      cases rt
      split at q1
      · rename_i c1 ns1 ds1 h1
        split at q1
        · rename_i hc
          subst hc
          obtain ⟨a, dx, vs, rfl, ha, hl, r⟩ := inst_at R1 rx h1
          refine ⟨a, dx, _, rfl, ha, rfl, F1, M1, [x], R1, .cons rx .nil, ?_⟩
          cases hm : m [x] M1 with
          | ok d M3 =>
            rw [hm] at q1
            cases d with
            | int n =>
              unfold inR at q1
              dsimp only at q1
              split at q1
              · rename_i hn
                exact fun F3 H3 v g3 R3 rv => by cases rv; exact ⟨n, rfl, hn.1, hn.2, q1 F3 H3 _ g3 R3 (.int _)⟩
              · exact q1.elim
            | _ => exact q1.elim
          | exc _ _ _ _ => rw [hm] at q1; exact q1
          | bad => rw [hm] at q1; exact q1.elim
        · exact q1.elim
      · exact q1.elim
    · exact q1.elim⟩
end
end T2
namespace T2
open PySem L2
section
variable {X : Cx} {g : Wd} {W : WY} {a b c : Expr} {pos : Pos} {m1 m2 m3 : EM}
end
end T2
namespace T2
open PySem PySem.Spec L2 PyProof.Rows HotX

/-! ### a comprehension over a list while an exception is handled -/
section
variable {prog : Program} {w : World} {A : Around} {E : Value → Shared → Prop} {s : Shared}
end
end T2
namespace T2
open PySem PySem.Spec L2 PyProof.Rows HotX
section
variable {X : Cx}
end
end T2
namespace T2
open PySem L2
section
variable {X : Cx} {g : Wd} {W : WY} {m1 m : EM} {tt : BM} {elt tgE iter : Expr} {ifs : List Expr} {scope : Scope} {own : List (Str × Nat)} {pos : Pos}
end
end T2
namespace T2
open PySem L2
/-! ### a row is drawn -/
def rowL : SM :=
    sSet 1 (eBin dAdd (eVar 1) (eTup (eCons (eBin dIxA (eTup (eCons (eC .non) (eCons (eC (.int 0)) (eCons (eC (.int 1)) (eCons (eC (.int 2)) (eCons (eC (.int 0)) (eCons (eC (.int 1)) (eNil)))))))) (eCall 2 drawM (eCons (eVar 0) (eCons (eC (.int 6)) (eNil))))) (eNil))))
def rowB : SM :=
    sSeq (sSet 1 (eTup (eNil)))
    (sSeq (sForI (iRange1 (eC (.int 3))) (tgName 2) rowL)
    (sRet (eVar 1)))
def rowM : List D → MH → Res D := fnB 3 rowB
theorem rowL_run {s : Bx} {R : MH} {xs : List D} {a2 : Option D} (hs : BxOk s) (hl : xs.length ≤ 10) : ∃ (v : Vl) (s' : Bx), BxOk s' ∧ rowL [some (.ref 0), some (.tup xs), a2] (s.obj :: R) = .nx [some (.ref 0), some (.tup (xs ++ [Vl.d v])), a2] (s'.obj :: R) := by
  obtain ⟨r, s1, e1, r0, r1, h1⟩ := draw_at (R := R) (n := 6) hs (by decide) (by decide)
  obtain ⟨v, hv⟩ : ∃ v : Vl, ∀ M, dIxA (.tup [.non, .int 0, .int 1, .int 2, .int 0, .int 1]) (.int r) M = .ok (Vl.d v) M := by
    have : r = 0 ∨ r = 1 ∨ r = 2 ∨ r = 3 ∨ r = 4 ∨ r = 5 := by omega
    rcases this with rfl | rfl | rfl | rfl | rfl | rfl
    · exact ⟨none, fun _ => rfl⟩
    · exact ⟨some .z, fun _ => rfl⟩
    · exact ⟨some .o, fun _ => rfl⟩
    · exact ⟨some .t, fun _ => rfl⟩
    · exact ⟨some .z, fun _ => rfl⟩
    · exact ⟨some .o, fun _ => rfl⟩
  refine ⟨v, s1, h1, ?_⟩
  have ha : ∀ M, dAdd (.tup xs) (.tup [Vl.d v]) M = .ok (.tup (xs ++ [Vl.d v])) M := fun M => by
    unfold dAdd
    dsimp only
    rw [if_pos (by simp only [List.length_cons, List.length_nil]; have : (11 : Nat) ≤ big := by decide
                   omega)]
  unfold rowL
  simp only [z_seq, z_seq_nx, z_seq_rt, z_seq_ex, z_seq_bk, z_seq_ct, z_if, z_if_t, z_if_f, z_if_x, z_set, z_set_ok, z_set_x, z_ret, z_ret_ok, z_ret_x, z_retN, z_do, z_do_ok, z_do_x, z_nil, z_raise0, z_raise, z_raise_ok, z_toR_rt, z_toR_nx, z_toR_ex, z_c, z_var, z_var_ok, z_un, z_un_ok, z_un_x, z_bin, z_bin_ok, z_bin_x, z_anil, z_cons, z_cons1, z_cons1x, z_cons2, z_cons2x, z_args, z_args_ok, z_args_x, z_tup, z_tup_ok, z_fro, z_fro_ok, z_lst, z_lst_ok, z_call, z_stat, z_call_ok, z_callk, z_callk1, z_callk2, z_mkF, z_mkF_ok, z_own1, z_own1_ok, z_prop, z_own2, z_own2_ok, z_val, z_val_ok, z_val_x, z_and, z_and_t, z_and_f, z_or, z_or_t, z_or_f, z_not, z_not_ok, z_yes, z_eand, z_eand_t, z_eand_f, z_eor, z_eor_t, z_eor_f, z_enot, z_enot_ok, z_eif, z_eif_t, z_eif_f, z_for, z_for_v, z_iseq, z_iseq_t, z_iseq_f, z_iseq_r, z_rng, z_rng_ok, z_env0, z_try, z_try_nx, z_try_rt, z_try0, z_try0_nx, z_try0_rt, z_for_l, z_fv0, z_fv_nx, z_fv_ct, z_fv_rt, z_lc_v, z_step, z_step_ok, z_istr, z_istr_ok, z_env0, List.map_cons, List.map_nil, List.replicate, List.append_nil, Nat.reduceSub, List.cons_append, List.nil_append, List.length_cons, List.length_nil, Nat.reduceAdd, Nat.reduceLeDiff, List.getElem?_cons_zero, List.getElem?_cons_succ, List.set_cons_zero, List.set_cons_succ, Bool.not_true, Bool.not_false, e1, hv, ha]
theorem row_run {s : Bx} {R : MH} (hs : BxOk s) : ∃ (r : Rw) (s' : Bx), rowM [.ref 0] (s.obj :: R) = .ok r.d (s'.obj :: R) ∧ BxOk s' := by
  obtain ⟨x, s1, h1, e1⟩ := rowL_run (R := R) (xs := []) (a2 := some (.int 0)) hs (by decide)
  obtain ⟨y, s2, h2, e2⟩ := rowL_run (R := R) (xs := [Vl.d x]) (a2 := some (.int 1)) h1 (by simp)
  obtain ⟨z, s3, h3, e3⟩ := rowL_run (R := R) (xs := [Vl.d x, Vl.d y]) (a2 := some (.int 2)) h2 (by simp)
  refine ⟨⟨x, y, z⟩, s3, ?_, h3⟩
  have hi : iRange1 (eC (.int 3)) [some (.ref 0), some (.tup []), none] (s.obj :: R) = .ok (.vals [.int 0, .int 1, .int 2]) (s.obj :: R) := rfl
  have lp : forV (tgName 2) rowL [.int 0, .int 1, .int 2] [some (.ref 0), some (.tup []), none] (s.obj :: R) = .nx [some (.ref 0), some (.tup [Vl.d x, Vl.d y, Vl.d z]), some (.int 2)] (s3.obj :: R) := by
    rw [forV, show tgName 2 (.int 0) [some (.ref 0), some (.tup []), none] = some [some (.ref 0), some (.tup []), some (.int 0)] from rfl]
    dsimp only
    rw [e1]
    dsimp only
    rw [forV, show tgName 2 (.int 1) [some (.ref 0), some (.tup ([] ++ [Vl.d x])), some (.int 0)] = some [some (.ref 0), some (.tup [Vl.d x]), some (.int 1)] from rfl]
    dsimp only
    rw [e2]
    dsimp only
    rw [forV, show tgName 2 (.int 2) [some (.ref 0), some (.tup ([Vl.d x] ++ [Vl.d y])), some (.int 1)] = some [some (.ref 0), some (.tup [Vl.d x, Vl.d y]), some (.int 2)] from rfl]
    dsimp only
    rw [e3]
    rfl
  unfold rowM rowB
  rw [z_fn, show env0 3 [.ref 0] = [some (.ref 0), none, none] from rfl]
  have x1 : sSet 1 (eTup eNil) [some (.ref 0), none, none] (s.obj :: R) = .nx [some (.ref 0), some (.tup []), none] (s.obj :: R) := rfl
  rw [seq_run x1 (seq_run (for_nx hi lp) (ret_rt (var_ok rfl)))]
  rfl
end T2
namespace T2
open PySem L2
/-! ### values, columns, rows are checked -/
section
variable {isi : Tg → Tg → Option Bool} {M : MH} {d : D} {k : Nat}
end
end T2
namespace T2
open PySem L2
/-! ### names are checked -/
def alpha : Str := "abcdefghijklmnopqrstuvwxyz"
def badWord (z : Str) : Bool := decide (z ∈ [("on" : Str), "set", "new"])
def lenOkB (z : Str) : Bool := decide ((1 : Int) ≤ z.length) && decide ((z.length : Int) ≤ 8)
def signsOkB (z : Str) : Bool := z.cps.toList.all fun c => decide (c ∈ alpha.cps.toList)
def nameOkB (z : Str) : Bool := lenOkB z && !badWord z && signsOkB z
section
variable {isi : Tg → Tg → Option Bool} {M : MH}
end
end T2
namespace T2
open PySem L2
/-! ### the laws' own check of a name -/
section
variable {M : MH}
end
end T2
namespace T2
open PySem L2
/-! ### the laws' own check of a row -/
/-- a part of a row as the laws make it -/
def Vi (d : D) : Prop := d = .non ∨ ∃ i, d = .int i
theorem Vi.nb {d : D} {k : Nat} (h : Vi d) : Nb (k + 1) d := by
  rcases h with rfl | ⟨i, rfl⟩
  · exact nb_non
  · exact nb_int
section
variable {M : MH}
end
end T2
namespace T2
open PySem L2
/-! ### a row that is no row -/
theorem Vi.of (v : Vl) : Vi (Vl.d v) := by
  cases v with
  | none => exact .inl rfl
  | some c => exact .inr ⟨_, rfl⟩
end T2
namespace T2
open PySem L2
/-! ### a name is checked (own exception), a bad name is made -/
end T2
namespace T2
open PySem L2
/-! ### sets that are no sets -/
end T2
namespace T2
open PySem L2
/-! ### conditions are checked -/
def words : List (Str × Nat) := [("always", 1), ("equal", 3), ("below", 3), ("unknown", 2), ("quotient", 4), ("not", 2), ("and", 3), ("or", 3)]
def isCol : D → Bool
  | .int i => decide (0 ≤ i) && decide (i ≤ 2)
  | _ => false
section
variable {isi : Tg → Tg → Option Bool} {k : Nat}
end
/-! ### the laws' own check of a condition -/
end T2
namespace T2
open PySem L2
/-! ### names that are names, each once -/
theorem low_signs {z : Str} (h : Low z) : signsOkB z = true := by
  unfold signsOkB
  rw [List.all_eq_true]
  intro c hc
  obtain ⟨a, b⟩ := h c hc
  refine decide_eq_true ?_
  rw [show alpha.cps.toList = _ from abc_list, List.mem_map]
  exact ⟨c - 97, List.mem_range.mpr (by omega), by omega⟩
theorem name_ok {z : Str} (h : Low z) (h1 : 1 ≤ z.length) (h2 : z.length ≤ 8) (hw : z ∉ [("on" : Str), "set", "new"]) : nameOkB z = true := by
  unfold nameOkB lenOkB badWord
  rw [low_signs h, decide_eq_true (show (1 : Int) ≤ z.length by omega), decide_eq_true (show (z.length : Int) ≤ 8 by omega), decide_eq_false hw]
  rfl
theorem free_mem2 {z : Str} {zs : List Str} {d : D} (h : d ∈ freeOf z zs) : ∃ c, d = .str ⟨#[c]⟩ ∧ 97 ≤ c ∧ c ≤ 122 ∧ z ++ (⟨#[c]⟩ : Str) ∉ zs ∧ z ++ (⟨#[c]⟩ : Str) ∉ [("on" : Str), "set", "new"] := by
  obtain ⟨c, rfl, h1, h2⟩ := free_mem h
  have := (List.mem_filter.mp h).2
  dsimp only at this
  have : z ++ (⟨#[c]⟩ : Str) ∉ zs ++ [("on" : Str), "set", "new"] := by simpa using this
  rw [List.mem_append, not_or] at this
  exact ⟨c, rfl, h1, h2, this.1, this.2⟩
/-- the last part of a turn: a free sign is drawn, the name goes to the list -/
theorem last_run2 {s : Bx} {T : MH} {p : Nat} {z : Str} {zs : List Str} {a1 a4 a6 : Option D} (hs : BxOk s) (hT : T[p]? = some (MO.lst (zs.map D.str))) (hz : Low z) (hl : z.length ≤ 7) (hn : zs.length ≤ 10) :
    ∃ c s', (97 ≤ c ∧ c ≤ 122 ∧ z ++ (⟨#[c]⟩ : Str) ∉ zs ∧ z ++ (⟨#[c]⟩ : Str) ∉ [("on" : Str), "set", "new"]) ∧ BxOk s' ∧ namesL3 [some (.ref 0), a1, some (.str ("abcdefghijklmnopqrstuvwxyz" : Str)), some (.ref (p + 1)), a4, some (.str z), a6, some (.ref (T.length + 1)), none] (s.obj :: (T ++ [MO.lst (freeOf z zs)])) =
      .nx [some (.ref 0), a1, some (.str ("abcdefghijklmnopqrstuvwxyz" : Str)), some (.ref (p + 1)), a4, some (.str z), a6, some (.ref (T.length + 1)), none] (s'.obj :: (T ++ [MO.lst (freeOf z zs)]).set p (MO.lst (zs.map D.str ++ [D.str (z ++ ⟨#[c]⟩)]))) := by
  have hp : p < T.length := (List.getElem?_eq_some_iff.mp hT).1
  have hfr : 0 < (freeOf z zs).length := free_some (by omega)
  have hfl := free_le (z := z) (zs := zs)
  obtain ⟨q, s3, e4, q0, q1, h3⟩ := draw_at (R := T ++ [MO.lst (freeOf z zs)]) (n := (freeOf z zs).length) hs (by omega) (by omega)
  have hq : q.toNat < (freeOf z zs).length := by omega
  obtain ⟨c, hc, cc⟩ := free_mem2 (List.getElem_mem hq)
  have hfM : ∀ s : Bx, SeqOf (s.obj :: (T ++ [MO.lst (freeOf z zs)])) "list" (.ref (T.length + 1)) (freeOf z zs) := fun s => ref_seq (by simp) s
  have e5 := (hfM s3).ix (List.getElem?_eq_getElem hq)
  rw [show ((q.toNat : Nat) : Int) = q by omega, hc] at e5
  have e6 := (hfM s).len
  have one : (⟨#[c]⟩ : Str).length = 1 := rfl
  have e7 := add_str (a := z) (b := ⟨#[c]⟩) (M := s3.obj :: (T ++ [MO.lst (freeOf z zs)])) (by omega)
  have hTp : ∀ s : Bx, (s.obj :: (T ++ [MO.lst (freeOf z zs)]))[p + 1]? = some (MO.lst (zs.map D.str)) := fun s => by
    rw [List.getElem?_cons_succ, List.getElem?_append_left hp]; exact hT
  refine ⟨c, s3, cc, h3, ?_⟩
  rw [namesL3, z_do]
  have e8 := app_run (e := [some (.ref 0), a1, some (.str ("abcdefghijklmnopqrstuvwxyz" : Str)), some (.ref (p + 1)), a4, some (.str z), a6, some (.ref (T.length + 1)), none]) (M := s.obj :: (T ++ [MO.lst (freeOf z zs)])) (M2 := s3.obj :: (T ++ [MO.lst (freeOf z zs)])) (n := p + 1) (ds := zs.map D.str) (y := .str (z ++ ⟨#[c]⟩)) (mo := eVar 3) (ma := eBin dAdd (eVar 5) (eBin dIxA (eVar 7) (eCall 2 drawM (eCons (eVar 0) (eCons (eArgs dLen (eCons (eVar 7) (eNil))) (eNil)))))) rfl ⟨_, hTp s⟩ (by
    simp only [z_seq, z_seq_nx, z_seq_rt, z_seq_ex, z_seq_bk, z_seq_ct, z_if, z_if_t, z_if_f, z_if_x, z_set, z_set_ok, z_set_x, z_ret, z_ret_ok, z_ret_x, z_retN, z_do, z_do_ok, z_do_x, z_nil, z_raise0, z_raise, z_raise_ok, z_toR_rt, z_toR_nx, z_toR_ex, z_c, z_var, z_var_ok, z_un, z_un_ok, z_un_x, z_bin, z_bin_ok, z_bin_x, z_anil, z_cons, z_cons1, z_cons1x, z_cons2, z_cons2x, z_args, z_args_ok, z_args_x, z_tup, z_tup_ok, z_fro, z_fro_ok, z_lst, z_lst_ok, z_call, z_stat, z_call_ok, z_callk, z_callk1, z_callk2, z_mkF, z_mkF_ok, z_own1, z_own1_ok, z_prop, z_own2, z_own2_ok, z_val, z_val_ok, z_val_x, z_and, z_and_t, z_and_f, z_or, z_or_t, z_or_f, z_not, z_not_ok, z_yes, z_eand, z_eand_t, z_eand_f, z_eor, z_eor_t, z_eor_f, z_enot, z_enot_ok, z_eif, z_eif_t, z_eif_f, z_for, z_for_v, z_iseq, z_iseq_t, z_iseq_f, z_iseq_r, z_rng, z_rng_ok, z_env0, z_try, z_try_nx, z_try_rt, z_try0, z_try0_nx, z_try0_rt, z_for_l, z_fv0, z_fv_nx, z_fv_ct, z_fv_rt, z_lc, z_lc_v, z_step, z_step_ok, z_istr, z_istr_ok, z_env0, List.map_cons, List.map_nil, List.replicate, List.append_nil, Nat.reduceSub, List.cons_append, List.nil_append, List.length_cons, List.length_nil, Nat.reduceAdd, Nat.reduceLeDiff, List.getElem?_cons_zero, List.getElem?_cons_succ, List.set_cons_zero, List.set_cons_succ, Bool.not_true, Bool.not_false, e6, e4, e5, e7]) (hTp s3) (by rw [List.length_map]; omega)
  rw [e8, z_do_ok, List.set_cons_succ]
theorem turn_run2 {s : Bx} {T : MH} {p : Nat} {zs : List Str} {a1 a4 a5 a6 a7 : Option D} (hs : BxOk s) (hT : T[p]? = some (MO.lst (zs.map D.str))) (hn : zs.length ≤ 10) :
    ∃ z s' G a6' q, (nameOkB z = true ∧ Low z ∧ z ∉ zs) ∧ BxOk s' ∧ namesL2 [some (.ref 0), a1, some (.str ("abcdefghijklmnopqrstuvwxyz" : Str)), some (.ref (p + 1)), a4, a5, a6, a7, none] (s.obj :: T) =
      .nx [some (.ref 0), a1, some (.str ("abcdefghijklmnopqrstuvwxyz" : Str)), some (.ref (p + 1)), a4, some (.str q), a6', some (.ref (T.length + 1)), none] (s'.obj :: (T ++ [G]).set p (MO.lst (zs.map D.str ++ [D.str z]))) := by
  obtain ⟨r, s1, e1, r0, r1, h1⟩ := draw_at (R := T) (n := 8) hs (by decide) (by decide)
  obtain ⟨s2, z, a62, e2, h2, hz2, hl2⟩ := stem_run (R := T) (a1 := a1) (a3 := some (.ref (p + 1))) (a4 := a4) (a7 := a7) (a8 := none) (rangeD 0 r.toNat) s1 "" a6 h1 low_nil (by rw [rangeD_len, nil_len]; omega)
  rw [rangeD_len, nil_len] at hl2
  have hlz : z.length ≤ 7 := by omega
  have hp : (s2.obj :: T)[p + 1]? = some (MO.lst (zs.map D.str)) := by rw [List.getElem?_cons_succ]; exact hT
  have e3 := free_run (M := s2.obj :: T) (n := p + 1) (z := z) (zs := zs) (a1 := a1) (a4 := a4) (a6 := a62) (a7 := a7) hp (by omega) (by omega)
  rw [cons_len, List.cons_append] at e3
  obtain ⟨c, s3, ⟨c1, c2, c3, c4⟩, h3, e4⟩ := last_run2 (a1 := a1) (a4 := a4) (a6 := a62) h2 hT hz2 hlz hn
  have hr : qRng (.ok (.int r) (s1.obj :: T)) = .ok (.vals (rangeD 0 r.toNat)) (s1.obj :: T) := z_rng_ok r0 (by omega)
  have one : (⟨#[c]⟩ : Str).length = 1 := rfl
  have hlen := app_len z ⟨#[c]⟩
  refine ⟨z ++ ⟨#[c]⟩, s3, .lst (freeOf z zs), a62, z, ⟨name_ok (hz2.app (low_one ⟨c1, c2⟩)) (by omega) (by omega) c4, hz2.app (low_one ⟨c1, c2⟩), c3⟩, h3, ?_⟩
  rw [namesL2]
  simp only [z_seq, z_seq_nx, z_seq_rt, z_seq_ex, z_seq_bk, z_seq_ct, z_if, z_if_t, z_if_f, z_if_x, z_set, z_set_ok, z_set_x, z_ret, z_ret_ok, z_ret_x, z_retN, z_do, z_do_ok, z_do_x, z_nil, z_raise0, z_raise, z_raise_ok, z_toR_rt, z_toR_nx, z_toR_ex, z_c, z_var, z_var_ok, z_un, z_un_ok, z_un_x, z_bin, z_bin_ok, z_bin_x, z_anil, z_cons, z_cons1, z_cons1x, z_cons2, z_cons2x, z_args, z_args_ok, z_args_x, z_tup, z_tup_ok, z_fro, z_fro_ok, z_lst, z_lst_ok, z_call, z_stat, z_call_ok, z_callk, z_callk1, z_callk2, z_mkF, z_mkF_ok, z_own1, z_own1_ok, z_prop, z_own2, z_own2_ok, z_val, z_val_ok, z_val_x, z_and, z_and_t, z_and_f, z_or, z_or_t, z_or_f, z_not, z_not_ok, z_yes, z_eand, z_eand_t, z_eand_f, z_eor, z_eor_t, z_eor_f, z_enot, z_enot_ok, z_eif, z_eif_t, z_eif_f, z_for, z_for_v, z_iseq, z_iseq_t, z_iseq_f, z_iseq_r, z_rng, z_rng_ok, z_env0, z_try, z_try_nx, z_try_rt, z_try0, z_try0_nx, z_try0_rt, z_for_l, z_fv0, z_fv_nx, z_fv_ct, z_fv_rt, z_lc_v, z_step, z_step_ok, z_istr, z_istr_ok, z_env0, List.map_cons, List.map_nil, List.replicate, List.append_nil, Nat.reduceSub, List.cons_append, List.nil_append, List.length_cons, List.length_nil, Nat.reduceAdd, Nat.reduceLeDiff, List.getElem?_cons_zero, List.getElem?_cons_succ, List.set_cons_zero, List.set_cons_succ, Bool.not_true, Bool.not_false, e1, hr, e2, e3, e4]
theorem names_loop2 {s : Bx} {R : MH} {n : Nat} (hs : BxOk s) (hn : n ≤ 10) : ∃ (zs : List Str) (s' : Bx) (T : MH) (e' : Env2), forV (tgName 4) namesL2 (rangeD 0 n) [some (.ref 0), some (.int n), some (.str ("abcdefghijklmnopqrstuvwxyz" : Str)), some (.ref (R.length + 1)), none, none, none, none, none] (s.obj :: (R ++ [MO.lst []])) = .nx e' (s'.obj :: T) ∧ e'[3]? = some (some (.ref (R.length + 1))) ∧ Ext R T ∧ T[R.length]? = some (.lst (zs.map D.str)) ∧ BxOk s' ∧ zs.length = n ∧ zs.Nodup ∧ ∀ z ∈ zs, nameOkB z = true ∧ Low z := by
  obtain ⟨e', M', e1, s', zs, T, a4, a5, a6, a7, rfl, rfl, hE, hT, h1, hl, hnd, hz⟩ := loop_inv (body := namesL2) (tg := tgName 4) (I := fun k e M => ∃ (s : Bx) (zs : List Str) (T : MH) (a4 a5 a6 a7 : Option D), e = [some (.ref 0), some (.int n), some (.str ("abcdefghijklmnopqrstuvwxyz" : Str)), some (.ref (R.length + 1)), a4, a5, a6, a7, none] ∧ M = s.obj :: T ∧ Ext R T ∧ T[R.length]? = some (MO.lst (zs.map D.str)) ∧ BxOk s ∧ zs.length = k ∧ zs.Nodup ∧ ∀ z ∈ zs, nameOkB z = true ∧ Low z) (rangeD 0 n) 0
    [some (.ref 0), some (.int n), some (.str ("abcdefghijklmnopqrstuvwxyz" : Str)), some (.ref (R.length + 1)), none, none, none, none, none] (s.obj :: (R ++ [MO.lst []])) ⟨s, [], R ++ [MO.lst []], none, none, none, none, rfl, rfl, .app, by simp, hs, rfl, by simp, by simp⟩ (by
      rintro j hj e M ⟨s, zs, T, a4, a5, a6, a7, rfl, rfl, hE, hT, hs, hl, hnd, hz⟩
      rw [rangeD_len] at hj
      rw [Nat.zero_add] at hl
      obtain ⟨z, s', G, a6', q, hz', hs', e2⟩ := turn_run2 (a1 := some (.int n)) (a4 := some (rangeD 0 n)[j]) (a5 := a5) (a6 := a6) (a7 := a7) hs hT (by omega)
      have hlt : R.length < T.length := (List.getElem?_eq_some_iff.mp hT).1
      refine ⟨_, _, _, rfl, e2, s', zs ++ [z], _, _, _, _, _, rfl, rfl, (hE.trans .app).set (Nat.le_refl _), ?_, hs', by simp [hl], ?_, ?_⟩
      · rw [List.getElem?_set_self (by simp; omega)]
        simp
      · rw [List.nodup_append]
        refine ⟨hnd, by simp, fun x hx y hy => ?_⟩
        rcases List.mem_singleton.mp hy with rfl
        rintro rfl
        exact hz'.2.2 hx
      · intro x hx
        rcases List.mem_append.mp hx with hx | hx
        · exact hz x hx
        · rcases List.mem_singleton.mp hx with rfl
          exact ⟨hz'.1, hz'.2.1⟩)
  rw [rangeD_len, Nat.zero_add] at hl
  exact ⟨zs, s', T, _, e1, rfl, hE, hT, h1, hl, hnd, hz⟩
/-- names are drawn -/
theorem names_run2 {s : Bx} {R : MH} {n : Nat} (hs : BxOk s) (hn : n ≤ 10) : ∃ (zs : List Str) (s' : Bx) (T : MH), namesM [.ref 0, .int n] (s.obj :: R) = .ok (.ref (R.length + 1)) (s'.obj :: T) ∧ Ext R T ∧ T[R.length]? = some (.lst (zs.map D.str)) ∧ BxOk s' ∧ zs.length = n ∧ zs.Nodup ∧ ∀ z ∈ zs, nameOkB z = true ∧ Low z := by
  obtain ⟨zs, s', T, e', e1, e3, hE, hT, h1, hl, hnd, hz⟩ := names_loop2 (R := R) hs hn
  refine ⟨zs, s', T, ?_, hE, hT, h1, hl, hnd, hz⟩
  have hr : qRng (.ok (.int n) (s.obj :: (R ++ [MO.lst []]))) = .ok (.vals (rangeD 0 n)) (s.obj :: (R ++ [MO.lst []])) := z_rng_ok (by omega) (by omega)
  have hl0 : fLst [] (s.obj :: R) = .ok (.ref (R.length + 1)) (s.obj :: (R ++ [MO.lst []])) := z_lst_ok (by decide)
  have h0 : sSet 2 (eC (D.str ("abcdefghijklmnopqrstuvwxyz" : Str))) (env0 9 [.ref 0, .int n]) (s.obj :: R) = .nx [some (.ref 0), some (.int n), some (.str ("abcdefghijklmnopqrstuvwxyz" : Str)), none, none, none, none, none, none] (s.obj :: R) := rfl
  have h2 : sSet 3 (eLst eNil) [some (.ref 0), some (.int n), some (.str ("abcdefghijklmnopqrstuvwxyz" : Str)), none, none, none, none, none, none] (s.obj :: R) = .nx [some (.ref 0), some (.int n), some (.str ("abcdefghijklmnopqrstuvwxyz" : Str)), some (.ref (R.length + 1)), none, none, none, none, none] (s.obj :: (R ++ [MO.lst []])) := set_nx hl0
  have h3 : sForI (iRange1 (eVar 1)) (tgName 4) namesL2 [some (.ref 0), some (.int n), some (.str ("abcdefghijklmnopqrstuvwxyz" : Str)), some (.ref (R.length + 1)), none, none, none, none, none] (s.obj :: (R ++ [MO.lst []])) = .nx e' (s'.obj :: T) := for_nx hr e1
  have h4 : sRet (eVar 3) e' (s'.obj :: T) = .rt (.ref (R.length + 1)) (s'.obj :: T) := ret_rt (var_ok e3)
  rw [namesM, z_fn]
  exact congrArg toR (seq_run h0 (seq_run h2 (seq_run h3 h4)))
/-! ### another name -/
end T2
namespace T2
open PySem L2
/-! ### small things that worlds and statements want -/
theorem cut_to {ds : List D} {j : Nat} (h : j ≤ ds.length) : cutD ds none (some (j : Int)) = ds.take j := by
  have hn : ¬ ((j : Int) < 0) := by omega
  unfold cutD
  simp [HT.sIx, hn, h]
theorem cut_from {ds : List D} {j : Nat} (h : j ≤ ds.length) : cutD ds (some (j : Int)) none = ds.drop j := by
  have hn : ¬ ((j : Int) < 0) := by omega
  unfold cutD
  simp only [HT.sIx, hn, if_false]
  rw [show min (j : Int).toNat ds.length = j by omega]
  exact List.take_of_length_le (by rw [List.length_drop]; exact Nat.le_refl _)
/-! ### conditions of the laws -/
theorem C3.col (c : C3) : isCol (.int c.i) = true := by cases c <;> rfl
/-! ### worlds -/
structure Rl where
  n : Str
  t : Str
  c : C3
  k : Cnd
def Rl.d (r : Rl) : D := .tup [.str r.n, .str r.t, .int r.c.i, r.k.d]
theorem put_ob {c n : Nat} {f : Str} {M : MH} {ns : List Str} {ds : List D} {v : D} (h : M[n]? = some (.ob c ns ds)) (h1 : ns.length < 100) (h2 : ns.length = ds.length) : dPutF [c] f (.ref n) v M = some (M.set n (.ob c (putN f v ns ds).1 (putN f v ns ds).2)) := by
  unfold dPutF
  dsimp only
  rw [h]
  dsimp only
  rw [if_pos ⟨by simp, h1, h2⟩]
end T2
namespace T2
open PySem L2
/-! ### deep `in` for plain data -/
/-- where a set takes its value from -/
def SrcP (b : D) : Prop := b = .non ∨ (∃ j, b = .int j) ∨ ∃ z, b = .str z ∧ PyData.strOk z = true
theorem SrcP.nb {b : D} (h : SrcP b) : Nb 1 b := by
  rcases h with rfl | ⟨j, rfl⟩ | ⟨z, rfl, hz⟩
  · exact nb_non
  · exact nb_int
  · exact nb_str hz
/-! ### small things -/
/-! ### what is wrong with a statement -/
inductive Flt where
  | stm | tbl (z : Str) | rul (z : Str) | row | cnd | nam (z : Str)
def Flt.d : Flt → D
  | .stm => .tup [.str "statement", .str ""]
  | .tbl z => .tup [.str "table", .str z]
  | .rul z => .tup [.str "rule", .str z]
  | .row => .tup [.str "row", .str ""]
  | .cnd => .tup [.str "condition", .str ""]
  | .nam z => .tup [.str "name", .str z]
def Flt.nm : Flt → Str
  | .tbl z => z
  | .rul z => z
  | .nam z => z
  | _ => ""
def fd : Option Flt → D
  | none => .non
  | some f => f.d
end T2
namespace T2
open PySem L2
/-! ### len(set(x)) of at most one text -/
def eLenSet (m : EM) : EM := fun e M => (m e M).bind fun x M1 => match listItems M1 x with
  | some ds => (match strsOf ds with
    | some zs => if zs.length ≤ 1 then .ok (.int zs.length) M1 else .bad
    | none => .bad)
  | none => .bad
section
variable {X : Cx} {g : Wd} {W : WY} {sts : List Stmt} {s1 : SM} {pos p p2 q : Pos} {m1 : EM} {a : Expr}
end
/-! ### for k, v in d.items(): a dict of ints and texts, locked -/
def keyD : Key → D
  | .inl i => .int i
  | .inr s => .str s
theorem keyD_rep {g : Wd} {F : List Addr} {H : Hp} (k : Key) : Rep g F H (keyD k) (kV k) := by
  cases k with
  | inl i => exact .int i
  | inr s => exact .str s
def itemsD (ks : List Key) (ds : List D) : List D := List.zipWith (fun k d => .tup [keyD k, d]) ks ds
def unlkK (n : Nat) (r : SR) : SR := match r with
  | .nx e M => (match M[n]? with
    | some (.lk ks ds) => .nx e (M.set n (.dk ks ds))
    | _ => .bad)
  | .rt d M => (match M[n]? with
    | some (.lk ks ds) => .rt d (M.set n (.dk ks ds))
    | _ => .bad)
  | _ => .bad
def sForItems (i : Nat) (tg : TgM) (body : SM) : SM := fun e M => match e[i]? with
  | some (some (.ref n)) => (match M[n]? with
    | some (.dk ks ds) => unlkK n (forV tg body (itemsD ks ds) e (M.set n (.lk ks ds)))
    | _ => .bad)
  | _ => .bad
section
variable {X : Cx} {g : Wd} {W : WY} {sts : List Stmt} {s1 : SM} {pos p apos cpos tpos : Pos} {elts : List Expr} {kk : Nat}
end
end T2
namespace T2
open PySem PySem.Spec PyProof.Rows L2
/-! ### a set of few tuples of numbers and texts, no two of them equal -/
section
variable {P : Program} {w : World} {A : Around} {E : Value → Shared → Prop} {s : Shared}
abbrev TL (P : Program) (w : World) (h : Heap) (k : List Leaf) (b : Addr) : Prop := IsTupleKey (leafKind P w) h k b
abbrev hL (P : Program) (w : World) (k : List Leaf) : Int := tupleKeyHash (leafKind P w) k
abbrev entL (P : Program) (w : World) (x : List Leaf × Addr) : Int × Value := (hL P w x.1, .ref x.2)
structure FewT (P : Program) (w : World) (hp : Heap) (S : Addr) (xs : List (List Leaf × Addr)) (ob : Obj) (es : Array (Int × Value)) (n : Nat) (t : SetTable) : Prop where
  here : hp.get? S = some ob
  ex : ob.ExactSet
  data : ob.data = .set es n t
  rows : es.toList = xs.map (entL P w)
  tab : TabOk t (xs.map fun x => hL P w x.1)
  m7 : t.mask = 7
  few : xs.length ≤ 3
  tl : ∀ x ∈ xs, TL P w hp x.1 x.2
variable {S : Addr} {xs : List (List Leaf × Addr)} {ob : Obj} {es : Array (Int × Value)} {n : Nat} {t : SetTable}
theorem FewT.size (F : FewT P w s.heap S xs ob es n t) : es.size = xs.length := by
  rw [← Array.length_toList, F.rows, List.length_map]
theorem FewT.get (F : FewT P w s.heap S xs ob es n t) {i : Nat} {x : List Leaf × Addr} (hx : xs[i]? = some x) : es[i]? = some (entL P w x) := by
  rw [← Array.getElem?_toList, F.rows, List.getElem?_map, hx]
  rfl
/-! the questions that are asked of a tuple -/
theorem FewT.stay {h h' : Heap} (F : FewT P w h S xs ob es n t) (h1 : ∀ o, h.get? S = some o → h'.get? S = some o) (h2 : ∀ x ∈ xs, TL P w h' x.1 x.2) : FewT P w h' S xs ob es n t := ⟨h1 _ F.here, F.ex, F.data, F.rows, F.tab, F.m7, F.few, h2⟩
end
end T2
namespace L2
open PySem PySem.Spec PyProof.Rows
/-! ### iter(t) of a tuple, and list(o) where o's own __iter__ hands such an iterator out -/
section
variable {prog : Program} {w : World} {A : Around} {E : Value → Shared → Prop} {s : Shared}
end
section
variable {P : Program} {w : World} {H : Hp} {h : Heap} {l it : Addr} {i : Nat}
end
section
variable {X : Cx} {pins : List (Addr × Obj)} {σ : St} {H : Hp} {s : Shared} {l it a q : Addr} {A1 : Around} {i : Nat}
end
end L2
namespace L2
open PySem PySem.Spec PyProof.Rows
section
variable {X : Cx} {pins : List (Addr × Obj)} {σ : St} {H : Hp} {s : Shared} {k : Nat} {f : Addr} {fd : FuncData} {ps : List Str} {sp : Sp} {A' A1 : Around} {C a q fi fl : Addr} {fdI fdL : FuncData} {psI psL : List Str} {spI spL : Sp} {n : Nat}
end
end L2
namespace T2
open PySem L2
/-! ### list(o) of an own iterable whose __iter__ hands out iter(self.f), f a tuple -/
section
variable {X : Cx} {g : Wd} {W : WY} {a : Expr} {es : List Expr} {pos p : Pos} {ma : AM} {c n : Nat} {fi fl : Addr} {fdI fdL : FuncData} {psI psL : List Str} {fld : Str} {m : List D → MH → Res D}
end
end T2
namespace L2
open PySem PySem.Spec PyProof.Rows

section
variable {X : Cx} {pins : List (Addr × Obj)} {σ : St} {H : Hp} {s : Shared} {h' : Heap}
end

section
variable {X : Cx} {pins : List (Addr × Obj)} {σ : St} {H : Hp} {s : Shared}
end
end L2
namespace T2
open PySem L2

/-! ### sorted(xs, key=f) by an own def -/
section
variable {X : Cx} {g : Wd} {W : WY} {a e : Expr} {pos p : Pos} {m1 : EM} {m : List D → MH → Res D} {k : Nat} {f : Addr} {fd : FuncData} {ps : List Str} {kws : List Keyword}
end
end T2
namespace T2
open PySem L2 PyProof.Rows

/-! ### def f(a, .., *v, k = d, ..): called with plain arguments and some keywords -/
/-- t looks the names up in the dict at D, then goes on as r -/
def KwTo {α : Type} (D : Addr) : List (Str × Value) → Sem α → Sem α → Prop
  | [], t, r => t = r
  | q :: l, t, r => ∃ (β γ : Type) (k1 : Option Value → Sem β) (k2 : β → Sem γ) (k3 : γ → Sem α) (a : β), t = ((nsGet D q.1 >>= k1) >>= k2) >>= k3 ∧ k1 (some q.2) = pure a ∧ KwTo D l (k2 a >>= k3) r
theorem KwTo.run {α : Type} {K : PySem.W.Frag} {M : Model} {A : Around} {Q : α → Shared → Prop} {E : Value → Shared → Prop} {s : Shared} {D : Addr} (X : K.In s.heap) : ∀ {l : List (Str × Value)} {t r : Sem α}, (∀ q ∈ l, PySem.W.nsIn K D q.1 = some (some q.2)) → KwTo D l t r → wpAny M A r Q E s → wpAny M A t Q E s
  | [], t, r, _, e, h => by rw [show t = r from e]; exact h
  | q :: l, t, r, hl, e, h => by
    obtain ⟨β, γ, k1, k2, k3, a, e1, e2, e3⟩ := e
    have l1 : PySem.W.Looks M s.heap (nsGet D q.1 >>= k1) a := (PySem.W.looks_nsIn X (hl q (List.mem_cons_self ..))).andThen (PySem.W.Looks.of_pure e2)
    rw [e1, bind_assoc]
    exact wpAny_bind (l1.here (KwTo.run X (fun p hp => hl p (List.mem_cons_of_mem _ hp)) e3 h))
section
variable {CX : CXT} {P : Program} {w : World} {K : PySem.W.Frag} {mg : Str → Option Value} {base : Heap} {k : Nat} {f : Addr} {name qual : Str} {params : Arguments} {body : List Stmt} {scope : Scope} {dV kV doc pm cdv ct oc : Value} {an od : Option Addr}
  {osl : Array (Option Value)} {N ps ks kq : List Str}
end
/-! ### C(a, .., k = v, ..) where __init__ has *v -/
def eMakeRK (c n kk : Nat) (gz : List D → List D) (f : List D → MH → Res D) (ma mk : AM) : EM := fun e M => (ma e M).bind fun ds M1 => (mk e M1).bind fun zs M2 => if zs.length = kk ∧ n ≤ ds.length + 1 ∧ ds.length ≤ 900 then (f (packRK n (.ref M2.length :: ds) (gz zs)) (M2 ++ [.ob c [] []])).bind fun r M3 => match r with
  | .non => .ok (.ref M2.length) M3
  | _ => .bad else .bad
section
variable {X : Cx} {g : Wd} {W : WY} {e : Expr} {es : List Expr} {pos p : Pos} {ma mk : AM} {k n c : Nat} {f : Addr} {m : List D → MH → Res D} {x : Str} {kws : List Keyword} {ks : List Str} {gz : List D → List D}
end
end T2
namespace T2
open PySem L2
/-! ### C(*xs) -/
section
variable {X : Cx} {g : Wd} {W : WY} {a : Expr} {pos p ps0 : Pos} {m1 : EM} {k n : Nat} {f : Addr} {m : List D → MH → Res D} {x : Str} {c : Nat} {gz : List D → List D}
end
end T2
namespace T2
open PySem PySem.Spec PyProof.Rows L2
/-! ### len(set(xs)), xs a list of few tuples of numbers and texts, no two equal -/
section
variable {g : Wd} {F : List Addr} {H : Hp}
end
section
variable {X : Cx} {g : Wd} {W : WY} {pos p p2 q : Pos} {m1 : EM} {a : Expr}
end
end T2
namespace T2
open PySem L2
/-! ### lists and instances that a call hands back are frozen -/
def rfzO (M : MH) (k : Nat) : Nat → Nat → Option D
  | 0, n => if n < k then some (.ref n) else none
  | f + 1, n => if n < k then some (.ref n) else match M[n]? with
    | some (.lst ds) => (fzAs (rfzO M k f) ds).map .fro
    | some (.ob c ns ds) => (fzAs (rfzO M k f) ds).map (.ins c ns)
    | _ => none
section
variable {g : Wd} {F : List Addr} {H : Hp} {M : MH} {k : Nat}
theorem rfzO_rep (R : RelM g F M H) : ∀ (f n : Nat) (d' : D) (a : Addr), F[n]? = some a → rfzO M k f n = some d' → Rep g (F.take k) H d' (.ref a)
  | 0, n, d', a, hn, h => by
    unfold rfzO at h
    split at h
    · rename_i hk
      cases h
      exact .ref (by rw [List.getElem?_take_of_lt hk]; exact hn)
    · cases h
  | f + 1, n, d', a, hn, h => by
    unfold rfzO at h
    split at h
    · rename_i hk
      cases h
      exact .ref (by rw [List.getElem?_take_of_lt hk]; exact hn)
    · rename_i hk
      split at h
      · rename_i ds hM
        obtain ⟨xs, h1, rfl⟩ := Option.map_eq_some_iff.mp h
        obtain ⟨o, ho, r⟩ := R.obj n a _ hn hM
        cases r with | lst r =>
        exact .fro (.inl ⟨ho, notin_take R.nd hn (by omega)⟩) (fzAs_rep (rfzO_rep R f) r h1)
      · rename_i c ns ds hM
        obtain ⟨xs, h1, rfl⟩ := Option.map_eq_some_iff.mp h
        obtain ⟨o, ho, r⟩ := R.obj n a _ hn hM
        cases r with | ob hl r =>
        exact .ins ho (notin_take R.nd hn (by omega)) hl (fzAs_rep (rfzO_rep R f) r h1)
      · cases h
end
open Classical in
/-- as frzB, instances too -/
noncomputable def frzBO (f : List D → MH → Res D) : List D → MH → Res D := fun ds M => match M, f ds M with
  | _ :: T, .ok d (b' :: T') => if T'.take T.length = T ∧ MO.low 0 b' then (match fzA (rfzO (b' :: T') (T.length + 1) 4) d with
    | some d' => .ok d' (b' :: T)
    | none => .bad) else .bad
  | _, _ => .bad
theorem frzO_ok {f : List D → MH → Res D} {ds : List D} {b b' : MO} {T G : MH} {d d' : D} (h : f ds (b :: T) = .ok d (b' :: (T ++ G))) (hb : MO.low 0 b') (hd : fzA (rfzO (b' :: (T ++ G)) (T.length + 1) 4) d = some d') : frzBO f ds (b :: T) = .ok d' (b' :: T) := by
  unfold frzBO
  rw [h]
  dsimp only
  rw [if_pos ⟨by simp, hb⟩, hd]
theorem fn_frzO {P : Program} {w : World} {K : PySem.W.Frag} {mg : Str → Option Value} {base : Heap} {CX : CXT} {g : Wd} {f : Addr} {fd : FuncData} {ps : List Str} {k n : Nat} {m : List D → MH → Res D} (F : FnOk P w K mg base CX k f fd ps (spD g n m)) : FnOk P w K mg base CX k f fd ps (spD g n (frzBO m)) :=
  F.imp fun vs H Q E ⟨hl, F, M, ds, R, r, q⟩ => ⟨hl, F, M, ds, R, r, by
    unfold frzBO at q
    split at q
    · rename_i b T d b' T' hm
      split at q
      · rename_i hc
        split at q
        · rename_i d' hd
          rw [hm]
          intro F1 H1 v g1 R1 rv
          have e : b' :: T' = (b' :: T) ++ T'.drop T.length := by
            rw [List.cons_append]
            congr 1
            conv => lhs; rw [← List.take_append_drop T.length T', hc.1]
          have lm : MLow (b' :: T) := fun o ho => by
            rcases List.mem_cons.mp ho with rfl | ho
            · exact MO.low_up (Nat.zero_le _) hc.2
            · have := R.low o (List.mem_cons_of_mem _ ho)
              exact this
          have R1' : RelM g F1 ((b' :: T) ++ T'.drop T.length) H1 := by rw [← e]; exact R1
          exact q _ H1 v (g1.cut (by rw [R.len]; simp)) (R1'.cut lm) (fzA_rep (rfzO_rep R1 4) rv hd)
        · exact q.elim
      · exact q.elim
    · exact q.elim⟩
/-- a new instance whose fields stay as they are -/
theorem fzO_ob' {M M' : MH} {p c : Nat} {ns : List Str} {xs ys : List D} (hp : M.length ≤ p) (hG : M'[p]? = some (.ob c ns xs)) (hx : fzAs (rfzO M' M.length 3) xs = some ys) : fzA (rfzO M' M.length 4) (.ref p) = some (.ins c ns ys) := by
  show rfzO M' M.length 4 p = _
  unfold rfzO
  rw [if_neg (by omega), hG]
  dsimp only
  rw [hx]
  rfl
end T2
namespace T2
open PySem L2
/-! ### l.count(k): numbers -/
section
variable {X : Cx} {g : Wd} {W : WY} {a b o : Expr} {pos p apos : Pos} {m1 m2 : EM}
end
theorem intsOf_map : ∀ is : List Int, intsOf (is.map D.int) = some is
  | [] => rfl
  | i :: is => by
    rw [List.map_cons, intsOf, intsOf_map is]
    rfl
end T2
namespace T2
open PySem L2
/-! ### a statement under a lock of a dict that it walks -/
section
variable {X : Cx} {g : Wd} {W : WY} {st : Stmt} {s : SM} {nf : Env2 → MH → Option Nat}
end
end T2
namespace T2
open PySem L2
/-! ### C(..) with arguments left to their defaults -/
section
variable {X : Cx} {CX : CXT} {k : Nat} {f C : Addr} {fd : FuncData} {ps : List Str} {sp : Sp} {E : L2.St → XK} {x m : Str} {p pos apos : Pos} {e o : Expr} {es : List Expr} {t : TA} {vs0 : List V} {ws0 : List Value}
end

/-- C(..), an instance that may change; what stands behind the arguments are the defaults d0 -/
def eMakeD (c n : Nat) (d0 : List D) (f : List D → MH → Res D) (ma : AM) : EM := fun e M => (ma e M).bind fun ds M1 => if (ds ++ d0).length + 1 = n then (f (.ref M1.length :: (ds ++ d0)) (M1 ++ [.ob c [] []])).bind fun r M2 => match r with
  | .non => .ok (.ref M1.length) M2
  | _ => .bad else .bad
section
variable {X : Cx} {g : Wd} {W : WY} {a b o : Expr} {pos p apos : Pos} {m1 m2 : EM} {ma : AM} {es : List Expr} {k n : Nat} {f C : Addr} {fd : FuncData} {ps : List Str} {m : List D → MH → Res D} {x mn : Str} {c : Nat} {d0 : List D} {vs0 : List V} {ws0 : List Value}
end
theorem ClsF.one {K : PySem.W.Frag} {ca : Nat → Addr} {cs : List Nat} {f : Str} {c : Nat} (h : ClsF K ca cs f) (hc : cs.contains c = true) : ClsF K ca [c] f := ⟨fun d hd => by
  have : d = c := by simpa using hd
  subst this; exact h.cl d hc, fun d hd => by
  have : d = c := by simpa using hd
  subst this; exact h.na d hc⟩
end T2
namespace T2
open PySem L2
/-! ### small steps -/
theorem fcal1 {f : List D → MH → Res D} {x : D} {M : MH} : fCall 1 f [x] M = f [x] M := if_pos rfl
theorem fcal2 {f : List D → MH → Res D} {x y : D} {M : MH} : fCall 2 f [x, y] M = f [x, y] M := if_pos rfl
theorem fcal3 {f : List D → MH → Res D} {x y z : D} {M : MH} : fCall 3 f [x, y, z] M = f [x, y, z] M := if_pos rfl
theorem fcal4 {f : List D → MH → Res D} {x y z u : D} {M : MH} : fCall 4 f [x, y, z, u] M = f [x, y, z, u] M := if_pos rfl
/-! ### lists: one that never changes, or one that may -/
end T2
namespace T2
open PySem L2
/-! ### loops that keep an invariant, over values and over a list that stands in the memory -/
theorem forV_invM {tg : TgM} {body : SM} {ds : List D} {I : Nat → Env2 → MH → Prop} (hb : ∀ i x e M, ds[i]? = some x → I i e M → ∃ e1 e2 M2, tg x e = some e1 ∧ body e1 M = .nx e2 M2 ∧ I (i + 1) e2 M2) {e : Env2} {M : MH} (h0 : I 0 e M) : ∃ e' M', forV tg body ds e M = .nx e' M' ∧ I ds.length e' M' := by
  have := loop_inv (body := body) (tg := tg) (I := I) ds 0 e M h0 fun j hj e M h => by
    obtain ⟨e1, e2, M2, h1, h2, h3⟩ := hb j ds[j] e M (List.getElem?_eq_getElem hj) (by rw [Nat.zero_add] at h; exact h)
    exact ⟨e1, e2, M2, h1, h2, by rw [Nat.zero_add]; exact h3⟩
  rw [Nat.zero_add] at this
  exact this
theorem forL_invM {tg : TgM} {body : SM} {s : Nat} {ds : List D} {I : Nat → Env2 → MH → Prop} (hM : ∀ i e M, I i e M → M[s]? = some (.lst ds)) (hb : ∀ i x e M, ds[i]? = some x → I i e M → ∃ e1 e2 M2, tg x e = some e1 ∧ body e1 M = .nx e2 M2 ∧ I (i + 1) e2 M2) :
    ∀ (k i : Nat) (e : Env2) (M : MH), i + k = ds.length → I i e M → ∃ e' M', forL tg body s k i e M = .nx e' M' ∧ I ds.length e' M'
  | 0, i, e, M, hk, h => by
    obtain rfl : i = ds.length := by omega
    refine ⟨e, M, ?_, h⟩
    unfold forL
    rw [hM _ e M h]
    dsimp only
    rw [if_pos (Nat.le_refl _)]
  | k + 1, i, e, M, hk, h => by
    have hi : i < ds.length := by omega
    have hx := List.getElem?_eq_getElem hi
    obtain ⟨e1, e2, M2, ht, hq, h2⟩ := hb i _ e M hx h
    obtain ⟨e', M', h3, h4⟩ := forL_invM hM hb k (i + 1) e2 M2 (by omega) h2
    refine ⟨e', M', ?_, h4⟩
    unfold forL
    rw [hM i e M h]
    dsimp only
    rw [hx]
    dsimp only
    rw [ht]
    dsimp only
    rw [hq]
    exact h3
theorem for_inv {tg : TgM} {body : SM} {m : EM} {l : D} {ds : List D} {I : Nat → Env2 → MH → Prop} {e : Env2} {M M0 : MH} (hm : m e M = .ok l M0) (hM : ∀ i e M, I i e M → listItems M l = some ds) (h0 : I 0 e M0) (hb : ∀ i x e M, ds[i]? = some x → I i e M → ∃ e1 e2 M2, tg x e = some e1 ∧ body e1 M = .nx e2 M2 ∧ I (i + 1) e2 M2) : ∃ e' M', sForI (iSeq m) tg body e M = .nx e' M' ∧ I ds.length e' M' := by
  rcases items_ref (hM 0 e M0 h0) with rfl | ⟨n, rfl, hn⟩
  · obtain ⟨e', M', h1, h2⟩ := forV_invM hb h0
    exact ⟨e', M', by rw [z_for, z_iseq, hm]; exact h1, h2⟩
  · obtain ⟨e', M', h1, h2⟩ := forL_invM (s := n) (fun i e M h => by
      rcases items_ref (hM i e M h) with h2 | ⟨k, h2, h3⟩
      · cases h2
      · cases h2; exact h3) hb ds.length 0 e M0 (by omega) h0
    exact ⟨e', M', by rw [z_for, z_iseq, hm, z_iseq_r, z_for_l hn]; exact h1, h2⟩
end T2
namespace T2
open PySem L2
/-! ### for a, b, .. in lists: each item is a list of its own -/
section
variable {X : Cx} {g : Wd} {W : WY} {a b c : Expr} {pos p : Pos} {m1 m2 : EM} {ma : AM} {es : List Expr} {b1 : BM} {s1 s2 : SM} {st : Stmt} {sts : List Stmt}
end
/-! what such a loop does -/
end T2
namespace T2
open PySem L2
/-! ### l.pop() -/
section
variable {X : Cx} {g : Wd} {W : WY} {o : Expr} {pos apos : Pos} {m1 : EM}
end
end T2
namespace T2
open PySem L2 PyProof.Rows

/-! ### len(d), list(d), dict(d) of a dict; del d[k] -/
def dDelD (o i : D) (M : MH) : Option MH := match o with
  | .ref n => match M[n]? with
    | some (.dk ks ds) => (match keyOf i with
      | some k => if (kGet ks ds k).isSome = true then some (M.set n (.dk ((kDrop k ks ds).map (·.1)) ((kDrop k ks ds).map (·.2)))) else none
      | none => none)
    | _ => none
  | _ => none
def sDelD (mo mi : EM) : SM := fun e M => (mo e M).toS e fun o M1 => (mi e M1).toS e fun i M2 => match dDelD o i M2 with
  | some M3 => .nx e M3
  | none => .bad
section
variable {g : Wd} {X : Cx}
end
section
variable {X : Cx} {g : Wd} {W : WY} {a o i : Expr} {es : List Expr} {pos p tpos : Pos} {m1 m2 : EM} {ma : AM}
/-- del d[k] -/
theorem ds_delD (ho : PE X o (tD g W m1)) (hi : PE X i (tD g W m2)) : PS X (.Delete [.Subscript o i tpos] pos) (tS g W (sDelD m1 m2)) :=
  ps_imp (ps_ddel ho hi) fun E σ H ⟨F, e, M, RS, q⟩ => by
    refine ⟨F, e, M, RS, q.step RS fun x M1 F1 H1 vx _ g1 R1 rx q1 => ?_⟩
    refine ⟨F1, e, M1, RS.up g1 R1, q1.step (RS.up g1 R1) fun y M2 F2 H2 vo _ g2 R2 ry q2 => ?_⟩
    have RS2 := (RS.up g1 R1).up g2 R2
    split at q2
    · rename_i M3 h3
      unfold dDelD at h3
      split at h3
      · rename_i n
        cases rx with | ref hn =>
        split at h3
        · rename_i ks ds hm
          have hn2 := pre_get g2.pre hn
          obtain ⟨vs, hv, hl, r⟩ := dk_at R2 hn2 hm
          split at h3
          · rename_i k hk
            split at h3
            · rename_i hsome
              cases h3
              have ek := key_rep ry hk
              subst ek
              have hget : (valV (ks.zip vs) k).isSome = true := by
                have z := kGet_rep (x := k) (ks := ks) r
                cases hkg : kGet ks ds k with
                | none => rw [hkg] at hsome; cases hsome
                | some d =>
                  rw [hkg] at z
                  obtain ⟨v', hv', _⟩ := z
                  rw [hv']
                  rfl
              refine ⟨_, _, k, rfl, hv, rfl, hget, ?_⟩
              have ez : dropK (ks.zip vs) k = ((kDrop k ks vs).map (·.1)).zip ((kDrop k ks vs).map (·.2)) := by
                unfold dropK kDrop
                generalize (ks.zip vs).filter _ = l
                induction l with
                | nil => rfl
                | cons p l ih => rw [List.map_cons, List.map_cons, List.zip_cons_cons, ← ih]
              rw [ez]
              obtain ⟨k1, k2⟩ := kDrop_rep (x := k) (ks := ks) r
              obtain ⟨g4, R4⟩ := R2.put (o := .dK (((kDrop k ks vs).map (·.1)).zip ((kDrop k ks vs).map (·.2)))) (m := .dk ((kDrop k ks ds).map (·.1)) ((kDrop k ks ds).map (·.2))) hn2 trivial fun H' gr => by
                rw [k1]
                exact .dk (by simp) (k2.mono gr R2.good)
              exact q2 F2 _ σ g4 R4 (RS2.up g4 R4).e RS2.x
            · cases h3
          · cases h3
        · cases h3
      · cases h3
    · exact q2.elim
end
end T2
namespace T2
open PySem L2 PyProof.Rows
/-! ### l.remove(k): numbers -/
def eRem (a b : EM) : EM := fun e M => (a e M).bind fun x M1 => match x with
  | .ref n => match M1[n]? with
    | some (.lst _) => (b e M1).bind fun y M2 => match M2[n]? with
      | some (.lst ds) => (match intsOf ds, y with
        | some is, .int k => if is.idxOf k < is.length then .ok .non (M2.set n (.lst ((is.eraseIdx (is.idxOf k)).map D.int))) else .bad
        | _, _ => .bad)
      | _ => .bad
    | _ => .bad
  | _ => .bad
/-! ### x += i: a local whole number -/
def sAug (i : Nat) (m : EM) : SM := fun e M => match e[i]? with
  | some (some (.int a)) => (m e M).toS e fun d M1 => (match d with
    | .int b => .nx (e.set i (some (.int (a + b)))) M1
    | _ => .bad)
  | _ => .bad
/-! ### list(d.items()) -/
def fItems (mk : List D → MH → Res D) (x : D) (M : MH) : Res D := match x with
  | .ref n => (match M[n]? with
    | some (.dk ks ds) => mk (itemsD ks ds) M
    | _ => .bad)
  | _ => .bad
/-! ### l.extend(xs) -/
def eExt (a b : EM) : EM := fun e M => (a e M).bind fun x M1 => match x with
  | .ref n => match M1[n]? with
    | some (.lst _) => (b e M1).bind fun y M2 => match M2[n]? with
      | some (.lst ds) => (match listItems M2 y with
        | some es => if ds.length + es.length ≤ 1000 then .ok .non (M2.set n (.lst (ds ++ es))) else .bad
        | none => .bad)
      | _ => .bad
    | _ => .bad
  | _ => .bad
end T2
namespace PySem.AutoSeq1
theorem list_extend_any (l : Addr) (items : Array Value) (n : Nat) (b : Addr) (o2 : Obj) (items2 : Array Value) (n2 : Nat) (hc0 : ¬(!items.isEmpty && Builtin.List.listTooLong (items.size + items2.size)) = true) (hc1 : items.size ≤ sizeLine) (hs2 : items.size + items2.size ≤ sizeLine + 1) :
    Meets (Builtin.«list.extend» ⟨[.ref l, .ref b], []⟩) (fun _ R s => s.heap.get? l = some { cls := .type "list", dict := none, data := .seq items n, slots := #[] } ∧ s.heap.get? b = some { cls := .type "list", dict := none, data := .seq items2 n2, slots := o2.slots } ∧ R (.ok (.ret Value.none)) { s with heap := s.heap.update l (Obj.mapSeq fun x => x ++ items2), toks := s.toks }) :=
  .of_wp fun prog w A R s h => by
    obtain ⟨hp, g, d, tk, os⟩ := s; obtain ⟨hl, hb, h⟩ := h; have f1 := idx_int; have f2 := sub_tuple_tuple; have f3 := sub_list_list; have f4 := sub_tuple_list; have f5 := sub_list_tuple;
    have hz' : (items ++ items2).size ≤ sizeLine + 1 := by rw [Array.size_append]; exact hs2
    wp_walk using (wpAny_updateSeq hl rfl (hz := hc1) (_hz' := hz')), wpAny_loadPart' hl, wpAny_loadPart' hb; exact ⟨_, rfl, h⟩
end PySem.AutoSeq1
namespace L2
open PySem PySem.Spec PyProof.Rows
variable {X : Cx}
def rExtendS (K : PySem.W.Frag) : V → List V → Hp → VK → Prop := fun x vs H Q => ∃ l b xs zs, x = .ref l ∧ vs = [.ref b] ∧ H l = some (.lst xs) ∧ SqL K H b zs ∧ xs.length + zs.length ≤ sizeLine ∧ Q .non (upd H l (.lst (xs ++ zs)))
theorem mt_extendS : MtM X "list.extend" (rExtendS X.K) := by
  rintro _ s σ H _ _ v us Q I rx rv ⟨l, b, xs, zs, rfl, rfl, hH, hB, few, q⟩
  obtain ⟨u, rfl, ru⟩ := rv.one
  cases rx; cases ru
  obtain ⟨_, its, n, r, _, e⟩ := I.lstM hH
  obtain ⟨its2, r2, ⟨o2, n2, e2, c1, c2, c3⟩, _⟩ := I.list hB
  have fit : its.length + its2.length ≤ sizeLine := by rw [← r.length, ← r2.length]; exact few
  have short : (!its.toArray.isEmpty && Builtin.List.listTooLong (its.toArray.size + its2.toArray.size)) = false := by simpa using fun _ => notLongL (show its.toArray.size + its2.toArray.size ≤ sizeLine from fit)
  have J := I.lset (f := (· ++ its2.toArray)) (its' := its ++ its2) (t' := s.toks) hH e (by simp) (r.append r2) (by rw [List.length_append]; exact few)
  exact call_meets F.slot_list_extend ⟨_, e, rfl⟩ F.entry_list_extend (F.args_list_extend_2 _ _)
    (AutoSeq1.list_extend_any l its.toArray n b o2 its2.toArray n2 (by rw [short]; decide) (Nat.le_trans (Nat.le_add_right _ _) fit) (Nat.le_succ_of_le fit)) ⟨e, by rw [e2, ← c1, ← c2, ← c3], .non, _, J, rfl, q⟩
end L2
namespace T2
open PySem L2 PyProof.Rows
section
variable {X : Cx} {g : Wd} {W : WY} {a b o : Expr} {pos p apos cpos : Pos} {m1 m2 : EM}
theorem ints_reps {F : List Addr} {H : Hp} : ∀ is : List Int, Reps g F H (is.map D.int) (is.map V.int)
  | [] => .nil
  | i :: is => .cons (.int i) (ints_reps is)
theorem idxOf_first (is : List Int) (k : Int) (m : Nat) (h : m < is.idxOf k) : is[m]? ≠ some k := fun e => by
  have hm := (List.getElem?_eq_some_iff.mp e).1
  have hk : is[m] = k := (List.getElem?_eq_some_iff.mp e).2
  have := List.not_of_lt_findIdx (p := (· == k)) (xs := is) (i := m) h
  rw [hk] at this
  simp at this
theorem de_rem (ho : PE X o (tD g W m1)) (ha : PE X a (tD g W m2)) (hst : starEach [a] X.env = (false, eval a X.env) :: starEach [] X.env := by rfl)
    (hpe : ∀ {to : TE} {t : TA}, PE X o to → PA X [a] t → PE X (.Call (.Attribute o "remove" apos) [a] [] pos) (tBM X.K "list" rRemI to t) := by intro _ _ h1 h2; exact pe_bm PySem.F.plainAttrs_list PySem.F.slot_list_remove PySem.F.type_list_remove mt_remove h1 h2) :
    PE X (.Call (.Attribute o "remove" apos) [a] [] pos) (tD g W (eRem m1 m2)) :=
  pe_imp (hpe ho (de_cons ha de_nil hst)) fun σ H Q ⟨F, e, M, RS, q⟩ => ⟨F, e, M, RS, q.bind fun x M1 F1 H1 v e1 g1 R1 rx q1 => by
    cases x with
    | ref n =>
      cases rx with | ref hn =>
      dsimp only at q1
      split at q1
      · rename_i ds0 hd0
        obtain ⟨vs0, hv0, r0⟩ := lst_at R1 hn hd0
        refine ⟨.inl ⟨rfl, vs0, SqL.of hv0⟩, F1, e, M1, RS.up g1 R1, ?_⟩
        unfold eCons eNil
        refine (?_ : post g rDs W.w F1 σ H1 ((m2 e M1).bind fun x M1 => .ok [x] M1) _)
        cases h2 : m2 e M1 with
        | ok y M2 =>
          rw [h2] at q1
          intro F2 H2 us g2 R2 r2
          obtain ⟨u, rfl, ru⟩ := one_rep r2
          have hn2 := pre_get g2.pre hn
          dsimp only [Res.bind] at q1
          split at q1
          · rename_i ds hd
            obtain ⟨vs, hv, r⟩ := lst_at R2 hn2 hd
            split at q1
            · rename_i is k hi
              split at q1
              · rename_i hl
                have := ints_rep r hi
                subst this
                cases ru
                refine ⟨_, is, k, is.idxOf k, rfl, rfl, hv, ?_, fun m hm => idxOf_first is k m hm, ?_⟩
                · rw [List.getElem?_eq_getElem hl, List.getElem_idxOf hl]
                obtain ⟨g3, R3⟩ := R2.put (o := .lst ((is.eraseIdx (is.idxOf k)).map V.int)) (m := .lst ((is.eraseIdx (is.idxOf k)).map D.int)) hn2 trivial fun H' gr => .lst (ints_reps _)
                exact (q1.up g2).ok g3 R3 .non
              · exact q1.elim
            · exact q1.elim
          · exact q1.elim
        | exc c ns ds M2 => rw [h2] at q1; exact q1
        | bad => rw [h2] at q1; exact q1.elim
      · exact q1.elim
    | _ => exact q1.elim⟩
theorem de_ext (hK : g.K = X.K) (ho : PE X o (tD g W m1)) (ha : PE X a (tD g W m2)) (hst : starEach [a] X.env = (false, eval a X.env) :: starEach [] X.env := by rfl)
    (hpe : ∀ {to : TE} {t : TA}, PE X o to → PA X [a] t → PE X (.Call (.Attribute o "extend" apos) [a] [] pos) (tBM X.K "list" (rExtendS X.K) to t) := by intro _ _ h1 h2; exact pe_bm PySem.F.plainAttrs_list PySem.F.slot_list_extend PySem.F.type_list_extend mt_extendS h1 h2) :
    PE X (.Call (.Attribute o "extend" apos) [a] [] pos) (tD g W (eExt m1 m2)) :=
  pe_imp (hpe ho (de_cons ha de_nil hst)) fun σ H Q ⟨F, e, M, RS, q⟩ => ⟨F, e, M, RS, q.bind fun x M1 F1 H1 v e1 g1 R1 rx q1 => by
    cases x with
    | ref n =>
      cases rx with | ref hn =>
      dsimp only at q1
      split at q1
      · rename_i ds0 hd0
        obtain ⟨vs0, hv0, r0⟩ := lst_at R1 hn hd0
        refine ⟨.inl ⟨rfl, vs0, SqL.of hv0⟩, F1, e, M1, RS.up g1 R1, ?_⟩
        unfold eCons eNil
        refine (?_ : post g rDs W.w F1 σ H1 ((m2 e M1).bind fun x M1 => .ok [x] M1) _)
        cases h2 : m2 e M1 with
        | ok y M2 =>
          rw [h2] at q1
          intro F2 H2 us g2 R2 r2
          obtain ⟨u, rfl, ru⟩ := one_rep r2
          have hn2 := pre_get g2.pre hn
          dsimp only [Res.bind] at q1
          split at q1
          · rename_i ds hd
            obtain ⟨vs, hv, r⟩ := lst_at R2 hn2 hd
            split at q1
            · rename_i es hes
              split at q1
              · rename_i hl
                obtain ⟨pb, ws, rfl, hw, rw'⟩ := listItems_at R2 ru hes
                refine ⟨_, _, vs, ws, rfl, rfl, hv, by rw [← hK]; exact hw, by rw [← r.length, ← rw'.length]; exact small hl, ?_⟩
                obtain ⟨g3, R3⟩ := R2.put (o := .lst (vs ++ ws)) (m := .lst (ds ++ es)) hn2 trivial fun H' gr => .lst ((r.mono gr R2.good).append (rw'.mono gr R2.good))
                exact (q1.up g2).ok g3 R3 .non
              · exact q1.elim
            · exact q1.elim
          · exact q1.elim
        | exc c ns ds M2 => rw [h2] at q1; exact q1
        | bad => rw [h2] at q1; exact q1.elim
      · exact q1.elim
    | _ => exact q1.elim⟩
theorem ds_aug {i : Nat} {x : Str} {pos' : Pos} (hnd : X.N.Nodup) (hv : PE X a (tD g W m1)) (hi : X.N[i]? = some x := by rfl) (hx : Loc X.env.scope x := by first | exact Or.inl rfl | exact Or.inr rfl) (hf : X.fn x = true ∨ X.env.scope.names.lookup x = some .local := by first | exact .inl rfl | exact .inr rfl)
    (hpin : ∀ p ∈ W.p.xs, i ≠ p.1 := by intro p h; exact absurd h (by simp)) : PS X (.AugAssign (.Name x pos') .Add a pos) (tS g W (sAug i m1)) :=
  ps_imp (ps_aug hnd hi hx hv ip_add hf) fun E σ H ⟨F, e, M, RS, q⟩ => by
    unfold sAug at q
    split at q
    · rename_i b hb
      obtain ⟨v, hv, r⟩ := RS.e.get hb
      cases r
      refine ⟨_, hv, F, e, M, RS, q.step RS fun y M1 F1 H1 vx _ g1 R1 ry q1 => ?_⟩
      split at q1
      · rename_i c _
        cases ry
        have RS1 := RS.up g1 R1
        exact ⟨b, _, rfl, rfl, q1 F1 H1 _ .same R1 (RS1.e.set (.int _) i) (RS1.x.set hpin)⟩
      · exact q1.elim
    · exact q.elim
theorem paired_reps {H1 : Hp} {F : List Addr} : ∀ {ts : List Addr} {ks : List Key} {ds : List D} {vs : List V}, ks.length = vs.length → Reps g F H1 ds vs → Paired (fun (t : Addr) (q : Key × V) => H1 t = some (.tup [kV q.1, q.2])) ts (ks.zip vs) → Reps g F H1 (itemsD ks ds) (ts.map V.ref)
  | _, [], _, _, _, _, hp => by
    cases hp
    exact .nil
  | _, k :: ks, _, [], h, _, _ => by simp at h
  | _, k :: ks, _, v :: vs, h, r, hp => by
    cases r with | cons r1 r2 =>
    cases hp with | cons h1 h2 =>
    exact .cons (.tup (SqT.of h1) (.cons (keyD_rep k) (.cons r1 .nil))) (paired_reps (by simpa using h) r2 h2)
theorem Paired.imp {α β : Type} {F G : α → β → Prop} : ∀ {xs : List α} {ys : List β}, (∀ x ∈ xs, ∀ y, F x y → G x y) → Paired F xs ys → Paired G xs ys
  | _, _, _, .nil => .nil
  | _, _, h, .cons a b => .cons (h _ (by simp) _ a) (Paired.imp (fun x hx => h x (by simp [hx])) b)
theorem de_items {mk : List D → MH → Res D} (hc : X.calm = true) (hmk : MkOk g mk) (ha : PE X a (tD g W m1)) (hm : X.mg "list" = none) (hg : Gl X "list" := by rfl) (hbase : attributeBase a "items" X.env (eval a X.env) = eval a X.env := by rfl) (hline : (apos.endLine == cpos.line) = true := by rfl)
    (hs : starEach [.Call (.Attribute a "items" apos) [] [] cpos] X.env = (false, eval (.Call (.Attribute a "items" apos) [] [] cpos) X.env) :: starEach [] X.env := by rfl) :
    PE X (.Call (.Name "list" p) [.Call (.Attribute a "items" apos) [] [] cpos] [] pos) (tD g W (eUn (fItems mk) m1)) :=
  pe_imp (LiI.pe_listItems hc ha hg hm (by decide +kernel) hbase hline hs) fun σ H Q ⟨F, e, M, RS, q⟩ => ⟨F, e, M, RS, q.bind fun x M1 F1 H1 v e1 g1 R1 rx q1 => by
    unfold fItems at q1
    split at q1
    · rename_i n
      split at q1
      · rename_i ks ds hd
        cases rx with | ref hn =>
        obtain ⟨vs, hv, hl, r⟩ := dk_at R1 hn hd
        refine ⟨_, _, rfl, hv, fun H' pp ts hk hpn htn hpt hpl hpr => ?_⟩
        let H2 : Hp := fun b => if b = pp then none else H' b
        have hk2 : ∀ b o, H1 b = some o → H2 b = some o := fun b o hb => by
          show (if b = pp then none else H' b) = some o
          rw [if_neg (fun z => by rw [z, hpn] at hb; cases hb)]
          exact hk b o hb
        obtain ⟨g2, R2⟩ := R1.keep hk2
        have hH : upd H2 pp (.lst (ts.map V.ref)) = H' := by
          funext b
          by_cases hb : b = pp
          · rw [hb, upd_same, hpl]
          · rw [upd_ne hb]
            exact if_neg hb
        rw [← hH]
        refine hmk W.w F1 M1 H2 σ Q (itemsD ks ds) (ts.map V.ref) pp R2 ?_ (q1.up g2) (if_pos rfl)
        refine paired_reps hl (r.mono g2 R1.good) (Paired.imp (fun t ht y hy => ?_) hpr)
        show (if t = pp then none else H' t) = _
        rw [if_neg (fun z => hpt (by rw [← z]; exact ht))]
        exact hy
      · exact q1.elim
    · exact q1.elim⟩
end
end T2
/-! list(all_rows()) -/
namespace GP
open PySem PySem.Spec PyProof.Rows GenW L2
section
variable {X : Cx} {pins : List (Addr × Obj)} {σ : L2.St} {H : Hp} {s : Shared} {f tv : Addr} {B : Around}
end
section
variable {X : Cx} {pins : List (Addr × Obj)} {σ : L2.St} {H H' : Hp} {s s' : Shared} {G : Gb} {a g i S : Nat} {f tv : Addr} {its : Array Value}
theorem ArTurn.written {o : HO} (T : ArTurn X G pins a g i H s) (hS : H S = some o) (k : ∀ b u, b ≠ S → s.heap.get? b = some u → s'.heap.get? b = some u) (hg : s'.gens = s.gens) (hH : ∀ b, b ≠ S → H b = none → H' b = none) : ArTurn X G pins a g i H' s' := by
  obtain ⟨ap, gs, T⟩ := T
  have ne : ∀ {b}, FpOk X pins H b → b ≠ S := fun {b} f z => by rw [z] at f; have := f.1; rw [hS] at this; cases this
  have fp : ∀ {b}, FpOk X pins H b → FpOk X pins H' b := fun {b} f => ⟨hH b (ne f) f.1, f.2⟩
  obtain ⟨ob, nm, qn, ho, r⟩ := T.gen
  exact ⟨ap, gs, ⟨ob, nm, qn, k a _ (ne T.ga) ho, r⟩, by rw [hg]; exact T.st, T.rdy, T.le, T.awake, fp T.ga, fun p hp => by
    obtain ⟨h1, h2, h3⟩ := T.pin p hp
    exact ⟨k _ _ (ne h2) h1, fp h2, h3⟩⟩
end
end GP
namespace T2
open PySem L2 PySem.Spec PyProof.Rows
section
variable {X : Cx} {g : Wd} {W : WY} {a b : Expr} {pos : Pos} {m1 m2 : EM}
end
end T2
namespace T2
open PySem L2
section
variable {X : Cx} {g : Wd} {W : WY} {p pos pf pc : Pos} {f tv : Addr}
end
end T2
namespace PySem.W
open PySem PySem.Calls PyProof.Rows Builtin
section
variable {M : Model} {A : Around} {E : Value → Shared → Prop} {s : Shared} {K : Frag} {x C L f : Addr} {h₀ : Heap} {m : Str → Option Value} {ox : Obj} {od : Option Obj} {v : Value}
end
section
variable {P : Program} {w : World} {A : Around} {s : Shared} {K : Frag} {x C f dx : Addr} {od : Option Obj} {us : List Value} {R : Result → Shared → Prop}
end
end PySem.W

namespace L2
open PySem PySem.Spec PyProof.Rows
section
variable {X : Cx} {CX : CXT} {k : Nat} {f C : Addr} {fd : FuncData} {ps : List Str} {sp : Sp} {E : L2.St → XK} {x : Str} {p pos : Pos} {a b e : Expr} {es : List Expr} {ta tb to : TE} {t : TA}
end
end L2
namespace T2
open PySem L2
/-! ### o[k], o[k] = v, o(..): of instances whose class says how -/
section
variable {X : Cx} {g : Wd} {W : WY} {a b o : Expr} {pos p : Pos} {m1 m2 m3 : EM} {ma : AM} {es : List Expr} {k n : Nat} {f : Addr} {fd : FuncData} {ps : List Str} {m : List D → MH → Res D} {x : Str} {c : Nat}
end
end T2
namespace T2
open PySem L2
/-! ### what walks a dict that stands still -/
section
variable {X : Cx} {g : Wd} {W : WY} {a b e0 : Expr} {pos : Pos} {m m1 m2 : EM} {nf : Env2 → MH → Option Nat}
end
end T2
/-! own iterables whose __iter__ says `return iter(self.d)`, d a dict -/
namespace L2
open PySem PySem.Spec PyProof.Rows PySem.Calls PySem.Builtin
section
variable {X : Cx} {pins : List (Addr × Obj)} {σ : St} {H : Hp} {s : Shared}
end
section
variable {X : Cx} {pins : List (Addr × Obj)} {σ : St} {H : Hp} {s : Shared}
end
end L2
namespace T2
open PySem L2
/-! ### the keys of an own object's dict, by its own __iter__ -/
section
variable {X : Cx} {g : Wd} {W : WY} {a b o e0 : Expr} {pos apos : Pos} {m m1 m2 : EM} {c : Nat} {fl : Str}
/-! ### d.pop(k), k being there -/
end
end T2
namespace T2
open PySem L2
section

section
variable {A B : Type} {e e1 : Env2} {M M1 : MH} {d x y : D} {c : Nat} {ns : List Str} {ds xs : List D} {k : Bool}
theorem y_seq {a b : SM} : sSeq a b e M = qSeq (a e M) b := Eq.trans (rfl) rfl
theorem y_seq_nx {b : SM} : qSeq (.nx e1 M1) b = b e1 M1 := Eq.trans (rfl) rfl
theorem y_seq_rt {b : SM} : qSeq (.rt d M1) b = .rt d M1 := Eq.trans (rfl) rfl
theorem y_seq_ex {b : SM} : qSeq (.ex c ns ds e1 M1) b = .ex c ns ds e1 M1 := Eq.trans (rfl) rfl
theorem y_seq_bk {b : SM} : qSeq (.bk e1 M1) b = .bk e1 M1 := Eq.trans (rfl) rfl
theorem y_seq_ct {b : SM} : qSeq (.ct e1 M1) b = .ct e1 M1 := Eq.trans (rfl) rfl
theorem y_if {c : BM} {a b : SM} : sIf c a b e M = qIf (c e M) e a b := Eq.trans (rfl) rfl
theorem y_if_t {a b : SM} : qIf (.ok true M1) e a b = a e M1 := Eq.trans (rfl) rfl
theorem y_if_f {a b : SM} : qIf (.ok false M1) e a b = b e M1 := Eq.trans (rfl) rfl
theorem y_if_x {a b : SM} : qIf (.exc c ns ds M1) e a b = .ex c ns ds e M1 := Eq.trans (rfl) rfl
theorem y_set {i : Nat} {m : EM} : sSet i m e M = qSet i e (m e M) := Eq.trans (rfl) rfl
theorem y_set_ok {i : Nat} : qSet i e (.ok d M1) = .nx (e.set i (some d)) M1 := Eq.trans (rfl) rfl
theorem y_set_x {i : Nat} : qSet i e (.exc c ns ds M1) = .ex c ns ds e M1 := Eq.trans (rfl) rfl
theorem y_ret {m : EM} : sRet m e M = qRet e (m e M) := Eq.trans (rfl) rfl
theorem y_ret_ok : qRet e (.ok d M1) = .rt d M1 := Eq.trans (rfl) rfl
theorem y_ret_x : qRet e (.exc c ns ds M1) = .ex c ns ds e M1 := Eq.trans (rfl) rfl
theorem y_retN : sRetN e M = .rt .non M := Eq.trans (rfl) rfl
theorem y_do {m : EM} : sDo m e M = qDo e (m e M) := Eq.trans (rfl) rfl
theorem y_do_ok : qDo e (.ok d M1) = .nx e M1 := Eq.trans (rfl) rfl
theorem y_do_x : qDo e (.exc c ns ds M1) = .ex c ns ds e M1 := Eq.trans (rfl) rfl
theorem y_nil : sNil e M = .nx e M := Eq.trans (rfl) rfl
theorem y_raise0 {c : Nat} : sRaise0 c e M = .ex c [] [] e M := Eq.trans (rfl) rfl
theorem y_raise_ok {n : Nat} {f : List D → List D} (h : ds.length = n) : qRaise c n ns f e (.ok ds M1) = .ex c ns (f ds) e M1 := Eq.trans (if_pos h) rfl
theorem y_toR_rt : toR (.rt d M) = .ok d M := Eq.trans (rfl) rfl
theorem y_toR_nx : toR (.nx e M) = .ok .non M := Eq.trans (rfl) rfl
theorem y_toR_ex : toR (.ex c ns ds e M) = .exc c ns ds M := Eq.trans (rfl) rfl
theorem y_fn {n : Nat} {b : SM} : fnB n b ds M = toR (b (env0 n ds) M) := Eq.trans (rfl) rfl
theorem y_c : eC d e M = .ok d M := Eq.trans (rfl) rfl
theorem y_var {n : Nat} : eVar n e M = qVar e[n]? M := Eq.trans (rfl) rfl
theorem y_var_ok : qVar (some (some d)) M = .ok d M := Eq.trans (rfl) rfl
theorem y_un {f : D → MH → Res D} {a : EM} : eUn f a e M = qUn f (a e M) := Eq.trans (rfl) rfl
theorem y_un_ok {f : D → MH → Res D} : qUn f (.ok x M1) = f x M1 := Eq.trans (rfl) rfl
theorem y_un_x {f : D → MH → Res D} : qUn f (.exc c ns ds M1) = .exc c ns ds M1 := Eq.trans (rfl) rfl
theorem y_bin {f : D → D → MH → Res D} {a b : EM} : eBin f a b e M = qBin f (a e M) b e := Eq.trans (rfl) rfl
theorem y_bin_ok {f : D → D → MH → Res D} {b : EM} : qBin f (.ok x M1) b e = qUn (f x) (b e M1) := Eq.trans (rfl) rfl
theorem y_bin_x {f : D → D → MH → Res D} {b : EM} : qBin f (.exc c ns ds M1) b e = .exc c ns ds M1 := Eq.trans (rfl) rfl
theorem y_anil : eNil e M = .ok [] M := Eq.trans (rfl) rfl
theorem y_cons {a : EM} {b : AM} : eCons a b e M = qC1 (a e M) b e := Eq.trans (rfl) rfl
theorem y_cons1 {b : AM} : qC1 (.ok x M1) b e = qC2 x (b e M1) := Eq.trans (rfl) rfl
theorem y_cons1x {b : AM} : qC1 (.exc c ns ds M1) b e = .exc c ns ds M1 := Eq.trans (rfl) rfl
theorem y_cons2 : qC2 x (.ok xs M1) = .ok (x :: xs) M1 := Eq.trans (rfl) rfl
theorem y_cons2x : qC2 x (.exc c ns ds M1) = .exc c ns ds M1 := Eq.trans (rfl) rfl
theorem y_args {f : List D → MH → Res D} {a : AM} : eArgs f a e M = qArgs f (a e M) := Eq.trans (rfl) rfl
theorem y_args_ok {f : List D → MH → Res D} : qArgs f (.ok xs M1) = f xs M1 := Eq.trans (rfl) rfl
theorem y_args_x {f : List D → MH → Res D} : qArgs f (.exc c ns ds M1) = .exc c ns ds M1 := Eq.trans (rfl) rfl
theorem y_tup {a : AM} : eTup a e M = qArgs fTup (a e M) := Eq.trans (rfl) rfl
theorem y_tup_ok (h : xs.length ≤ 1000) : fTup xs M = .ok (.tup xs) M := Eq.trans (if_pos h) rfl
theorem y_fro {a : AM} : eFro a e M = qArgs fFro (a e M) := Eq.trans (rfl) rfl
theorem y_fro_ok (h : xs.length ≤ 1000) : fFro xs M = .ok (.fro xs) M := Eq.trans (if_pos h) rfl
theorem y_lst {a : AM} : eLst a e M = qArgs fLst (a e M) := Eq.trans (rfl) rfl
theorem y_lst_ok (h : xs.length ≤ 1000) : fLst xs M = .ok (.ref M.length) (M ++ [.lst xs]) := Eq.trans (if_pos h) rfl
theorem y_call {n : Nat} {f : List D → MH → Res D} {a : AM} : eCall n f a e M = qArgs (fCall n f) (a e M) := Eq.trans (rfl) rfl
theorem y_stat {c n : Nat} {f : List D → MH → Res D} {a : AM} : eStat c n f a e M = qArgs (fCall n f) (a e M) := Eq.trans (rfl) rfl
theorem y_call_ok {n : Nat} {f : List D → MH → Res D} (h : xs.length = n) : fCall n f xs M = f xs M := Eq.trans (if_pos h) rfl
theorem y_callk {n k : Nat} {gD : List D → List D → List D} {f : List D → MH → Res D} {ma mk : AM} : eCallK n k gD f ma mk e M = qK1 n k gD f (ma e M) mk e := Eq.trans (rfl) rfl
theorem y_callk1 {n k : Nat} {gD : List D → List D → List D} {f : List D → MH → Res D} {mk : AM} : qK1 n k gD f (.ok xs M1) mk e = qK n k gD f xs (mk e M1) := Eq.trans (rfl) rfl
theorem y_callk2 {n k : Nat} {gD : List D → List D → List D} {f : List D → MH → Res D} {zs : List D} (h1 : xs.length = n) (h2 : zs.length = k) : qK n k gD f xs (.ok zs M1) = f (gD xs zs) M1 := Eq.trans (if_pos ⟨h1, h2⟩) rfl
theorem y_mkF {c : Nat} {fs : List Str} {a : AM} : eMakeF c fs a e M = qArgs (fMakeF c fs) (a e M) := Eq.trans (rfl) rfl
theorem y_mkF_ok {c : Nat} {fs : List Str} (h : xs.length = fs.length) : fMakeF c fs xs M = .ok (.ins c fs xs) M := Eq.trans (if_pos h) rfl
theorem y_own1 {c : Nat} {f : List D → MH → Res D} {a : EM} : eOwn1 c f a e M = qUn (fOwn1 c f) (a e M) := Eq.trans (rfl) rfl
theorem y_own1_ok {c : Nat} {f : List D → MH → Res D} : fOwn1 c f (.ins c ns ds) M = f [.ins c ns ds] M := Eq.trans (if_pos rfl) rfl
theorem y_prop {c : Nat} {f : List D → MH → Res D} {a : EM} : eProp c f a e M = qUn (fOwn1 c fun ds M => okR (f ds M)) (a e M) := Eq.trans (rfl) rfl
theorem y_own2 {c : Nat} {f : List D → MH → Res D} {a b : EM} : eOwn2 c f a b e M = qBin (fOwn2 c f) (a e M) b e := Eq.trans (rfl) rfl
theorem y_val {m : EM} : bVal m e M = qVal (m e M) := Eq.trans (rfl) rfl
theorem y_val_ok : qVal (.ok (.bl k) M1) = .ok k M1 := Eq.trans (rfl) rfl
theorem y_val_x : qVal (.exc c ns ds M1) = .exc c ns ds M1 := Eq.trans (rfl) rfl
theorem y_and {a b : BM} : bAnd a b e M = qAnd (a e M) b e := Eq.trans (rfl) rfl
theorem y_and_t {b : BM} : qAnd (.ok true M1) b e = b e M1 := Eq.trans (rfl) rfl
theorem y_and_f {b : BM} : qAnd (.ok false M1) b e = .ok false M1 := Eq.trans (rfl) rfl
theorem y_or {a b : BM} : bOr a b e M = qOr (a e M) b e := Eq.trans (rfl) rfl
theorem y_or_t {b : BM} : qOr (.ok true M1) b e = .ok true M1 := Eq.trans (rfl) rfl
theorem y_or_f {b : BM} : qOr (.ok false M1) b e = b e M1 := Eq.trans (rfl) rfl
theorem y_not {a : BM} : bNot a e M = qNot (a e M) := Eq.trans (rfl) rfl
theorem y_not_ok : qNot (.ok k M1) = .ok (!k) M1 := Eq.trans (rfl) rfl
theorem y_yes : bYes e M = .ok true M := Eq.trans (rfl) rfl
theorem y_eand_t {b : EM} : qEAnd (.ok (.bl true) M1) b e = b e M1 := Eq.trans (rfl) rfl
theorem y_eand_f {b : EM} : qEAnd (.ok (.bl false) M1) b e = .ok (.bl false) M1 := Eq.trans (rfl) rfl
theorem y_eor_t {b : EM} : qEOr (.ok (.bl true) M1) b e = .ok (.bl true) M1 := Eq.trans (rfl) rfl
theorem y_eor_f {b : EM} : qEOr (.ok (.bl false) M1) b e = b e M1 := Eq.trans (rfl) rfl
theorem y_enot_ok : qENot (.ok (.bl k) M1) = .ok (.bl (!k)) M1 := Eq.trans (rfl) rfl
theorem y_eif {c : BM} {a b : EM} : eIf c a b e M = qEIf (c e M) a b e := Eq.trans (rfl) rfl
theorem y_eif_t {a b : EM} : qEIf (.ok true M1) a b e = a e M1 := Eq.trans (rfl) rfl
theorem y_eif_f {a b : EM} : qEIf (.ok false M1) a b e = b e M1 := Eq.trans (rfl) rfl
theorem y_for_v {tg : TgM} {body : SM} : qIt (.ok (.vals ds) M1) tg body e = forV tg body ds e M1 := Eq.trans (rfl) rfl
theorem y_iseq {m : EM} : iSeq m e M = qSeqI (m e M) := Eq.trans (rfl) rfl
theorem y_iseq_t : qSeqI (.ok (.tup ds) M1) = .ok (.vals ds) M1 := Eq.trans (rfl) rfl
theorem y_iseq_f : qSeqI (.ok (.fro ds) M1) = .ok (.vals ds) M1 := Eq.trans (rfl) rfl
theorem y_iseq_r {n : Nat} : qSeqI (.ok (.ref n) M1) = .ok (.live n) M1 := Eq.trans (rfl) rfl
theorem y_rng {a : EM} : iRange1 a e M = qRng (a e M) := Eq.trans (rfl) rfl
theorem y_env0 {n : Nat} {ds : List D} : env0 n ds = ds.map some ++ List.replicate (n - ds.length) none := Eq.trans (rfl) rfl
theorem y_try {i : Nat} {ct : Nat → Option Bool} {body : SM} {suite : Nat → List Str → List D → SM} {e : Env2} {M : MH} : sTry i ct body suite e M = qTry i ct suite (body e M) := Eq.trans (rfl) rfl
theorem y_try_nx {i : Nat} {ct : Nat → Option Bool} {suite : Nat → List Str → List D → SM} {e : Env2} {M : MH} : qTry i ct suite (.nx e M) = .nx e M := Eq.trans (rfl) rfl
theorem y_try_rt {i : Nat} {ct : Nat → Option Bool} {suite : Nat → List Str → List D → SM} {d : D} {M : MH} : qTry i ct suite (.rt d M) = .rt d M := Eq.trans (rfl) rfl
theorem y_try0 {ct : Nat → Option Bool} {body suite : SM} {e : Env2} {M : MH} : sTry0 ct body suite e M = qTry0 ct suite (body e M) := Eq.trans (rfl) rfl
theorem y_try0_nx {ct : Nat → Option Bool} {suite : SM} {e : Env2} {M : MH} : qTry0 ct suite (.nx e M) = .nx e M := Eq.trans (rfl) rfl
theorem y_try0_rt {ct : Nat → Option Bool} {suite : SM} {d : D} {M : MH} : qTry0 ct suite (.rt d M) = .rt d M := Eq.trans (rfl) rfl
theorem y_fv0 {tg : TgM} {body : SM} {e : Env2} {M : MH} : forV tg body [] e M = .nx e M := Eq.trans (rfl) rfl
theorem y_fv_nx {tg : TgM} {body : SM} {xs : List D} {e : Env2} {M : MH} : qFv tg body xs (.nx e M) = forV tg body xs e M := Eq.trans (rfl) rfl
theorem y_fv_ct {tg : TgM} {body : SM} {xs : List D} {e : Env2} {M : MH} : qFv tg body xs (.ct e M) = forV tg body xs e M := Eq.trans (rfl) rfl
theorem y_fv_rt {tg : TgM} {body : SM} {xs : List D} {d : D} {M : MH} : qFv tg body xs (.rt d M) = .rt d M := Eq.trans (rfl) rfl
theorem y_lc_v {tg : TgM} {tt : BM} {m : EM} {vs : List Nat} {e : Env2} {M : MH} {ds : List D} : qLc tg tt m vs e (.ok (.vals ds) M) = lcV tg tt m (wipe2 e vs) M.length ds (M ++ [.lst []]) := Eq.trans (rfl) rfl
theorem y_step {i : Nat} {m : EM} {e : Env2} {x : D} {M : MH} : lcStep (tgName i) bYes m e x M = qStep (m (e.set i (some x)) M) := Eq.trans (rfl) rfl
theorem y_step_ok {y : D} {M : MH} : qStep (.ok y M) = .ok (some y) M := Eq.trans (rfl) rfl
theorem y_istr {m : EM} {e : Env2} {M : MH} : iStrD m e M = qStrI (m e M) := Eq.trans (rfl) rfl
theorem y_istr_ok {z : Str} {M : MH} : qStrI (.ok (.str z) M) = .ok (.vals (signsOf z)) M := Eq.trans (rfl) rfl
end
end
end T2
namespace T2
open PySem L2

/-! ### operations on values, as rewriting rules that are no definitional steps -/
section
variable {i j : Int} {M : MH} {a b c d x y : D} {l ds ns' : List D} {z w : Str} {k : Bool} {cc n m : Nat} {ns : List Str} {e : Env2} {kss : List (List Key)}
theorem o_add : dAdd (.int i) (.int j) M = .ok (.int (i + j)) M := Eq.trans rfl rfl
theorem o_sub : dSub (.int i) (.int j) M = .ok (.int (i - j)) M := Eq.trans rfl rfl
theorem o_lt : dLt (.int i) (.int j) M = .ok (.bl (decide (i < j))) M := Eq.trans rfl rfl
theorem o_le : dLe (.int i) (.int j) M = .ok (.bl (decide (i ≤ j))) M := Eq.trans rfl rfl
theorem o_gt : dGt (.int i) (.int j) M = .ok (.bl (decide (j < i))) M := Eq.trans rfl rfl
theorem o_ge : dGe (.int i) (.int j) M = .ok (.bl (decide (j ≤ i))) M := Eq.trans rfl rfl
theorem o_neg : dNeg (.int i) M = .ok (.int (-i)) M := Eq.trans rfl rfl
theorem o_eqi : dEq (.int i) (.int j) M = .ok (.bl (decide (i = j))) M := by rw [eq_int]; by_cases h : i = j <;> simp [h]
theorem o_nei : dNe (.int i) (.int j) M = .ok (.bl (!decide (i = j))) M := by rw [ne_int]; by_cases h : i = j <;> simp [h]
theorem o_is0 : dIs .non .non M = .ok (.bl true) M := Eq.trans rfl rfl
theorem o_is1 : dIs (.int i) .non M = .ok (.bl false) M := Eq.trans rfl rfl
theorem o_is2 : dIs (.str z) .non M = .ok (.bl false) M := Eq.trans rfl rfl
theorem o_is3 : dIs (.tup l) .non M = .ok (.bl false) M := Eq.trans rfl rfl
theorem o_is4 : dIs (.bl k) .non M = .ok (.bl false) M := Eq.trans rfl rfl
theorem o_is5 : dIs (.ref n) .non M = .ok (.bl false) M := Eq.trans rfl rfl
theorem o_is6 : dIs (.ins cc ns l) .non M = .ok (.bl false) M := Eq.trans rfl rfl
theorem o_is7 : dIs (.fro l) .non M = .ok (.bl false) M := Eq.trans rfl rfl
theorem o_nt0 : dIsNot .non .non M = .ok (.bl false) M := Eq.trans rfl rfl
theorem o_nt1 : dIsNot (.int i) .non M = .ok (.bl true) M := Eq.trans rfl rfl
theorem o_nt2 : dIsNot (.str z) .non M = .ok (.bl true) M := Eq.trans rfl rfl
theorem o_nt3 : dIsNot (.tup l) .non M = .ok (.bl true) M := Eq.trans rfl rfl
theorem o_nt4 : dIsNot (.bl k) .non M = .ok (.bl true) M := Eq.trans rfl rfl
theorem o_nt5 : dIsNot (.ref n) .non M = .ok (.bl true) M := Eq.trans rfl rfl
theorem o_nt6 : dIsNot (.ins cc ns l) .non M = .ok (.bl true) M := Eq.trans rfl rfl
theorem o_ix0 : dIxA (.tup (a :: l)) (.int 0) M = .ok a M := ixT (i := 0) rfl
theorem o_ix1 : dIxA (.tup (a :: b :: l)) (.int 1) M = .ok b M := ixT (i := 1) rfl
theorem o_ix2 : dIxA (.tup (a :: b :: c :: l)) (.int 2) M = .ok c M := ixT (i := 2) rfl
theorem o_ix3 : dIxA (.tup (a :: b :: c :: d :: l)) (.int 3) M = .ok d M := ixT (i := 3) rfl
theorem o_ix4 : dIxA (.tup (a :: b :: c :: d :: x :: l)) (.int 4) M = .ok x M := ixT (i := 4) rfl
theorem o_ix5 : dIxA (.tup (a :: b :: c :: d :: x :: y :: l)) (.int 5) M = .ok y M := ixT (i := 5) rfl
theorem o_fx0 : dIxA (.fro (a :: l)) (.int 0) M = .ok a M := ix_fro atI_0
theorem o_fx1 : dIxA (.fro (a :: b :: l)) (.int 1) M = .ok b M := ix_fro atI_1
theorem o_fx2 : dIxA (.fro (a :: b :: c :: l)) (.int 2) M = .ok c M := ix_fro atI_2
theorem o_fx3 : dIxA (.fro (a :: b :: c :: d :: l)) (.int 3) M = .ok d M := ix_fro atI_3
theorem o_fx4 : dIxA (.fro (a :: b :: c :: d :: x :: l)) (.int 4) M = .ok x M := ix_fro atI_4
theorem o_lenT : dLen [.tup l] M = .ok (.int l.length) M := Eq.trans rfl rfl
theorem o_lenF : dLen [.fro l] M = .ok (.int l.length) M := Eq.trans rfl rfl
theorem o_asB : asB (.bl k) M = .ok k M := Eq.trans rfl rfl
theorem o_tupF : dTupF [.fro l] M = .ok (.tup l) M := Eq.trans rfl rfl
theorem o_tupT : dTupF [.tup l] M = .ok (.tup l) M := Eq.trans rfl rfl
theorem o_listF : dListF [.fro l] M = .ok (.fro l) M := Eq.trans rfl rfl
theorem o_listFT : dListF [.tup l] M = .ok (.fro l) M := Eq.trans rfl rfl
theorem o_listL : dListL [.fro l] M = .ok (.ref M.length) (M ++ [.lst l]) := Eq.trans rfl rfl
theorem o_listLT : dListL [.tup l] M = .ok (.ref M.length) (M ++ [.lst l]) := Eq.trans rfl rfl
end
/-! targets of loops, comprehensions -/
section
variable {e e1 : Env2} {M M1 : MH} {x y : D} {i j k : Nat} {ds : List D}
theorem o_tg1 : tgName i x e = some (e.set i (some x)) := Eq.trans rfl rfl
theorem o_tg2 : tgTup [i, j] (.tup [x, y]) e = some ((e.set i (some x)).set j (some y)) := Eq.trans rfl rfl
theorem o_wipe1 : wipe2 e [i] = e.set i none := Eq.trans rfl rfl
theorem o_wipe2 : wipe2 e [i, j] = (e.set j none).set i none := Eq.trans rfl rfl
theorem o_yes : bYes e M = .ok true M := Eq.trans rfl rfl
end

/-! ### a loop that goes through, step by step -/
end T2
namespace T2
open PySem L2
section
variable {e : Env2} {M : MH}

theorem y_eApp (mo ma : EM) : eApp mo ma e M = ((mo e M).bind fun x M1 => match x with
  | .ref n => match M1[n]? with
    | some (.lst _) => (ma e M1).bind fun y M2 => match M2[n]? with
      | some (.lst ds) => if ds.length < big then .ok .non (M2.set n (.lst (ds ++ [y]))) else .bad
      | _ => .bad
    | _ => .bad
  | _ => .bad) := Eq.trans rfl rfl
theorem y_eSl (mk : List D → MH → Res D) (m : EM) (l h : OM) : eSl mk m l h e M = ((m e M).bind fun x M1 => (l e M1).bind fun lo M2 => (h e M2).bind fun hi M3 => dSl mk x lo hi M3) := Eq.trans rfl rfl
theorem y_ePopAt (mo ma : EM) : ePopAt mo ma e M = ((mo e M).bind fun x M1 => match x with
  | .ref n => match M1[n]? with
    | some (.lst _) => (ma e M1).bind fun y M2 => match M2[n]?, y with
      | some (.lst ds), .int i => if 0 ≤ i ∧ i < ds.length then (match ds[i.toNat]? with
        | some d => if ds.length ≤ 1000 then .ok d (M2.set n (.lst (ds.eraseIdx i.toNat))) else .bad
        | none => .bad) else .bad
      | _, _ => .bad
    | _ => .bad
  | _ => .bad) := Eq.trans rfl rfl
theorem y_eIns (mo mi my : EM) : eIns mo mi my e M = ((mo e M).bind fun x M1 => match x with
  | .ref n => match M1[n]? with
    | some (.lst _) => (eCons mi (eCons my eNil) e M1).bind fun ys M2 => match M2[n]?, ys with
      | some (.lst ds), [.int i, y] => if ds.length < big ∧ 0 ≤ i ∧ i < 2 ^ 63 then .ok .non (M2.set n (.lst (insD ds i y))) else .bad
      | _, _ => .bad
    | _ => .bad
  | _ => .bad) := Eq.trans rfl rfl
theorem y_eChain (f f' : D → D → MH → Res D) (m1 m2 m3 : EM) : eChain f f' m1 m2 m3 e M = ((m1 e M).bind fun x M1 => (m2 e M1).bind fun y M2 => (f x y M2).bind fun r M3 => match r with
  | .bl true => (m3 e M3).bind fun z M4 => f' y z M4
  | .bl false => .ok (.bl false) M3
  | _ => .bad) := Eq.trans rfl rfl
theorem y_eMake (c n : Nat) (f : List D → MH → Res D) (ma : AM) : eMake c n f ma e M = ((ma e M).bind fun ds M1 => if ds.length + 1 = n then (f (.ref M1.length :: ds) (M1 ++ [.ob c [] []])).bind fun r M2 => match r with
  | .non => .ok (.ref M1.length) M2
  | _ => .bad else .bad) := Eq.trans rfl rfl
theorem y_eMeth (c : Nat) (m : Str) (n : Nat) (f : List D → MH → Res D) (mo : EM) (ma : AM) : eMeth c m n f mo ma e M = ((mo e M).bind fun x M1 => match instOf M1 x with
  | some (c', ns, _) => if c' = c ∧ m ∉ ns then (ma e M1).bind fun ds M2 => if ds.length + 1 = n then f (x :: ds) M2 else .bad else .bad
  | none => .bad) := Eq.trans rfl rfl
theorem y_eMakeRK (c n kk : Nat) (gz : List D → List D) (f : List D → MH → Res D) (ma mk : AM) : eMakeRK c n kk gz f ma mk e M = ((ma e M).bind fun ds M1 => (mk e M1).bind fun zs M2 => if zs.length = kk ∧ n ≤ ds.length + 1 ∧ ds.length ≤ 900 then (f (packRK n (.ref M2.length :: ds) (gz zs)) (M2 ++ [.ob c [] []])).bind fun r M3 => match r with
  | .non => .ok (.ref M2.length) M3
  | _ => .bad else .bad) := Eq.trans rfl rfl
theorem y_eMakeK (c n kk : Nat) (gD : List D → List D → List D) (f : List D → MH → Res D) (mk : AM) : eMakeK c n kk gD f mk e M = ((mk e M).bind fun zs M1 => if zs.length = kk then (f (gD [.ref M1.length] zs) (M1 ++ [.ob c [] []])).bind fun r M2 => match r with
  | .non => .ok (.ref M1.length) M2
  | _ => .bad else .bad) := Eq.trans rfl rfl
theorem y_eMakeD (c n : Nat) (d0 : List D) (f : List D → MH → Res D) (ma : AM) : eMakeD c n d0 f ma e M = ((ma e M).bind fun ds M1 => if (ds ++ d0).length + 1 = n then (f (.ref M1.length :: (ds ++ d0)) (M1 ++ [.ob c [] []])).bind fun r M2 => match r with
  | .non => .ok (.ref M1.length) M2
  | _ => .bad else .bad) := Eq.trans rfl rfl
theorem y_eStar (a : EM) (b : AM) : eStar a b e M = ((a e M).bind fun x M1 => match items M1 x with
  | some ds => (b e M1).bind fun xs M2 => .ok (ds ++ xs) M2
  | none => .bad) := Eq.trans rfl rfl
theorem y_eXFld (b : Bool) (f : Str) (ns : List Str) (ds : List D) : eXFld b f ns ds e M = (if b = true then match fieldOf f ns ds with
  | some d => .ok d M
  | none => .bad else .bad) := Eq.trans rfl rfl
theorem y_eXIsF (b : Option Bool) : eXIsF b e M = (match b with
  | some b => .ok (.bl b) M
  | none => .bad) := Eq.trans rfl rfl
theorem y_sPutF (cs : List Nat) (f : Str) (mo mv : EM) : sPutF cs f mo mv e M = ((mv e M).toS e fun v M1 => (mo e M1).toS e fun o M2 => match dPutF cs f o v M2 with
  | some M3 => .nx e M3
  | none => .bad) := Eq.trans rfl rfl
theorem y_sSetIx (f : D → D → D → MH → Option MH) (mo mi mv : EM) : sSetIx f mo mi mv e M = ((mv e M).toS e fun v M1 => (mo e M1).toS e fun o M2 => (mi e M2).toS e fun i M3 => match f o i v M3 with
  | some M4 => .nx e M4
  | none => .bad) := Eq.trans rfl rfl
theorem y_sIncF (cs : List Nat) (f : Str) (mo mv : EM) : sIncF cs f mo mv e M = ((mo e M).toS e fun o M1 => match dFld cs f o M1 with
  | .ok (.int i) _ => (mv e M1).toS e fun y M2 => match y, instOf M1 o, instOf M2 o with
    | .int j, some (c, _, _), some (c', _, _) => if c = c' then (match dPutF cs f o (.int (i + j)) M2 with
      | some M3 => .nx e M3
      | none => .bad) else .bad
    | _, _, _ => .bad
  | _ => .bad) := Eq.trans rfl rfl
theorem y_sUnp (is : List Nat) (m : EM) : sUnp is m e M = ((m e M).toS e fun d M1 => match tgTup is d e with
  | some e1 => .nx e1 M1
  | none => .bad) := Eq.trans rfl rfl
theorem y_sUnpL (is : List Nat) (m : EM) : sUnpL is m e M = ((m e M).toS e fun d M1 => match listItems M1 d with
  | some ds => if ds.length = is.length then .nx (setAll e is ds) M1 else .bad
  | none => .bad) := Eq.trans rfl rfl
theorem y_sDelD (mo mi : EM) : sDelD mo mi e M = ((mo e M).toS e fun o M1 => (mi e M1).toS e fun i M2 => match dDelD o i M2 with
  | some M3 => .nx e M3
  | none => .bad) := Eq.trans rfl rfl
theorem y_oNone : oNone  e M = (.ok none M) := Eq.trans rfl rfl
theorem y_oSome (m : EM) : oSome m e M = ((m e M).bind fun d M1 => match d with
  | .int i => .ok (some i) M1
  | _ => .bad) := Eq.trans rfl rfl
theorem y_iRange2 (a b : EM) : iRange2 a b e M = ((a e M).bind fun d M1 => (b e M1).bind fun d2 M2 => match d, d2 with
  | .int i, .int j => if -(2 ^ 62) ≤ i ∧ i < 2 ^ 62 ∧ -(2 ^ 62) ≤ j ∧ j < 2 ^ 62 then .ok (.vals (rangeD i (j - i).toNat)) M2 else .bad
  | _, _ => .bad) := Eq.trans rfl rfl
theorem y_iZip2 (a b : EM) : iZip2 a b e M = ((a e M).bind fun x M1 => (b e M1).bind fun y M2 => fZip x y M2) := Eq.trans rfl rfl
theorem y_eDNew : eDNew  e M = (.ok (.ref M.length) (M ++ [.dk [] []])) := Eq.trans rfl rfl
theorem y_eLenO  (c : Nat) (f : List D → MH → Res D) (ma : AM) : eLenO c f ma e M = (eArgs (fun ds M => match ds with
  | [x] => (match instOf M x with
    | some (c1, _, _) => if c1 = c then inR (f [x] M) else .bad
    | none => .bad)
  | _ => .bad) ma) e M := Eq.trans rfl rfl
theorem y_eOwnIn (neg : Bool) (c : Nat) (f : List D → MH → Res D) (a b : EM) : eOwnIn neg c f a b e M = ((a e M).bind fun x M1 => (b e M1).bind fun y M2 => match instOf M2 y with
  | some (c1, _, _) => if c1 = c then (blR (f [y, x] M2)).bind fun r M3 => match r with
    | .bl k => .ok (.bl (if neg then !k else k)) M3
    | _ => .bad else .bad
  | none => .bad) := Eq.trans rfl rfl
theorem y_eDGet1 (mo mk : EM) : eDGet1 mo mk e M = ((mo e M).bind fun x M1 => match x with
  | .ref n => match M1[n]? with
    | some (.dk _ _) => (mk e M1).bind fun y M2 => match M2[n]?, keyOf y with
      | some (.dk ks ds), some k => .ok ((kGet ks ds k).getD .non) M2
      | _, _ => .bad
    | _ => .bad
  | _ => .bad) := Eq.trans rfl rfl
theorem y_eDGet2 (mo mk mx : EM) : eDGet2 mo mk mx e M = ((mo e M).bind fun x M1 => match x with
  | .ref n => match M1[n]? with
    | some (.dk _ _) => (mk e M1).bind fun y M2 => (mx e M2).bind fun z M3 => match M3[n]?, keyOf y with
      | some (.dk ks ds), some k => .ok ((kGet ks ds k).getD z) M3
      | _, _ => .bad
    | _ => .bad
  | _ => .bad) := Eq.trans rfl rfl
theorem y_eDPop2 (mo mk mx : EM) : eDPop2 mo mk mx e M = ((mo e M).bind fun x M1 => match x with
  | .ref n => match M1[n]? with
    | some (.dk _ _) => (mk e M1).bind fun y M2 => (mx e M2).bind fun z M3 => match M3[n]?, keyOf y with
      | some (.dk ks ds), some k => (match kGet ks ds k with
        | some d => .ok d (M3.set n (.dk ((kDrop k ks ds).map (·.1)) ((kDrop k ks ds).map (·.2))))
        | none => .ok z M3)
      | _, _ => .bad
    | _ => .bad
  | _ => .bad) := Eq.trans rfl rfl
theorem y_sForItems (i : Nat) (tg : TgM) (body : SM) : sForItems i tg body e M = (match e[i]? with
  | some (some (.ref n)) => (match M[n]? with
    | some (.dk ks ds) => unlkK n (forV tg body (itemsD ks ds) e (M.set n (.lk ks ds)))
    | _ => .bad)
  | _ => .bad) := Eq.trans rfl rfl
theorem y_eCallRK (n k : Nat) (f : List D → MH → Res D) (ma mk : AM) : eCallRK n k f ma mk e M = ((ma e M).bind fun ds M1 => (mk e M1).bind fun zs M2 => if zs.length = k then fCallRK n f ds zs M2 else .bad) := Eq.trans rfl rfl
theorem y_eCallR  (n : Nat) (f : List D → MH → Res D) (a : AM) : eCallR n f a e M = (eArgs (fCallR n f) a) e M := Eq.trans rfl rfl
theorem y_eLenSet (m : EM) : eLenSet m e M = ((m e M).bind fun x M1 => match listItems M1 x with
  | some ds => (match strsOf ds with
    | some zs => if zs.length ≤ 1 then .ok (.int zs.length) M1 else .bad
    | none => .bad)
  | none => .bad) := Eq.trans rfl rfl
theorem y_bind_ok {A B : Type} {a : A} {k : A → MH → Res B} : (Res.ok a M).bind k = k a M := Eq.trans rfl rfl
theorem y_bind_x {A B : Type} {c : Nat} {ns : List Str} {ds : List D} {k : A → MH → Res B} : (Res.exc c ns ds M : Res A).bind k = .exc c ns ds M := Eq.trans rfl rfl
theorem y_toS_ok {d : D} {k : D → MH → SR} : (Res.ok d M).toS e k = k d M := Eq.trans rfl rfl
theorem y_toS_x {c : Nat} {ns : List Str} {ds : List D} {k : D → MH → SR} : (Res.exc c ns ds M : Res D).toS e k = .ex c ns ds e M := Eq.trans rfl rfl
/-! new things at the end of what there is -/
variable {G : MH} {o o' a b c d : MO}
theorem g_0 : (M ++ o :: G)[M.length]? = some o := by simp
theorem g_1 : (M ++ a :: o :: G)[M.length + 1]? = some o := by simp
theorem g_2 : (M ++ a :: b :: o :: G)[M.length + 2]? = some o := by simp
theorem g_3 : (M ++ a :: b :: c :: o :: G)[M.length + 3]? = some o := by simp
theorem g_4 : (M ++ a :: b :: c :: d :: o :: G)[M.length + 4]? = some o := by simp
theorem s_0 : (M ++ o :: G).set M.length o' = M ++ o' :: G := by simp
theorem g_5 {x0 x1 x2 x3 x4 : MO} : (M ++ x0 :: x1 :: x2 :: x3 :: x4 :: o :: G)[M.length + 5]? = some o := by simp
theorem o_slT {mk : List D → MH → Res D} {ds : List D} {lo hi : Option Int} : dSl mk (.tup ds) lo hi M = .ok (.tup (cutD ds lo hi)) M := Eq.trans rfl rfl
theorem o_slF {ds : List D} {lo hi : Option Int} : dSl mkF (.fro ds) lo hi M = .ok (.fro (cutD ds lo hi)) M := Eq.trans rfl rfl
end
theorem o_putF {cs : List Nat} {f : Str} {n : Nat} {v : D} {M : MH} : dPutF cs f (.ref n) v M = (match M[n]? with
  | some (.ob c ns ds) => if cs.contains c = true ∧ ns.length < 100 ∧ ns.length = ds.length then some (M.set n (.ob c (putN f v ns ds).1 (putN f v ns ds).2)) else none
  | _ => none) := Eq.trans rfl rfl
theorem o_li {n : Nat} {M : MH} : listItems M (.ref n) = (match M[n]? with
  | some (.lst ds) => some ds
  | _ => none) := Eq.trans rfl rfl
theorem o_liF {ds : List D} {M : MH} : listItems M (.fro ds) = some ds := Eq.trans rfl rfl
theorem o_lenR {n : Nat} {M : MH} : dLen [.ref n] M = (match M[n]? with
  | some (.lst ds) => .ok (.int ds.length) M
  | _ => .bad) := by
  unfold dLen
  dsimp only [T2.items]
  cases M[n]? with
  | none => rfl
  | some o => cases o <;> rfl
theorem o_tupR {n : Nat} {M : MH} : dTupF [.ref n] M = (match M[n]? with
  | some (.lst ds) => .ok (.tup ds) M
  | _ => .bad) := by
  unfold dTupF
  dsimp only [T2.items]
  cases M[n]? with
  | none => rfl
  | some o => cases o <;> rfl
theorem o_lstFR {n : Nat} {M : MH} : dListF [.ref n] M = (match M[n]? with
  | some (.lst ds) => .ok (.fro ds) M
  | _ => .bad) := by
  unfold dListF
  dsimp only [T2.items]
  cases M[n]? with
  | none => rfl
  | some o => cases o <;> rfl
theorem o_lstLR {n : Nat} {M : MH} : dListL [.ref n] M = (match M[n]? with
  | some (.lst ds) => .ok (.ref M.length) (M ++ [.lst ds])
  | _ => .bad) := by
  unfold dListL
  dsimp only [T2.items]
  cases M[n]? with
  | none => rfl
  | some o => cases o <;> rfl
theorem o_try_x {i : Nat} {ct : Nat → Option Bool} {suite : Nat → List Str → List D → SM} {c : Nat} {ns : List Str} {ds : List D} {e : Env2} {M : MH} : qTry i ct suite (.ex c ns ds e M) = (match ct c with
    | some true => if i < e.length then unbind i (suite c ns ds (e.set i none) M) else .bad
    | some false => .ex c ns ds e M
    | none => .bad) := Eq.trans rfl rfl
theorem o_try0_x {ct : Nat → Option Bool} {suite : SM} {c : Nat} {ns : List Str} {ds : List D} {e : Env2} {M : MH} : qTry0 ct suite (.ex c ns ds e M) = (match ct c with
    | some true => (match suite e M with
      | .ex _ _ _ _ _ => .bad
      | r => r)
    | some false => .ex c ns ds e M
    | none => .bad) := Eq.trans rfl rfl
theorem o_unb_rt {i : Nat} {d : D} {M : MH} : unbind i (.rt d M) = .rt d M := Eq.trans rfl rfl
theorem o_unb_nx {i : Nat} {e : Env2} {M : MH} : unbind i (.nx e M) = .nx (e.set i none) M := Eq.trans rfl rfl
theorem u_live {tg : TgM} {tt : BM} {m : EM} {vs : List Nat} {e : Env2} {q : Nat} {M : MH} : qLc tg tt m vs e (.ok (.live q) M) = (match M[q]? with
    | some (.lst ds) => lcL tg tt m (wipe2 e vs) M.length q ds.length 0 (M ++ [.lst []])
    | _ => .bad) := Eq.trans rfl rfl
theorem u_l0 {tg : TgM} {tt : BM} {m : EM} {e : Env2} {n s i : Nat} {M : MH} : lcL tg tt m e n s 0 i M = (match M[s]? with
    | some (.lst ds) => if ds.length ≤ i then .ok (.ref n) M else .bad
    | _ => .bad) := Eq.trans rfl rfl
theorem u_l1 {tg : TgM} {tt : BM} {m : EM} {e : Env2} {n s i k : Nat} {M : MH} : lcL tg tt m e n s (k + 1) i M = (match M[s]? with
    | some (.lst ds) => match ds[i]? with
      | none => .ok (.ref n) M
      | some x => (lcStep tg tt m e x M).bind fun o M1 => match pushAt n o M1 with
        | some M2 => lcL tg tt m e n s k (i + 1) M2
        | none => .bad
    | _ => .bad) := Eq.trans rfl rfl
theorem u_step {tg : TgM} {tt : BM} {m : EM} {e : Env2} {x : D} {M : MH} : lcStep tg tt m e x M = (match tg x e with
    | none => .bad
    | some e1 => (noX (tt e1 M)).bind fun b M1 => if b = true then (noX (m e1 M1)).bind fun y M2 => .ok (some y) M2 else .ok none M1) := Eq.trans rfl rfl
theorem u_nox {A : Type} {a : A} {M : MH} : noX (.ok a M) = .ok a M := Eq.trans rfl rfl
theorem u_push0 {n : Nat} {M : MH} : pushAt n none M = some M := Eq.trans rfl rfl
theorem o_rev {n : Nat} {mk : List D → MH → Res D} {M : MH} : fRev mk (.ref n) M = (match M[n]? with
    | some (.lst ds) => mk ds.reverse M
    | _ => .bad) := by
  unfold fRev listItems
  dsimp only
  cases M[n]? with
  | none => rfl
  | some o => cases o <;> rfl
theorem o_mkF {ds : List D} {M : MH} : mkF ds M = .ok (.fro ds) M := Eq.trans rfl rfl
theorem o_mkL {ds : List D} {M : MH} : mkL ds M = .ok (.ref M.length) (M ++ [.lst ds]) := Eq.trans rfl rfl
/-! ### early ends -/
theorem seq_rt' {a b : SM} {e : Env2} {M M1 : MH} {d : D} (h : a e M = .rt d M1) : sSeq a b e M = .rt d M1 := by rw [z_seq, h]; rfl
end T2
namespace T2
open PySem L2
/-! rewriting rules (no definitional steps) for T13; printed by mkw2.py -/
section
variable {e : Env2} {M : MH}

end
end T2
namespace T2
open PySem L2
/-! ### dicts with whole numbers as keys: any values -/
structure Nd where
  n : Int
  v : D
def nK (es : List Nd) : List Key := es.map fun e => Sum.inl e.n
def nV (es : List Nd) : List D := es.map fun e => e.v
def ndO (es : List Nd) : MO := .dk (nK es) (nV es)
def nPut (es : List Nd) (e : Nd) : List Nd := if e.n ∈ es.map Nd.n then es.map (fun x => if x.n = e.n then e else x) else es ++ [e]
def nDel (es : List Nd) (n : Int) : List Nd := es.filter fun e => decide (e.n ≠ n)
def nGet (es : List Nd) (n : Int) : Option Nd := es.find? fun e => decide (e.n = n)
theorem nd_memK {es : List Nd} {n : Int} : (Sum.inl n : Key) ∈ nK es ↔ n ∈ es.map Nd.n := by
  unfold nK
  simp only [List.mem_map, Sum.inl.injEq]
theorem nd_putk {es : List Nd} {e : Nd} : kPutD (Sum.inl e.n : Key) e.v (nK es) (nV es) = (nK (nPut es e), nV (nPut es e)) := by
  unfold kPutD nPut
  by_cases h : e.n ∈ es.map Nd.n
  · rw [if_pos (nd_memK.mpr h), if_pos h]
    clear h
    have h1 : nK (es.map fun x => if x.n = e.n then e else x) = nK es := by
      unfold nK
      rw [List.map_map]
      refine List.map_congr_left fun x _ => ?_
      show (Sum.inl (if x.n = e.n then e else x).n : Key) = Sum.inl x.n
      by_cases hx : x.n = e.n
      · rw [if_pos hx, hx]
      · rw [if_neg hx]
    rw [h1]
    clear h1
    congr 1
    unfold nK nV
    induction es with
    | nil => rfl
    | cons x es ih =>
      simp only [List.map_cons, List.zipWith_cons_cons]
      rw [ih]
      congr 1
      by_cases hx : x.n = e.n
      · rw [if_pos (by rw [hx]), if_pos hx]
      · rw [if_neg (fun z => hx (Sum.inl.inj z)), if_neg hx]
  · rw [if_neg (fun z => h (nd_memK.mp z)), if_neg h]
    unfold nK nV
    rw [List.map_append, List.map_append]
    rfl
theorem nd_getk {es : List Nd} {n : Int} : kGet (nK es) (nV es) (Sum.inl n) = (nGet es n).map Nd.v := by
  unfold kGet nGet nK nV
  induction es with
  | nil => rfl
  | cons x es ih =>
    rw [List.map_cons, List.map_cons, List.zip_cons_cons, List.find?_cons, List.find?_cons]
    by_cases hx : x.n = n
    · rw [decide_eq_true (show (Sum.inl x.n : Key) = Sum.inl n by rw [hx]), decide_eq_true hx]
      rfl
    · rw [decide_eq_false (fun z => hx (Sum.inl.inj z)), decide_eq_false hx]
      exact ih
theorem nd_dropk {es : List Nd} {n : Int} : (kDrop (Sum.inl n : Key) (nK es) (nV es)).map (·.1) = nK (nDel es n) ∧ (kDrop (Sum.inl n : Key) (nK es) (nV es)).map (·.2) = nV (nDel es n) := by
  unfold kDrop nDel nK nV
  induction es with
  | nil => exact ⟨rfl, rfl⟩
  | cons x es ih =>
    rw [List.map_cons, List.map_cons, List.zip_cons_cons, List.filter_cons, List.filter_cons]
    by_cases hx : x.n = n
    · rw [if_neg (by simp [hx]), if_neg (by simp [hx])]
      exact ih
    · rw [if_pos (by simp [hx]), if_pos (by simp [hx])]
      rw [List.map_cons, List.map_cons, List.map_cons, List.map_cons, ih.1, ih.2]
      exact ⟨rfl, rfl⟩
theorem nd_some {es : List Nd} {n : Int} : (nGet es n).isSome = decide (n ∈ es.map Nd.n) := by
  unfold nGet
  rw [Bool.eq_iff_iff, List.find?_isSome, decide_eq_true_eq, List.mem_map]
  constructor
  · rintro ⟨x, hx, h⟩; exact ⟨x, hx, of_decide_eq_true h⟩
  · rintro ⟨x, hx, h⟩; exact ⟨x, hx, decide_eq_true h⟩
/-! facts of the dict at p -/
section
variable {M : MH} {p : Nat} {es : List Nd} {n : Int}
theorem nd_in (h : M[p]? = some (ndO es)) : dInA (.int n) (.ref p) M = .ok (.bl (decide (n ∈ es.map Nd.n))) M := by
  unfold dInA inResA
  dsimp only
  rw [h]
  show (match (some (Sum.inl n : Key)).map fun k => (kGet (nK es) (nV es) k).isSome with | some b => Res.ok (D.bl b) M | none => .bad) = _
  rw [Option.map_some, nd_getk, Option.isSome_map, nd_some]
theorem nd_notin (h : M[p]? = some (ndO es)) : dNotInA (.int n) (.ref p) M = .ok (.bl (!decide (n ∈ es.map Nd.n))) M := by
  unfold dNotInA inResA
  dsimp only
  rw [h]
  show (match (some (Sum.inl n : Key)).map fun k => (kGet (nK es) (nV es) k).isSome with | some b => Res.ok (D.bl (!b)) M | none => .bad) = _
  rw [Option.map_some, nd_getk, Option.isSome_map, nd_some]
theorem nd_ix {e : Nd} (h : M[p]? = some (ndO es)) (he : nGet es n = some e) : dIxA (.ref p) (.int n) M = .ok e.v M := by
  unfold dIxA
  dsimp only
  rw [h]
  show (match kGet (nK es) (nV es) (Sum.inl n) with | some d => Res.ok d M | none => .bad) = _
  rw [nd_getk, he]
  rfl
theorem nd_set {e : Nd} (h : M[p]? = some (ndO es)) (hl : es.length ≤ 1000) : dSetD (.ref p) (.int e.n) e.v M = some (M.set p (ndO (nPut es e))) := by
  unfold dSetD
  dsimp only
  rw [h]
  show (if (nV es).length ≤ 1000 then some (M.set p (.dk (kPutD (Sum.inl e.n : Key) e.v (nK es) (nV es)).1 (kPutD (Sum.inl e.n : Key) e.v (nK es) (nV es)).2)) else none) = _
  rw [if_pos (by unfold nV; rw [List.length_map]; exact hl), nd_putk]
  rfl
theorem nd_del (h : M[p]? = some (ndO es)) (hn : n ∈ es.map Nd.n) : dDelD (.ref p) (.int n) M = some (M.set p (ndO (nDel es n))) := by
  unfold dDelD
  dsimp only
  rw [h]
  show (if (kGet (nK es) (nV es) (Sum.inl n)).isSome = true then some (M.set p (.dk ((kDrop (Sum.inl n : Key) (nK es) (nV es)).map (·.1)) ((kDrop (Sum.inl n : Key) (nK es) (nV es)).map (·.2)))) else none) = _
  rw [if_pos (by rw [nd_getk, Option.isSome_map, nd_some]; exact decide_eq_true hn), nd_dropk.1, nd_dropk.2]
  rfl
theorem nd_items (h : M[p]? = some (ndO es)) : fItems mkF (.ref p) M = .ok (.fro (es.map fun e => D.tup [.int e.n, e.v])) M := by
  unfold fItems
  dsimp only
  rw [h]
  show Res.ok (D.fro (itemsD (nK es) (nV es))) M = _
  have : itemsD (nK es) (nV es) = es.map fun e => D.tup [.int e.n, e.v] := by
    clear h
    unfold itemsD nK nV
    induction es with
    | nil => rfl
    | cons a l ih =>
      rw [List.map_cons, List.map_cons, List.zipWith_cons_cons, ih, List.map_cons]
      rfl
  rw [this]

end

/-! ### memory: what is elsewhere stays -/
structure Fr (S : List Nat) (M M' : MH) : Prop where
  len : M.length ≤ M'.length
  keep : ∀ (i : Nat) (o : MO), M[i]? = some o → i ∉ S → M'[i]? = some o
theorem Fr.refl {S : List Nat} {M : MH} : Fr S M M := ⟨Nat.le_refl _, fun _ _ h _ => h⟩
theorem Fr.trans {S : List Nat} {M M1 M2 : MH} (a : Fr S M M1) (b : Fr S M1 M2) : Fr S M M2 := ⟨Nat.le_trans a.len b.len, fun i o h n => b.keep i o (a.keep i o h n) n⟩
theorem Fr.mono {S T : List Nat} {M M1 : MH} (a : Fr S M M1) (h : ∀ i ∈ S, i ∈ T ∨ M.length ≤ i) : Fr T M M1 := ⟨a.len, fun i o hi n => a.keep i o hi fun z => (h i z).elim n fun q => Nat.lt_irrefl _ (Nat.lt_of_lt_of_le (List.getElem?_eq_some_iff.mp hi).1 q)⟩
theorem Fr.set {S : List Nat} {M : MH} {n : Nat} {o : MO} (h : n ∈ S) : Fr S M (M.set n o) := ⟨by simp, fun i u hi n' => by rw [List.getElem?_set_ne (fun z => n' (by rw [← z]; exact h))]; exact hi⟩
theorem Fr.app {S : List Nat} {M G : MH} : Fr S M (M ++ G) := ⟨by simp, fun i o h _ => by rw [List.getElem?_append_left (List.getElem?_eq_some_iff.mp h).1]; exact h⟩
theorem at_set {M : MH} {n : Nat} {o u : MO} (h : M[n]? = some o) : (M.set n u)[n]? = some u := by rw [List.getElem?_set_self (List.getElem?_eq_some_iff.mp h).1]
theorem at_off {M : MH} {n i : Nat} {o u : MO} (h : M[i]? = some o) (ne : n ≠ i) : (M.set n u)[i]? = some o := by rw [List.getElem?_set_ne ne]; exact h
theorem at_app {M G : MH} {i : Nat} {o : MO} (h : M[i]? = some o) : (M ++ G)[i]? = some o := by rw [List.getElem?_append_left (List.getElem?_eq_some_iff.mp h).1]; exact h
theorem at_lt {M : MH} {i : Nat} {o : MO} (h : M[i]? = some o) : i < M.length := (List.getElem?_eq_some_iff.mp h).1
theorem at_new {M : MH} {i : Nat} {o : MO} (h : M[i]? = some o) : i ≠ M.length := fun z => Nat.lt_irrefl _ (z ▸ at_lt h)
/-! ### the rewriting rules -/
section
variable {e : Env2} {M : MH}
theorem y_eRem (a b : EM) : eRem a b e M = ((a e M).bind fun x M1 => match x with
  | .ref n => match M1[n]? with
    | some (.lst _) => (b e M1).bind fun y M2 => match M2[n]? with
      | some (.lst ds) => (match intsOf ds, y with
        | some is, .int k => if is.idxOf k < is.length then .ok .non (M2.set n (.lst ((is.eraseIdx (is.idxOf k)).map D.int))) else .bad
        | _, _ => .bad)
      | _ => .bad
    | _ => .bad
  | _ => .bad) := Eq.trans rfl rfl
theorem y_eExt (a b : EM) : eExt a b e M = ((a e M).bind fun x M1 => match x with
  | .ref n => match M1[n]? with
    | some (.lst _) => (b e M1).bind fun y M2 => match M2[n]? with
      | some (.lst ds) => (match listItems M2 y with
        | some es => if ds.length + es.length ≤ 1000 then .ok .non (M2.set n (.lst (ds ++ es))) else .bad
        | none => .bad)
      | _ => .bad
    | _ => .bad
  | _ => .bad) := Eq.trans rfl rfl
theorem y_sAug {i : Nat} {m : EM} : sAug i m e M = (match e[i]? with
  | some (some (.int a)) => (m e M).toS e fun d M1 => (match d with
    | .int b => .nx (e.set i (some (.int (a + b)))) M1
    | _ => .bad)
  | _ => .bad) := Eq.trans rfl rfl
end
end T2
namespace T2
open PySem L2
/-! ### an expression that changes nothing: its value is frozen, what it has made beside is forgotten -/
open Classical in
noncomputable def eFz (m : EM) : EM := fun e M => match m e M with
  | .ok d M' => if M'.take M.length = M then (match fzA (rfz M' M.length 4) d with
    | some d' => .ok d' M
    | none => .bad) else .bad
  | _ => .bad
theorem eFz_ok {m : EM} {e : Env2} {M G : MH} {d d' : D} (h : m e M = .ok d (M ++ G)) (hd : fzA (rfz (M ++ G) M.length 4) d = some d') : eFz m e M = .ok d' M := by
  unfold eFz
  rw [h]
  dsimp only
  rw [if_pos (by simp), hd]
theorem eFz_pd {m : EM} {e : Env2} {M G : MH} {d : D} {k : Nat} (h : m e M = .ok d (M ++ G)) (hd : Pd k d) : eFz m e M = .ok d M := eFz_ok h (fz_pd hd)
theorem de_fz {X : Cx} {g : Wd} {W : WY} {a : Expr} {m : EM} (h : PE X a (tD g W m)) : PE X a (tD g W (eFz m)) :=
  pe_imp h fun σ H Q ⟨F, e, M, RS, q⟩ => ⟨F, e, M, RS, by
    unfold eFz at q
    cases hm : m e M with
    | ok d M' =>
      rw [hm] at q
      dsimp only at q
      split at q
      · rename_i hc
        split at q
        · rename_i d' hd
          intro F1 H1 v g1 R1 rv
          have e : M' = M ++ M'.drop M.length := by
            conv => lhs; rw [← List.take_append_drop M.length M', hc]
          have R1' : RelM g F1 (M ++ M'.drop M.length) H1 := by rw [← e]; exact R1
          exact q _ H1 v (g1.cut (by rw [RS.m.len]; exact Nat.le_refl _)) (R1'.cut RS.m.low) (fzA_rep (rfz_rep R1 4) rv hd)
        · exact q.elim
      · exact q.elim
    | exc c ns xs M' => rw [hm] at q; exact q.elim
    | bad => rw [hm] at q; exact q.elim⟩
end T2
namespace T2
open PySem PySem.Spec L2 PyProof.Rows

/-! ### a comprehension that an exception leaves -/
section
variable {M : Model} {A : Around} {E : Value → Shared → Prop} {s : Shared} {env : Env}
end

section
variable {Z : Obj → Prop} {base base' : Heap} {l : List Env} {a : Addr} {L C : Addr} {h h' : Heap}
end
end T2
namespace T2
open PySem PySem.Spec L2 PyProof.Rows
section
variable {M : Model} {A : Around} {E : Value → Shared → Prop} {s : Shared} {Z : Obj → Prop} {base : Heap} {env : Env} {outer l : List Env} {L e : Addr}
end
section
variable {X : Cx}
end
end T2
namespace T2
open PySem PySem.Spec L2 PyProof.Rows
section
variable {X : Cx} {W : WX}
end
/-! ### as data -/
section
variable {X : Cx} {g : Wd} {W : WY} {pos : Pos} {m : EM} {tt : BM}
variable {elt tgE iter : Expr} {ifs : List Expr} {scope : Scope} {own : List (Str × Nat)}
end
end T2
namespace T2
open PySem L2
/-! ### for a, b in xs within a comprehension -/
theorem gNs_own {vs : List Nat} {W : L2.St} : ∀ (is : List Nat), (∀ i ∈ is, i ∈ vs) → ∀ (xs : List V) (σ : L2.St) (H : Hp) (Q : L2.St → Hp → Prop), wipe σ vs = W → gNs is xs σ H Q → gNs is xs σ H fun σ2 H2 => wipe σ2 vs = W ∧ Q σ2 H2
  | [], _, xs, σ, H, Q, hw, h => ⟨h.1, hw, h.2⟩
  | i :: is, hi, xs, σ, H, Q, hw, h => by
    obtain ⟨v, r, rfl, q⟩ := h
    exact ⟨v, r, rfl, gNs_own is (fun j hj => hi j (List.mem_cons_of_mem _ hj)) r (σ.set i (some v)) H Q (by rw [wipe_get σ vs i (hi i List.mem_cons_self)]; exact hw) q⟩
theorem tgTup_own {K : PySem.W.Frag} (is : List Nat) {vs : List Nat} (h : ∀ i ∈ is, i ∈ vs) : TgOwn (tgTup is) (gTup K is.length (gNs is)) vs := fun v σ H Q q => by
  obtain ⟨a, xs, e1, e2, e3, q⟩ := q
  exact ⟨a, xs, e1, e2, e3, gNs_own is h xs _ H Q (wipe_wipe σ vs vs fun _ z => z) q⟩
end T2
namespace T2
open PySem L2
/-! ### o.m(..), m a method with *args -/
section
variable {X : Cx} {g : Wd} {W : WY} {a b o : Expr} {pos p apos : Pos} {m1 m2 : EM} {ma : AM} {es : List Expr} {k n : Nat} {f C : Addr} {m : List D → MH → Res D} {x mn : Str} {c : Nat}
end
/-! ### C(.., k = v ..), __init__ with positional and keyword-only parameters -/
section
variable {X : Cx} {g : Wd} {W : WY} {pos p : Pos} {ma mk : AM} {a : Expr} {es : List Expr} {kws : List Keyword} {k n N : Nat} {f : Addr} {fd : FuncData} {ps ks : List Str} {m : List D → MH → Res D} {x : Str} {c : Nat}
end
end T2
namespace T2
open PySem L2
/-! ### x in range(n) -/
section
variable {X : Cx}
end
section
variable {X : Cx} {g : Wd} {W : WY} {a b : Expr} {pos p q : Pos} {m1 m2 : EM}
end
end T2
namespace L2
open PySem PySem.Spec PyProof.Rows
section
variable {prog : Program} {w : World} {A : Around} {E : Value → Shared → Prop} {s : Shared}
end
section
variable {P : Program} {w : World} {H : Hp} {h : Heap} {l it : Addr} {i : Nat}
end
section
variable {X : Cx} {pins : List (Addr × Obj)} {σ : St} {H : Hp} {s : Shared} {l it a q : Addr} {A1 : Around} {i : Nat}
end
section
variable {X : Cx} {pins : List (Addr × Obj)} {σ : St} {H : Hp} {s : Shared} {k : Nat} {f : Addr} {fd : FuncData} {ps : List Str} {sp : Sp} {A' A1 : Around} {C a q fi fl : Addr} {fdI fdL : FuncData} {psI psL : List Str} {spI spL : Sp} {n : Nat}
end
end L2
namespace T2
open PySem L2
/-! ### list(o) of an own iterable whose __iter__ hands out iter(self.f), f a tuple -/
section
variable {X : Cx} {g : Wd} {W : WY} {a : Expr} {es : List Expr} {pos p : Pos} {ma : AM} {c n : Nat} {fi fl : Addr} {fdI fdL : FuncData} {psI psL : List Str} {fld : Str} {m : List D → MH → Res D}
end
end T2
namespace T2
open PySem PySem.Spec L2 PyProof.Rows HotX
section
variable {prog : Program} {w : World} {A : Around} {E : Value → Shared → Prop} {s : Shared}
end
section
variable {X : Cx} {g : Wd} {W : WY} {a : Expr} {es : List Expr} {pos p : Pos} {ma : AM}
end
end T2
namespace T2
open PySem L2
/-! ### single steps as lemmas (for terms instead of rewriting) -/
namespace St
section
variable {e : Env2} {M M1 M2 M3 : MH}
theorem bin {f : D → D → MH → Res D} {a c : EM} {x y z : D} (h1 : a e M = .ok x M1) (h2 : c e M1 = .ok y M2) (h3 : f x y M2 = .ok z M3) : eBin f a c e M = .ok z M3 := by
  unfold eBin
  rw [h1, Res.bind_ok, h2, Res.bind_ok, h3]
theorem un {f : D → MH → Res D} {a : EM} {x z : D} (h1 : a e M = .ok x M1) (h3 : f x M1 = .ok z M2) : eUn f a e M = .ok z M2 := by
  unfold eUn
  rw [h1, Res.bind_ok, h3]
theorem cons {a : EM} {r : AM} {d : D} {ds : List D} (h1 : a e M = .ok d M1) (h2 : r e M1 = .ok ds M2) : eCons a r e M = .ok (d :: ds) M2 := by rw [y_cons, h1, y_cons1, h2, y_cons2]
theorem nil : eNil e M = .ok [] M := y_anil
theorem call {n : Nat} {m : List D → MH → Res D} {ma : AM} {ds : List D} {r : Res D} (h : ma e M = .ok ds M1) (hn : ds.length = n) (hr : m ds M1 = r) : eCall n m ma e M = r := by
  unfold eCall eArgs
  rw [h, Res.bind_ok, ← hr]
  exact if_pos hn
theorem args {f : List D → MH → Res D} {ma : AM} {ds : List D} {r : Res D} (h : ma e M = .ok ds M1) (hr : f ds M1 = r) : eArgs f ma e M = r := by
  unfold eArgs
  rw [h, Res.bind_ok, hr]
theorem meth {c n : Nat} {nm : Str} {m : List D → MH → Res D} {mo : EM} {ma : AM} {o : D} {ns : List Str} {vs ds : List D} {r : Res D} (h0 : mo e M = .ok o M) (h1 : instOf M o = some (c, ns, vs)) (h2 : nm ∉ ns) (h : ma e M = .ok ds M1) (hn : ds.length + 1 = n) (hr : m (o :: ds) M1 = r) : eMeth c nm n m mo ma e M = r := by
  unfold eMeth
  rw [h0, Res.bind_ok, h1]
  dsimp only
  rw [if_pos ⟨rfl, h2⟩, h, Res.bind_ok, if_pos hn, hr]
theorem fro {a : AM} {ds : List D} (h : a e M = .ok ds M1) (hl : ds.length ≤ 1000 := by simp) : eFro a e M = .ok (.fro ds) M1 := by
  unfold eFro eArgs
  rw [h, Res.bind_ok]
  exact if_pos hl
theorem tup {a : AM} {ds : List D} (h : a e M = .ok ds M1) (hl : ds.length ≤ 1000 := by simp) : eTup a e M = .ok (.tup ds) M1 := by
  unfold eTup eArgs
  rw [h, Res.bind_ok]
  exact if_pos hl
theorem lst {a : AM} {ds : List D} (h : a e M = .ok ds M1) (hl : ds.length ≤ 1000 := by simp) : eLst a e M = .ok (.ref M1.length) (M1 ++ [.lst ds]) := by
  unfold eLst eArgs
  rw [h, Res.bind_ok]
  exact if_pos hl
theorem val {m : EM} {b : Bool} (h : m e M = .ok (.bl b) M1) : bVal m e M = .ok b M1 := by
  rw [y_val, h]
  rfl
theorem not {m : BM} {b : Bool} (h : m e M = .ok b M1) : bNot m e M = .ok (!b) M1 := by
  unfold bNot
  rw [h]
  rfl
theorem bor {c d : BM} {b1 b2 : Bool} (h1 : c e M = .ok b1 M) (h2 : d e M = .ok b2 M) : bOr c d e M = .ok (b1 || b2) M := by
  rw [y_or, h1]
  cases b1
  · rw [y_or_f, h2]; rfl
  · rw [y_or_t]; rfl
theorem band {c d : BM} {b1 b2 : Bool} (h1 : c e M = .ok b1 M) (h2 : d e M = .ok b2 M) : bAnd c d e M = .ok (b1 && b2) M := by
  rw [y_and, h1]
  cases b1
  · rw [y_and_f]; rfl
  · rw [y_and_t, h2]; rfl
theorem app {n : Nat} {ds : List D} {y : D} {mo ma : EM} (h1 : mo e M = .ok (.ref n) M) (h2 : ∃ ds0, M[n]? = some (.lst ds0)) (h3 : ma e M = .ok y M2) (h4 : M2[n]? = some (.lst ds)) (h5 : ds.length < 1000) : eApp mo ma e M = .ok .non (M2.set n (MO.lst (ds ++ [y]))) := app_run h1 h2 h3 h4 h5
theorem mk {c n : Nat} {f : List D → MH → Res D} {ma : AM} {ds : List D} (h : ma e M = .ok ds M1) (hn : ds.length + 1 = n) (hr : f (.ref M1.length :: ds) (M1 ++ [.ob c [] []]) = .ok .non M2) : eMake c n f ma e M = .ok (.ref M1.length) M2 := by
  rw [y_eMake, h, Res.bind_ok, if_pos hn, hr, Res.bind_ok]
theorem bandF {c d : BM} (h1 : c e M = .ok false M1) : bAnd c d e M = .ok false M1 := by rw [y_and, h1, y_and_f]
theorem bandT {c d : BM} {r : Res Bool} (h1 : c e M = .ok true M1) (h2 : d e M1 = r) : bAnd c d e M = r := by rw [y_and, h1, y_and_t, h2]
theorem borT {c d : BM} (h1 : c e M = .ok true M1) : bOr c d e M = .ok true M1 := by rw [y_or, h1, y_or_t]
theorem borF {c d : BM} {r : Res Bool} (h1 : c e M = .ok false M1) (h2 : d e M1 = r) : bOr c d e M = r := by rw [y_or, h1, y_or_f, h2]
/-! statements -/
theorem seq {a b : SM} {e1 : Env2} {r : SR} (h : a e M = .nx e1 M1) (h2 : b e1 M1 = r) : sSeq a b e M = r := seq_run h h2
theorem set {m : EM} {d : D} {i : Nat} (h : m e M = .ok d M1) : sSet i m e M = .nx (e.set i (some d)) M1 := set_nx h
theorem sdo {m : EM} {d : D} (h : m e M = .ok d M1) : sDo m e M = .nx e M1 := by rw [y_do, h, y_do_ok]
theorem ifT {c : BM} {a b : SM} {r : SR} (h : c e M = .ok true M1) (h2 : a e M1 = r) : sIf c a b e M = r := by rw [y_if, h, y_if_t, h2]
theorem ifF {c : BM} {a b : SM} {r : SR} (h : c e M = .ok false M1) (h2 : b e M1 = r) : sIf c a b e M = r := by rw [y_if, h, y_if_f, h2]
theorem ret {m : EM} {d : D} (h : m e M = .ok d M1) : sRet m e M = .rt d M1 := ret_rt h
theorem fn {n : Nat} {b : SM} {ds : List D} {d : D} (h : b (env0 n ds) M = .rt d M1) : fnB n b ds M = .ok d M1 := by rw [y_fn, h, y_toR_rt]
theorem fnN {n : Nat} {b : SM} {ds : List D} {e1 : Env2} (h : b (env0 n ds) M = .nx e1 M1) : fnB n b ds M = .ok .non M1 := by rw [y_fn, h, y_toR_nx]
theorem setIx {f : D → D → D → MH → Option MH} {mo mi mv : EM} {v o i : D} {M4 : MH} (hv : mv e M = .ok v M1) (ho : mo e M1 = .ok o M2) (hi : mi e M2 = .ok i M3) (hf : f o i v M3 = some M4) : sSetIx f mo mi mv e M = .nx e M4 := by
  rw [y_sSetIx, hv, y_toS_ok, ho, y_toS_ok, hi, y_toS_ok, hf]
theorem delD {mo mi : EM} {o i : D} (ho : mo e M = .ok o M1) (hi : mi e M1 = .ok i M2) (hf : dDelD o i M2 = some M3) : sDelD mo mi e M = .nx e M3 := by
  rw [y_sDelD, ho, y_toS_ok, hi, y_toS_ok, hf]
theorem putF {cs : List Nat} {f : Str} {mo mv : EM} {v o : D} (hv : mv e M = .ok v M1) (ho : mo e M1 = .ok o M2) (hf : dPutF cs f o v M2 = some M3) : sPutF cs f mo mv e M = .nx e M3 := by
  rw [y_sPutF, hv, y_toS_ok, ho, y_toS_ok, hf]
theorem aug {m : EM} {i : Nat} {a b : Int} (h : e[i]? = some (some (.int a))) (hm : m e M = .ok (.int b) M1) : sAug i m e M = .nx (e.set i (some (.int (a + b)))) M1 := by
  rw [y_sAug, h]
  dsimp only
  rw [hm, y_toS_ok]
theorem rem {a b : EM} {n : Nat} {ds0 : List D} {is : List Int} {k : Int} (h1 : a e M = .ok (.ref n) M1) (h2 : M1[n]? = some (.lst ds0)) (h3 : b e M1 = .ok (.int k) M2) (h4 : M2[n]? = some (.lst (is.map D.int))) (h5 : k ∈ is) : eRem a b e M = .ok .non (M2.set n (.lst ((is.erase k).map D.int))) := by
  rw [y_eRem, h1, y_bind_ok]
  dsimp only
  rw [h2]
  dsimp only
  rw [h3, y_bind_ok, h4]
  dsimp only
  rw [intsOf_map]
  dsimp only
  rw [if_pos (List.idxOf_lt_length_iff.mpr h5), ← List.erase_eq_eraseIdx_of_idxOf rfl]
theorem ext {a b : EM} {n : Nat} {y : D} {ds0 ds es : List D} (h1 : a e M = .ok (.ref n) M1) (h2 : M1[n]? = some (.lst ds0)) (h3 : b e M1 = .ok y M2) (h4 : M2[n]? = some (.lst ds)) (h5 : listItems M2 y = some es) (h6 : ds.length + es.length ≤ 1000) : eExt a b e M = .ok .non (M2.set n (.lst (ds ++ es))) := by
  rw [y_eExt, h1, y_bind_ok]
  dsimp only
  rw [h2]
  dsimp only
  rw [h3, y_bind_ok, h4]
  dsimp only
  rw [h5]
  dsimp only
  rw [if_pos h6]
theorem itF {m : EM} {ds : List D} (h : m e M = .ok (.fro ds) M1) : iSeq m e M = .ok (.vals ds) M1 := by
  rw [y_iseq, h, y_iseq_f]
theorem itR {m : EM} {i : Int} (h : m e M = .ok (.int i) M1) (h0 : 0 ≤ i) (h1 : i < 1000000) : iRange1 m e M = .ok (.vals (rangeD 0 i.toNat)) M1 := by
  rw [y_rng, h, z_rng_ok h0 h1]
theorem lenO {c : Nat} {f : List D → MH → Res D} {ma : AM} {x : D} {ns : List Str} {vs : List D} {i : Nat} (h : ma e M = .ok [x] M1) (hi : instOf M1 x = some (c, ns, vs)) (hr : f [x] M1 = .ok (.int i) M2) (hl : i < 1000000) : eLenO c f ma e M = .ok (.int i) M2 := by
  unfold eLenO
  refine args h ?_
  dsimp only
  rw [hi]
  dsimp only
  rw [if_pos rfl, hr]
  unfold inR
  dsimp only
  rw [if_pos (by omega)]
theorem popAt {a b : EM} {n : Nat} {ds0 ds : List D} {i : Nat} {d : D} (h1 : a e M = .ok (.ref n) M1) (h2 : M1[n]? = some (.lst ds0)) (h3 : b e M1 = .ok (.int (i : Nat)) M2) (h4 : M2[n]? = some (.lst ds)) (h5 : ds[i]? = some d) (h6 : ds.length ≤ 1000) : ePopAt a b e M = .ok d (M2.set n (.lst (ds.eraseIdx i))) := by
  have hi := (List.getElem?_eq_some_iff.mp h5).1
  rw [y_ePopAt, h1, y_bind_ok]
  dsimp only
  rw [h2]
  dsimp only
  rw [h3, y_bind_ok, h4]
  dsimp only
  rw [if_pos (by omega), Int.toNat_natCast, h5]
  dsimp only
  rw [if_pos h6]
theorem sl {mk : List D → MH → Res D} {m : EM} {l h : OM} {x z : D} {lo hi : Option Int} {M4 : MH} (h1 : m e M = .ok x M1) (h2 : l e M1 = .ok lo M2) (h3 : h e M2 = .ok hi M3) (h4 : dSl mk x lo hi M3 = .ok z M4) : eSl mk m l h e M = .ok z M4 := by
  rw [y_eSl, h1, y_bind_ok, h2, y_bind_ok, h3, y_bind_ok, h4]
theorem oS {m : EM} {i : Int} (h : m e M = .ok (.int i) M1) : oSome m e M = .ok (some i) M1 := by
  rw [y_oSome, h, y_bind_ok]
theorem oN : oNone e M = .ok none M := y_oNone
/-! an object made at the memory's end -/
theorem putG {c : Nat} {f : Str} {mv : EM} {G G' : MH} {ns ns' : List Str} {ds ds' : List D} {v : D} (h0 : e[0]? = some (some (.ref M.length))) (hv : mv e (M ++ .ob c ns ds :: G) = .ok v (M ++ .ob c ns ds :: G')) (h5 : putN f v ns ds = (ns', ds')) (h1 : ns.length < 100 := by decide) (h2 : ns.length = ds.length := by rfl) : sPutF [c] f (eVar 0) mv e (M ++ .ob c ns ds :: G) = .nx e (M ++ .ob c ns' ds' :: G') := by
  refine putF hv (var_ok h0) ?_
  rw [put_ob (c := c) (ns := ns) (ds := ds) g_0 h1 h2, h5, s_0]
theorem lstG {x : MO} {G : MH} : eLst eNil e (M ++ x :: G) = .ok (.ref (M.length + (G.length + 1))) (M ++ x :: (G ++ [.lst []])) := by
  rw [lst (M1 := M ++ x :: G) nil (by simp)]
  simp
theorem dnG {x : MO} {G : MH} : eDNew e (M ++ x :: G) = .ok (.ref (M.length + (G.length + 1))) (M ++ x :: (G ++ [.dk [] []])) := by
  rw [y_eDNew]
  simp
/-! one turn of a for -/
theorem fvN {tg : TgM} {b : SM} {x : D} {xs : List D} {e1 e2 : Env2} {r : SR} (ht : tg x e = some e1) (hb : b e1 M = .nx e2 M1) (h : forV tg b xs e2 M1 = r) : forV tg b (x :: xs) e M = r := by
  unfold forV
  rw [ht]
  dsimp only
  rw [hb]
  exact h
theorem fvB {tg : TgM} {b : SM} {x : D} {xs : List D} {e1 e2 : Env2} (ht : tg x e = some e1) (hb : b e1 M = .bk e2 M1) : forV tg b (x :: xs) e M = .nx e2 M1 := by
  unfold forV
  rw [ht]
  dsimp only
  rw [hb]
theorem fvR {tg : TgM} {b : SM} {x : D} {xs : List D} {e1 : Env2} {d : D} (ht : tg x e = some e1) (hb : b e1 M = .rt d M1) : forV tg b (x :: xs) e M = .rt d M1 := by
  unfold forV
  rw [ht]
  dsimp only
  rw [hb]
end
end St
theorem Fr.ext {M M' : MH} (h : Fr [] M M') : ∃ G, M' = M ++ G := by
  refine ⟨M'.drop M.length, ?_⟩
  conv => lhs; rw [← List.take_append_drop M.length M']
  congr 1
  refine List.ext_getElem? fun i => ?_
  rw [List.getElem?_take]
  by_cases hi : i < M.length
  · rw [if_pos hi]
    have := h.keep i M[i] (List.getElem?_eq_getElem hi) (by simp)
    rw [this, List.getElem?_eq_getElem hi]
  · rw [if_neg hi, List.getElem?_eq_none (by omega)]
theorem Fr.box {o o' : MO} {T M' : MH} (h : Fr [0] (o :: T) M') (h0 : M'[0]? = some o') : ∃ G, M' = o' :: (T ++ G) := by
  cases M' with
  | nil => simp at h0
  | cons x T' =>
    rw [List.getElem?_cons_zero] at h0
    cases h0
    have f : Fr [] T T' := ⟨by have := h.len; simp at this; exact this, fun i u hi _ => by
      have := h.keep (i + 1) u (by rw [List.getElem?_cons_succ]; exact hi) (by simp)
      rw [List.getElem?_cons_succ] at this
      exact this⟩
    obtain ⟨G, rfl⟩ := f.ext
    exact ⟨G, rfl⟩
/-- one after the other: the second may also change what is new -/
theorem Fr.seq {S S' : List Nat} {M M1 M2 : MH} (a : Fr S M M1) (b : Fr S' M1 M2) (h : ∀ i ∈ S', i ∈ S ∨ M.length ≤ i) : Fr S M M2 :=
  ⟨Nat.le_trans a.len b.len, fun i o hi n => b.keep i o (a.keep i o hi n) fun z => (h i z).elim n fun q => Nat.lt_irrefl _ (Nat.lt_of_lt_of_le (List.getElem?_eq_some_iff.mp hi).1 q)⟩
/-- what stood behind the end is new -/
theorem Fr.new {S : List Nat} {M M1 : MH} (a : Fr S M M1) (h : ∀ i ∈ S, M.length ≤ i) : Fr [] M M1 := a.mono fun i hi => .inr (h i hi)
/-! ### comprehensions whose parts change nothing: any target, any test -/
theorem lcV_all {α : Type} {tg : TgM} {tt : BM} {m : EM} {e : Env2} {M0 : MH} {f : α → D} {g : α → Option D} : ∀ (xs : List α) (acc : List D), (∀ x ∈ xs, ∀ acc, lcStep tg tt m e (f x) (M0 ++ [.lst acc]) = .ok (g x) (M0 ++ [.lst acc])) → acc.length + xs.length ≤ 1000 →
    lcV tg tt m e M0.length (xs.map f) (M0 ++ [.lst acc]) = .ok (.ref M0.length) (M0 ++ [.lst (acc ++ xs.filterMap g)])
  | [], acc, _, _ => by rw [List.filterMap_nil, List.append_nil]; rfl
  | x :: xs, acc, h, hl => by
    rw [List.map_cons]
    unfold lcV
    rw [h x List.mem_cons_self acc, Res.bind_ok]
    rw [List.length_cons] at hl
    cases hg : g x with
    | none =>
      have ih := lcV_all (M0 := M0) xs acc (fun y hy => h y (List.mem_cons_of_mem _ hy)) (by omega)
      rw [List.filterMap_cons, hg]
      exact ih
    | some y =>
      have hp : pushAt M0.length (some y) (M0 ++ [.lst acc]) = some (M0 ++ [.lst (acc ++ [y])]) := by
        rw [push_ok (acc := acc) (by simp) (by omega)]
        simp
      rw [hp]
      have ih := lcV_all (M0 := M0) xs (acc ++ [y]) (fun y hy => h y (List.mem_cons_of_mem _ hy)) (by simp; omega)
      rw [List.filterMap_cons, hg]
      dsimp only
      rw [ih, List.append_assoc]
      rfl
theorem lcL_all {α : Type} {tg : TgM} {tt : BM} {m : EM} {e : Env2} {M0 : MH} {s : Nat} {f : α → D} {g : α → Option D} {zs : List α} (hs : M0[s]? = some (.lst (zs.map f))) : ∀ (xs ys : List α) (acc : List D), zs = ys ++ xs → (∀ x ∈ xs, ∀ acc, lcStep tg tt m e (f x) (M0 ++ [.lst acc]) = .ok (g x) (M0 ++ [.lst acc])) → acc.length + xs.length ≤ 1000 →
    lcL tg tt m e M0.length s xs.length ys.length (M0 ++ [.lst acc]) = .ok (.ref M0.length) (M0 ++ [.lst (acc ++ xs.filterMap g)])
  | [], ys, acc, hz, _, _ => by
    rw [List.filterMap_nil, List.append_nil, List.length_nil, u_l0, at_app hs]
    dsimp only
    rw [if_pos (by rw [hz]; simp)]
  | x :: xs, ys, acc, hz, h, hl => by
    rw [List.length_cons, u_l1, at_app hs]
    dsimp only
    have hx : (zs.map f)[ys.length]? = some (f x) := by rw [hz]; simp
    rw [hx]
    dsimp only
    rw [h x List.mem_cons_self acc, Res.bind_ok]
    rw [List.length_cons] at hl
    cases hg : g x with
    | none =>
      have ih := lcL_all (M0 := M0) hs xs (ys ++ [x]) acc (by rw [hz]; simp) (fun y hy => h y (List.mem_cons_of_mem _ hy)) (by omega)
      rw [List.filterMap_cons, hg, u_push0]
      rw [List.length_append] at ih
      exact ih
    | some y =>
      have hp : pushAt M0.length (some y) (M0 ++ [.lst acc]) = some (M0 ++ [.lst (acc ++ [y])]) := by
        rw [push_ok (acc := acc) (by simp) (by omega)]
        simp
      rw [hp]
      have ih := lcL_all (M0 := M0) hs xs (ys ++ [x]) (acc ++ [y]) (by rw [hz]; simp) (fun y hy => h y (List.mem_cons_of_mem _ hy)) (by simp; omega)
      rw [List.filterMap_cons, hg]
      dsimp only
      rw [List.length_append] at ih
      rw [List.append_assoc] at ih
      exact ih
/-- a comprehension over a list or a tuple, however it stands -/
theorem lc_all {α : Type} {mo : EM} {tg : TgM} {tt : BM} {m : EM} {vs : List Nat} {e : Env2} {M0 M : MH} {l : D} {f : α → D} {g : α → Option D} {xs : List α} (hi : mo e M0 = .ok l M) (hs : T2.items M l = some (xs.map f))
    (h : ∀ x ∈ xs, ∀ acc, lcStep tg tt m (wipe2 e vs) (f x) (M ++ [.lst acc]) = .ok (g x) (M ++ [.lst acc])) (hl : xs.length ≤ 1000) : eLc (iSeq mo) tg tt m vs e M0 = .ok (.ref M.length) (M ++ [.lst (xs.filterMap g)]) := by
  rw [z_lc, y_iseq, hi]
  have hc : (l = .tup (xs.map f) ∨ l = .fro (xs.map f)) ∨ ∃ n, l = .ref n ∧ M[n]? = some (.lst (xs.map f)) := by
    unfold T2.items at hs
    split at hs
    all_goals first
      | (cases hs; done)
      | (cases hs; exact .inl (.inl rfl))
      | (cases hs; exact .inl (.inr rfl))
      | (split at hs <;> first | (cases hs; done) | (rename_i hm; cases hs; exact .inr ⟨_, rfl, hm⟩))
      | skip
  rcases hc with (rfl | rfl) | ⟨n, rfl, hn⟩
  · have := lcV_all (M0 := M) xs [] h (by simpa using hl)
    rw [y_iseq_t, y_lc_v]; simpa using this
  · have := lcV_all (M0 := M) xs [] h (by simpa using hl)
    rw [y_iseq_f, y_lc_v]; simpa using this
  · rw [y_iseq_r, u_live, hn]
    dsimp only
    have := lcL_all (M0 := M) hn xs [] [] rfl h (by simpa using hl)
    simp only [List.length_map]
    simpa using this
theorem fm_map {α β : Type} {g : α → β} {xs : List α} : xs.filterMap (fun x => some (g x)) = xs.map g := by
  rw [← List.filterMap_eq_map]
  rfl
theorem fm_get {α β : Type} (l : List α) (g : α → β) : (List.range l.length).filterMap (fun i => l[i]?.map g) = l.map g := by
  have : ∀ (n : Nat), n ≤ l.length → (List.range n).filterMap (fun i => l[i]?.map g) = (l.take n).map g := by
    intro n
    induction n with
    | zero => intro _; rfl
    | succ n ih =>
      intro h
      rw [List.range_succ, List.filterMap_append, ih (by omega), List.take_add_one, List.map_append]
      congr 1
      rw [List.getElem?_eq_getElem (by omega : n < l.length)]
      simp [List.getElem?_eq_getElem (by omega : n < l.length)]
  rw [this l.length (Nat.le_refl _), List.take_length]
theorem rng_map {n : Nat} : rangeD 0 n = (List.range n).map fun i => D.int (i : Nat) := by
  unfold rangeD
  exact List.map_congr_left fun i _ => by rw [Int.zero_add]
theorem fm_if {α β : Type} {p : α → Bool} {g : α → β} {xs : List α} : xs.filterMap (fun x => if p x = true then some (g x) else none) = (xs.filter p).map g := by
  induction xs with
  | nil => rfl
  | cons x xs ih =>
    rw [List.filterMap_cons, List.filter_cons]
    cases h : p x
    · simp only [Bool.false_eq_true, if_false]; exact ih
    · simp only [if_true, List.map_cons]; rw [ih]
/-- each item turned -/
theorem lc_each {α : Type} {mo : EM} {tg : TgM} {m : EM} {vs : List Nat} {e : Env2} {M0 M : MH} {l : D} {f g : α → D} {xs : List α} (hi : mo e M0 = .ok l M) (hs : T2.items M l = some (xs.map f))
    (h : ∀ x ∈ xs, ∀ acc, lcStep tg bYes m (wipe2 e vs) (f x) (M ++ [.lst acc]) = .ok (some (g x)) (M ++ [.lst acc])) (hl : xs.length ≤ 1000) : eLc (iSeq mo) tg bYes m vs e M0 = .ok (.ref M.length) (M ++ [.lst (xs.map g)]) := by
  rw [← fm_map]
  exact lc_all (g := fun x => some (g x)) hi hs h hl
theorem eqS {x y : Str} (hx : PyData.strOk x = true) (hy : PyData.strOk y = true) {M : MH} : dEq (.str x) (.str y) M = .ok (.bl (decide (x = y))) M := by
  have := eq_nb (k := 1) (by decide) (nb_str hx) (nb_str hy) (M := M)
  refine this.trans ?_
  by_cases h : x = y
  · subst h
    rw [@decide_eq_true (D.str x = D.str x) (_) rfl, decide_eq_true rfl]
  · rw [@decide_eq_false (D.str x = D.str y) (_) (fun z => h (by cases z; rfl)), decide_eq_false h]
/-! ### data without places: frozen, it is what it was -/
mutual
theorem fz_low {rf : Nat → Option D} : ∀ {d : D}, D.low 0 d → fzA rf d = some d
  | .ref n, h => absurd h (Nat.not_lt_zero n)
  | .tup ds, h => by unfold fzA; rw [fzs_low (ds := ds) h]; rfl
  | .fro ds, h => by unfold fzA; rw [fzs_low (ds := ds) h]; rfl
  | .ins c ns ds, h => by unfold fzA; rw [fzs_low (ds := ds) h]; rfl
  | .non, _ => rfl
  | .bl _, _ => rfl
  | .int _, _ => rfl
  | .str _, _ => rfl
  | .ty _, _ => rfl
  | .cls _, _ => rfl
  | .obj _, _ => rfl
  | .tk _, _ => rfl
theorem fzs_low {rf : Nat → Option D} : ∀ {ds : List D}, D.lows 0 ds → fzAs rf ds = some ds
  | [], _ => rfl
  | d :: ds, h => by
    unfold fzAs
    rw [fz_low (d := d) h.1, fzs_low (ds := ds) h.2]
end
theorem lows_of {k : Nat} : ∀ {ds : List D}, (∀ a ∈ ds, D.low k a) → D.lows k ds
  | [], _ => trivial
  | d :: ds, h => ⟨h d List.mem_cons_self, lows_of fun a ha => h a (List.mem_cons_of_mem _ ha)⟩
theorem low_pd : ∀ {k m : Nat} {x : D}, Pd k x → D.low m x
  | 0, _, _, h => h.elim
  | k + 1, m, x, h => by
    rcases h with rfl | ⟨b, rfl⟩ | ⟨i, rfl⟩ | ⟨s, rfl, ho⟩ | ⟨xs, rfl, hl, ha⟩
    · exact trivial
    · exact trivial
    · exact trivial
    · exact trivial
    · exact lows_of (ds := xs) fun a h => low_pd (ha a h)
theorem low_fro {k : Nat} {xs : List D} (h : ∀ a ∈ xs, D.low k a) : D.low k (.fro xs) := lows_of (ds := xs) h
theorem low_tup {k : Nat} {xs : List D} (h : ∀ a ∈ xs, D.low k a) : D.low k (.tup xs) := lows_of (ds := xs) h
/-- a new list, frozen -/
theorem fz_list {M : MH} {k f n : Nat} {ds ds' : List D} (hn : k ≤ n) (h : M[n]? = some (.lst ds)) (hd : fzAs (rfz M k f) ds = some ds') : fzA (rfz M k (f + 1)) (.ref n) = some (.fro ds') := by
  show rfz M k (f + 1) n = _
  unfold rfz
  rw [if_neg (by omega), h]
  dsimp only
  rw [hd]
  rfl
theorem frzP_lst {f : List D → MH → Res D} {ds : List D} {M G : MH} {p : Nat} {xs : List D} (h : f ds M = .ok (.ref p) (M ++ G)) (hp : M.length ≤ p) (hG : (M ++ G)[p]? = some (.lst xs)) (hx : ∀ a ∈ xs, D.low 0 a) : frzP f ds M = .ok (.fro xs) M :=
  frzP_ok h (fz_list (f := 3) hp hG (fzs_low (lows_of hx)))
theorem frzP_low {f : List D → MH → Res D} {ds : List D} {M G : MH} {d : D} (h : f ds M = .ok d (M ++ G)) (hx : D.low 0 d) : frzP f ds M = .ok d M := frzP_ok h (fz_low hx)
theorem frzB_lst {f : List D → MH → Res D} {ds : List D} {s s' : Bx} {T G : MH} {p : Nat} {xs : List D} (h : f ds (s.obj :: T) = .ok (.ref p) (s'.obj :: (T ++ G))) (hp : T.length < p) (hG : (s'.obj :: (T ++ G))[p]? = some (.lst xs)) (hx : ∀ a ∈ xs, D.low 0 a) : frzB f ds (s.obj :: T) = .ok (.fro xs) (s'.obj :: T) :=
  frz_ok h box_low (fz_list (f := 3) hp hG (fzs_low (lows_of hx)))
theorem frzB_low {f : List D → MH → Res D} {ds : List D} {s s' : Bx} {T G : MH} {d : D} (h : f ds (s.obj :: T) = .ok d (s'.obj :: (T ++ G))) (hx : D.low 0 d) : frzB f ds (s.obj :: T) = .ok d (s'.obj :: T) := frz_ok h box_low (fz_low hx)
theorem o_itF {l : List D} {M : MH} : T2.items M (.fro l) = some l := Eq.trans rfl rfl
theorem o_itT {l : List D} {M : MH} : T2.items M (.tup l) = some l := Eq.trans rfl rfl
/-! lists in the memory -/
theorem row_li {M : MH} {p : Nat} {ds : List D} (h : M[p]? = some (.lst ds)) : listItems M (.ref p) = some ds := by rw [o_li, h]
theorem row_it {M : MH} {p : Nat} {ds : List D} (h : M[p]? = some (.lst ds)) : T2.items M (.ref p) = some ds := by
  unfold T2.items
  dsimp only
  rw [h]
theorem row_ix {M : MH} {p i : Nat} {ds : List D} {x : D} (h : M[p]? = some (.lst ds)) (hx : ds[i]? = some x) : dIxA (.ref p) (.int (i : Nat)) M = .ok x M := SeqOf.ix (t := "list") (.inr ⟨rfl, row_li h⟩) hx
theorem row_set {M : MH} {p i : Nat} {ds : List D} {x : D} (h : M[p]? = some (.lst ds)) (hi : i < ds.length) : dSetIx (.ref p) (.int (i : Nat)) x M = some (M.set p (.lst (ds.set i x))) := by
  unfold dSetIx
  dsimp only
  rw [h]
  dsimp only
  have : ixN ds.length (i : Nat) = some i := by
    unfold ixN
    rw [if_pos (by omega), if_pos (by omega)]
    simp
  rw [this]
theorem row_len {M : MH} {p : Nat} {ds : List D} (h : M[p]? = some (.lst ds)) : dLen [.ref p] M = .ok (.int ds.length) M := by rw [o_lenR, h]
end T2
namespace K80
open PySem L2 T2
def top (i : Nat) : Stmt := PySem.Challenge.pw_bookstogether_k80_begin_order_without_ov.main.body.getD i (.Pass ⟨0, 0, 0, 0⟩)
abbrev s_law_draw : Stmt := top 13
theorem sc_law_draw : FnScope ["_law_box_here", "_law_size", "_law_drawn", "_law_mixed"] ["_law_box_here", "_law_size"] (defScope s_law_draw) := ⟨rfl, rfl, rfl, by decide +kernel, rfl, by decide +kernel, by decide +kernel⟩
abbrev s_law_names : Stmt := top 15
theorem sc_law_names : FnScope ["_law_box_here", "_law_many", "_law_letters", "_law_names_here", "_law_k", "_law_stem", "_law_j", "_law_free", "_law_sign"] ["_law_box_here", "_law_many"] (defScope s_law_names) := ⟨rfl, rfl, rfl, by decide +kernel, rfl, by decide +kernel, by decide +kernel⟩
abbrev s_law_box : Stmt := top 12
theorem sc_law_box : FnScope ["_law_script"] ["_law_script"] (defScope s_law_box) := ⟨rfl, rfl, rfl, by decide +kernel, rfl, by decide +kernel, by decide +kernel⟩
abbrev s_law_pick : Stmt := top 14
theorem sc_law_pick : FnScope ["_law_box_here", "_law_menu"] ["_law_box_here", "_law_menu"] (defScope s_law_pick) := ⟨rfl, rfl, rfl, by decide +kernel, rfl, by decide +kernel, by decide +kernel⟩
abbrev s_law_log_words : Stmt := top 18
theorem sc_law_log_words : FnScope ["_law_box_here", "_law_menus", "_law_menu"] ["_law_box_here"] (defScope s_law_log_words) := ⟨rfl, rfl, rfl, by decide +kernel, rfl, by decide +kernel, by decide +kernel⟩
abbrev s_law_row : Stmt := top 16
theorem sc_law_row : FnScope ["_law_box_here", "_law_row_here", "_law_k"] ["_law_box_here"] (defScope s_law_row) := ⟨rfl, rfl, rfl, by decide +kernel, rfl, by decide +kernel, by decide +kernel⟩
abbrev s_law_changes : Stmt := top 21
theorem sc_law_changes : FnScope ["_law_box_here", "_law_table", "_law_many", "_law_changes_here", "_law_k", "_law_row_here", "_law_differences", "_law_name"] ["_law_box_here", "_law_table", "_law_many"] (defScope s_law_changes) := ⟨rfl, rfl, rfl, by decide +kernel, rfl, by decide +kernel, by decide +kernel⟩
abbrev s_law_flat : Stmt := top 20
theorem sc_law_flat : FnScope ["_law_box_here", "_law_pick_here", "_law_column"] ["_law_box_here"] (defScope s_law_flat) := ⟨rfl, rfl, rfl, by decide +kernel, rfl, by decide +kernel, by decide +kernel⟩
abbrev s_law_written : Stmt := top 26
theorem sc_law_written : FnScope ["_law_box_here", "_law_table", "_law_number", "_law_calls", "_law_wrote", "_law_k", "_law_changes_here"] ["_law_box_here", "_law_table", "_law_number"] (defScope s_law_written) := ⟨rfl, rfl, rfl, by decide +kernel, rfl, by decide +kernel, by decide +kernel⟩
abbrev s_law_in_turn : Stmt := top 27
theorem sc_law_in_turn : FnScope ["_law_box_here", "_law_table", "_law_many", "_law_calls", "_law_fresh", "_law_passed", "_law_queue", "_law_k", "_law_pick_here", "_law_at", "_law_one"] ["_law_box_here", "_law_table", "_law_many"] (defScope s_law_in_turn) := ⟨rfl, rfl, rfl, by decide +kernel, rfl, by decide +kernel, by decide +kernel⟩
abbrev s_Log___init__ : Stmt := inClass (top 6) 0
theorem sc_Log___init__ : FnScope ["self", "book"] ["self", "book"] (defScope s_Log___init__) := ⟨rfl, rfl, rfl, by decide +kernel, rfl, by decide +kernel, by decide +kernel⟩
abbrev s_InvalidBook___init__ : Stmt := inClass (top 4) 0
theorem sc_InvalidBook___init__ : ScopeS ["self", "part"] ["self", "part"] (defScope s_InvalidBook___init__) := ⟨rfl, rfl, rfl, by decide +kernel, rfl, by decide +kernel, by decide +kernel, rfl, rfl, by decide +kernel⟩
def xv_InvalidBook : List D → List D := fun ds => [dAt ds 0]
abbrev s_check_word : Stmt := top 8
theorem sc_check_word : FnScope ["part", "word", "words"] ["part", "word", "words"] (defScope s_check_word) := ⟨rfl, rfl, rfl, by decide +kernel, rfl, by decide +kernel, by decide +kernel⟩
abbrev s_LogBook___init__ : Stmt := inClass (top 10) 5
theorem sc_LogBook___init__ : FnScope ["self", "when", "what", "kept", "confirm", "cut"] ["self", "when", "what", "kept", "confirm", "cut"] (defScope s_LogBook___init__) := ⟨rfl, rfl, rfl, by decide +kernel, rfl, by decide +kernel, by decide +kernel⟩
abbrev s_law_log_book : Stmt := top 19
theorem sc_law_log_book : FnScope ["_law_words"] ["_law_words"] (defScope s_law_log_book) := ⟨rfl, rfl, rfl, by decide +kernel, rfl, by decide +kernel, by decide +kernel⟩
abbrev s_law_portions : Stmt := top 22
theorem sc_law_portions : FnScope ["_law_what", "_law_kept", "_law_statement", "_law_changes_here", "_law_found", "_law_image", "_law_differences", "_law_parts", "_law_name", "_law_difference", "_law_one"] ["_law_what", "_law_kept", "_law_statement", "_law_changes_here"] (defScope s_law_portions) := ⟨rfl, rfl, rfl, by decide +kernel, rfl, by decide +kernel, by decide +kernel⟩
abbrev s_law_call_portions : Stmt := top 23
theorem sc_law_call_portions : FnScope ["_law_when", "_law_what", "_law_kept", "_law_call"] ["_law_when", "_law_what", "_law_kept", "_law_call"] (defScope s_law_call_portions) := ⟨rfl, rfl, rfl, by decide +kernel, rfl, by decide +kernel, by decide +kernel⟩
abbrev s_law_units_due : Stmt := top 24
theorem sc_law_units_due : FnScope ["_law_when", "_law_what", "_law_kept", "_law_calls", "_law_units", "_law_drafts", "_law_ended", "_law_call", "_law_one", "_law_draft", "_law_parts"] ["_law_when", "_law_what", "_law_kept", "_law_calls"] (defScope s_law_units_due) := ⟨rfl, rfl, rfl, by decide +kernel, rfl, by decide +kernel, by decide +kernel⟩
abbrev s_Log_begin : Stmt := inClass (top 6) 3
theorem sc_Log_begin : FnScope ["self", "script"] ["self", "script"] (defScope s_Log_begin) := ⟨rfl, rfl, rfl, by decide +kernel, rfl, by decide +kernel, by decide +kernel⟩
abbrev s_Log_summary_parts : Stmt := inClass (top 6) 5
theorem sc_Log_summary_parts : FnScope ["self", "differences", "name", "difference"] ["self", "differences"] (defScope s_Log_summary_parts) := ⟨rfl, rfl, rfl, by decide +kernel, rfl, by decide +kernel, by decide +kernel⟩
abbrev s_Log_portions : Stmt := inClass (top 6) 6
theorem sc_Log_portions : FnScope ["self", "statement", "changes", "portions", "image", "differences", "parts", "change"] ["self", "statement", "changes"] (defScope s_Log_portions) := ⟨rfl, rfl, rfl, by decide +kernel, rfl, by decide +kernel, by decide +kernel⟩
abbrev s_Log_append_unit : Stmt := inClass (top 6) 4
theorem sc_Log_append_unit : FnScope ["self", "script", "parts"] ["self", "script", "parts"] (defScope s_Log_append_unit) := ⟨rfl, rfl, rfl, by decide +kernel, rfl, by decide +kernel, by decide +kernel⟩
abbrev s_Log_wrote : Stmt := inClass (top 6) 7
theorem sc_Log_wrote : FnScope ["self", "script", "statement", "changes", "parts"] ["self", "script", "statement", "changes"] (defScope s_Log_wrote) := ⟨rfl, rfl, rfl, by decide +kernel, rfl, by decide +kernel, by decide +kernel⟩
abbrev s_Log_undone : Stmt := inClass (top 6) 8
theorem sc_Log_undone : FnScope ["self", "script", "changes"] ["self", "script", "changes"] (defScope s_Log_undone) := ⟨rfl, rfl, rfl, by decide +kernel, rfl, by decide +kernel, by decide +kernel⟩
abbrev s_Log_pass_on : Stmt := inClass (top 6) 11
theorem sc_Log_pass_on : FnScope ["self", "script", "number", "parts"] ["self", "script"] (defScope s_Log_pass_on) := ⟨rfl, rfl, rfl, by decide +kernel, rfl, by decide +kernel, by decide +kernel⟩
abbrev s_Log_end : Stmt := inClass (top 6) 9
theorem sc_Log_end : FnScope ["self", "script"] ["self", "script"] (defScope s_Log_end) := ⟨rfl, rfl, rfl, by decide +kernel, rfl, by decide +kernel, by decide +kernel⟩
abbrev s_Log_back : Stmt := inClass (top 6) 10
theorem sc_Log_back : FnScope ["self", "script"] ["self", "script"] (defScope s_Log_back) := ⟨rfl, rfl, rfl, by decide +kernel, rfl, by decide +kernel, by decide +kernel⟩
abbrev s_law_run_calls : Stmt := top 25
theorem sc_law_run_calls : FnScope ["_law_log", "_law_calls", "_law_call"] ["_law_log", "_law_calls"] (defScope s_law_run_calls) := ⟨rfl, rfl, rfl, by decide +kernel, rfl, by decide +kernel, by decide +kernel⟩
abbrev s_law_alike : Stmt := top 17
theorem sc_law_alike : FnScope ["_law_actual", "_law_due", "_law_k"] ["_law_actual", "_law_due"] (defScope s_law_alike) := ⟨rfl, rfl, rfl, by decide +kernel, rfl, by decide +kernel, by decide +kernel⟩
abbrev s_Log___len__ : Stmt := inClass (top 6) 1
theorem sc_Log___len__ : FnScope ["self"] ["self"] (defScope s_Log___len__) := ⟨rfl, rfl, rfl, by decide +kernel, rfl, by decide +kernel, by decide +kernel⟩
abbrev s_UnknownNumber___init__ : Stmt := inClass (top 3) 0
theorem sc_UnknownNumber___init__ : ScopeS ["self", "number"] ["self", "number"] (defScope s_UnknownNumber___init__) := ⟨rfl, rfl, rfl, by decide +kernel, rfl, by decide +kernel, by decide +kernel, rfl, rfl, by decide +kernel⟩
def xv_UnknownNumber : List D → List D := fun ds => [dAt ds 0]
abbrev s_Log_unit : Stmt := inClass (top 6) 2
theorem sc_Log_unit : FnScope ["self", "at"] ["self", "at"] (defScope s_Log_unit) := ⟨rfl, rfl, rfl, by decide +kernel, rfl, by decide +kernel, by decide +kernel⟩
abbrev s_law_listed : Stmt := top 28
theorem sc_law_listed : FnScope ["_law_log", "_law_at"] ["_law_log"] (defScope s_law_listed) := ⟨rfl, rfl, rfl, by decide +kernel, rfl, by decide +kernel, by decide +kernel⟩
abbrev s_Log_script_count : Stmt := inClass (top 6) 13
theorem sc_Log_script_count : FnScope ["self", "applied", "count", "script"] ["self", "applied"] (defScope s_Log_script_count) := ⟨rfl, rfl, rfl, by decide +kernel, rfl, by decide +kernel, by decide +kernel⟩
abbrev s_law : Stmt := top 29
theorem sc_law : FnScope ["_law_script", "_law_table", "_law_box_here", "_law_free", "_law_calls", "_law_early", "_law_late", "_law_units", "_law_running", "_law_written_here", "_law_done", "_law_k", "_law_word", "_law_number", "_law_free_ones", "_law_one"] ["_law_script"] (defScope s_law) := ⟨rfl, rfl, rfl, by decide +kernel, rfl, by decide +kernel, by decide +kernel⟩
def cc_LogBook_WHEN : D := .tup [(.str "end"), (.str "begin"), (.str "write")]
def cc_LogBook_WHAT : D := .tup [(.str "image"), (.str "statement")]
def cc_LogBook_KEPT : D := .tup [(.str "own"), (.str "logged")]
def cc_LogBook_CONFIRM : D := .tup [(.str "with"), (.str "behind"), (.str "ahead")]
def cc_LogBook_CUT : D := .tup [(.str "never"), (.str "least"), (.str "greatest")]
def isiTab : IsiTab := bltTab
def isi : Tg → Tg → Option Bool := isiOf isiTab
def gd_LogBook___init___1_when_what_kept_confirm_cut : List D → List D → List D := fun ds zs => pick [0, 1, 2, 3, 4, 5] (ds ++ [] ++ zs)
abbrev gv_LogBook___init___1_when_what_kept_confirm_cut : List V → List V → List V := fun vs zs => pick [0, 1, 2, 3, 4, 5] (vs ++ [] ++ zs)
theorem gd_LogBook___init___1_when_what_kept_confirm_cut_rep {g : Wd} : ∀ (F : List Addr) (H : Hp) (ds : List D) (vs : List V) (zs : List D) (ws : List V), ds.length = 1 → zs.length = 5 → Reps g F H ds vs → Reps g F H zs ws → Reps g F H (gd_LogBook___init___1_when_what_kept_confirm_cut ds zs) (gv_LogBook___init___1_when_what_kept_confirm_cut vs ws) := fun F H ds vs zs ws _ _ r1 r2 => pick_reps ((r1.append (.nil)).append r2) _
theorem gd_LogBook___init___1_when_what_kept_confirm_cut_len : ∀ (vs zs : List V), vs.length = 1 → zs.length = 5 → (gv_LogBook___init___1_when_what_kept_confirm_cut vs zs).length = 6 := fun vs zs h1 h2 => pick_len _ (by simp [h1, h2])
structure Txt (P : Program) (w : World) (K : PySem.W.Frag) (mg : Str → Option Value) (ad : Nat → Addr) (fd : Nat → FuncData) : Prop where
  g30 : mg "_law_names" = some (.ref (ad 30))
  g27 : mg "_law_box" = some (.ref (ad 27))
  g33 : mg "_law_log_words" = some (.ref (ad 33))
  g42 : mg "_law_in_turn" = some (.ref (ad 42))
  g28 : mg "_law_draw" = some (.ref (ad 28))
  g6 : mg "Log" = some (.ref (ad 6))
  g34 : mg "_law_log_book" = some (.ref (ad 34))
  g39 : mg "_law_units_due" = some (.ref (ad 39))
  g40 : mg "_law_run_calls" = some (.ref (ad 40))
  g32 : mg "_law_alike" = some (.ref (ad 32))
  g43 : mg "_law_listed" = some (.ref (ad 43))
  g2 : mg "UnknownNumber" = some (.ref (ad 2))
  g38 : mg "_law_call_portions" = some (.ref (ad 38))
  g37 : mg "_law_portions" = some (.ref (ad 37))
  g22 : mg "LogBook" = some (.ref (ad 22))
  g21 : mg "check_word" = some (.ref (ad 21))
  g4 : mg "InvalidBook" = some (.ref (ad 4))
  g41 : mg "_law_written" = some (.ref (ad 41))
  g29 : mg "_law_pick" = some (.ref (ad 29))
  g36 : mg "_law_changes" = some (.ref (ad 36))
  g35 : mg "_law_flat" = some (.ref (ad 35))
  g31 : mg "_law_row" = some (.ref (ad 31))
  F28 : Fun K "_law_draw" "_law_draw" s_law_draw (ad 28) (fd 28)
  b28 : Binds K (fd 28) ["_law_box_here", "_law_size"] []
  F30 : Fun K "_law_names" "_law_names" s_law_names (ad 30) (fd 30)
  b30 : Binds K (fd 30) ["_law_box_here", "_law_many"] []
  F27 : Fun K "_law_box" "_law_box" s_law_box (ad 27) (fd 27)
  b27 : Binds K (fd 27) ["_law_script"] []
  F29 : Fun K "_law_pick" "_law_pick" s_law_pick (ad 29) (fd 29)
  b29 : Binds K (fd 29) ["_law_box_here", "_law_menu"] []
  F33 : Fun K "_law_log_words" "_law_log_words" s_law_log_words (ad 33) (fd 33)
  b33 : Binds K (fd 33) ["_law_box_here"] []
  F31 : Fun K "_law_row" "_law_row" s_law_row (ad 31) (fd 31)
  b31 : Binds K (fd 31) ["_law_box_here"] []
  F36 : Fun K "_law_changes" "_law_changes" s_law_changes (ad 36) (fd 36)
  b36 : Binds K (fd 36) ["_law_box_here", "_law_table", "_law_many"] []
  F35 : Fun K "_law_flat" "_law_flat" s_law_flat (ad 35) (fd 35)
  b35 : Binds K (fd 35) ["_law_box_here"] []
  F41 : Fun K "_law_written" "_law_written" s_law_written (ad 41) (fd 41)
  b41 : Binds K (fd 41) ["_law_box_here", "_law_table", "_law_number"] []
  F42 : Fun K "_law_in_turn" "_law_in_turn" s_law_in_turn (ad 42) (fd 42)
  b42 : Binds K (fd 42) ["_law_box_here", "_law_table", "_law_many"] []
  F7 : Fun K "__init__" "Log.__init__" s_Log___init__ (ad 7) (fd 7)
  b7 : Binds K (fd 7) ["self", "book"] []
  O5 : OIn P K mg (ad 4) "__init__" "InvalidBook.__init__" s_InvalidBook___init__ (ad 5) (fd 5)
  b5 : Binds K (fd 5) ["self", "part"] []
  ox4 : OexC K (ad 4)
  oi4 : PySem.W.findIn K (.ref (ad 4)) "__init__" = some (some (.ref (ad 5)))
  ot4 : PySem.W.typeIn K (.ref (ad 5)) = some (.type "function")
  ofl4_part : PySem.W.findIn K (.ref (ad 4)) "part" = some none
  F21 : Fun K "check_word" "check_word" s_check_word (ad 21) (fd 21)
  vb21 : ∀ us rest : List Value, us.length = 2 → bindArgs (fd 21) ⟨us ++ rest, []⟩ = (newTuple rest >>= fun t => pure ((["part", "word"] : List Str).zip us ++ [(("words" : Str), t)]))
  F23 : FunD K "__init__" "LogBook.__init__" (defArgs s_LogBook___init__) (defBody s_LogBook___init__) (defScope s_LogBook___init__) [] [("when", (.str "end" : V)), ("what", (.str "image" : V)), ("kept", (.str "own" : V)), ("confirm", (.str "with" : V)), ("cut", (.str "never" : V))] (ad 23) (fd 23)
  F34 : Fun K "_law_log_book" "_law_log_book" s_law_log_book (ad 34) (fd 34)
  b34 : Binds K (fd 34) ["_law_words"] []
  F37 : Fun K "_law_portions" "_law_portions" s_law_portions (ad 37) (fd 37)
  b37 : Binds K (fd 37) ["_law_what", "_law_kept", "_law_statement", "_law_changes_here"] []
  F38 : Fun K "_law_call_portions" "_law_call_portions" s_law_call_portions (ad 38) (fd 38)
  b38 : Binds K (fd 38) ["_law_when", "_law_what", "_law_kept", "_law_call"] []
  F39 : Fun K "_law_units_due" "_law_units_due" s_law_units_due (ad 39) (fd 39)
  b39 : Binds K (fd 39) ["_law_when", "_law_what", "_law_kept", "_law_calls"] []
  F10 : Fun K "begin" "Log.begin" s_Log_begin (ad 10) (fd 10)
  b10 : Binds K (fd 10) ["self", "script"] []
  F12 : Fun K "summary_parts" "Log.summary_parts" s_Log_summary_parts (ad 12) (fd 12)
  b12 : Binds K (fd 12) ["self", "differences"] []
  F13 : Fun K "portions" "Log.portions" s_Log_portions (ad 13) (fd 13)
  b13 : Binds K (fd 13) ["self", "statement", "changes"] []
  F11 : Fun K "append_unit" "Log.append_unit" s_Log_append_unit (ad 11) (fd 11)
  b11 : Binds K (fd 11) ["self", "script", "parts"] []
  F14 : Fun K "wrote" "Log.wrote" s_Log_wrote (ad 14) (fd 14)
  b14 : Binds K (fd 14) ["self", "script", "statement", "changes"] []
  F15 : Fun K "undone" "Log.undone" s_Log_undone (ad 15) (fd 15)
  b15 : Binds K (fd 15) ["self", "script", "changes"] []
  F18 : Fun K "pass_on" "Log.pass_on" s_Log_pass_on (ad 18) (fd 18)
  b18 : Binds K (fd 18) ["self", "script"] []
  F16 : Fun K "end" "Log.end" s_Log_end (ad 16) (fd 16)
  b16 : Binds K (fd 16) ["self", "script"] []
  F17 : Fun K "back" "Log.back" s_Log_back (ad 17) (fd 17)
  b17 : Binds K (fd 17) ["self", "script"] []
  F40 : Fun K "_law_run_calls" "_law_run_calls" s_law_run_calls (ad 40) (fd 40)
  b40 : Binds K (fd 40) ["_law_log", "_law_calls"] []
  F32 : Fun K "_law_alike" "_law_alike" s_law_alike (ad 32) (fd 32)
  b32 : Binds K (fd 32) ["_law_actual", "_law_due"] []
  F8 : Fun K "__len__" "Log.__len__" s_Log___len__ (ad 8) (fd 8)
  b8 : Binds K (fd 8) ["self"] []
  O3 : OIn P K mg (ad 2) "__init__" "UnknownNumber.__init__" s_UnknownNumber___init__ (ad 3) (fd 3)
  b3 : Binds K (fd 3) ["self", "number"] []
  ox2 : OexC K (ad 2)
  oi2 : PySem.W.findIn K (.ref (ad 2)) "__init__" = some (some (.ref (ad 3)))
  ot2 : PySem.W.typeIn K (.ref (ad 3)) = some (.type "function")
  ofl2_number : PySem.W.findIn K (.ref (ad 2)) "number" = some none
  F9 : Fun K "unit" "Log.unit" s_Log_unit (ad 9) (fd 9)
  b9 : Binds K (fd 9) ["self", "at"] []
  F43 : Fun K "_law_listed" "_law_listed" s_law_listed (ad 43) (fd 43)
  b43 : Binds K (fd 43) ["_law_log"] []
  F20 : Fun K "script_count" "Log.script_count" s_Log_script_count (ad 20) (fd 20)
  b20 : Binds K (fd 20) ["self", "applied"] []
  F44 : Fun K "law" "law" s_law (ad 44) (fd 44)
  b44 : Binds K (fd 44) ["_law_script"] []
  kb_LogBook___init___1_when_what_kept_confirm_cut : ∃ mv : List Value, KBn K (fd 23) ["self", "when", "what", "kept", "confirm", "cut"] 1 ["when", "what", "kept", "confirm", "cut"] (fun us ws => pick [0, 1, 2, 3, 4, 5] (us ++ mv ++ ws)) gv_LogBook___init___1_when_what_kept_confirm_cut
  mk6 : Mk K (ad 6) (ad 7)
  n_range : mg "range" = none
  n_len : mg "len" = none
  om8 : PySem.W.findIn K (.ref (ad 6)) "__len__" = some (some (.ref (ad 8)))
  of8 : PySem.W.isFn K (.ref (ad 8)) = true
  sf6 : PySem.W.selfFirst K (ad 6) = true
  cl6 : Cls K (ad 6)
  me20 : Meth K (ad 6) "script_count" (ad 20)
  cf_written : ClsF K ad [6] "written"
  cf_lasts : ClsF K ad [6] "lasts"
  n_isinstance : mg "isinstance" = none
  isi : IsiOk ⟨K, ad⟩ isi
  n_bool : mg "bool" = none
  n_int : mg "int" = none
  n_str : mg "str" = none
  n_tuple : mg "tuple" = none
  n_list : mg "list" = none
  me9 : Meth K (ad 6) "unit" (ad 9)
  cf_start : ClsF K ad [6] "start"
  cf_units : ClsF K ad [6] "units"
  me10 : Meth K (ad 6) "begin" (ad 10)
  me14 : Meth K (ad 6) "wrote" (ad 14)
  me15 : Meth K (ad 6) "undone" (ad 15)
  me16 : Meth K (ad 6) "end" (ad 16)
  me17 : Meth K (ad 6) "back" (ad 17)
  cf_drafts : ClsF K ad [6] "drafts"
  me18 : Meth K (ad 6) "pass_on" (ad 18)
  cf_over : ClsF K ad [6] "over"
  me11 : Meth K (ad 6) "append_unit" (ad 11)
  cf_book : ClsF K ad [6] "book"
  cf_when : ClsF K ad [22] "when"
  cf_what : ClsF K ad [22] "what"
  me13 : Meth K (ad 6) "portions" (ad 13)
  me12 : Meth K (ad 6) "summary_parts" (ad 12)
  cf_kept : ClsF K ad [22] "kept"
  mk22 : Mk K (ad 22) (ad 23)
  cr22 : ClX.CRead K (ad 22) (.type "type")
  ct22_WHEN : ∃ a u, ClX.CVal K (ad 22) (.type "type") "WHEN" (.ref a) u ∧ ∀ F H, Rep ⟨K, ad⟩ F H cc_LogBook_WHEN (.ref a)
  ct22_WHAT : ∃ a u, ClX.CVal K (ad 22) (.type "type") "WHAT" (.ref a) u ∧ ∀ F H, Rep ⟨K, ad⟩ F H cc_LogBook_WHAT (.ref a)
  ct22_KEPT : ∃ a u, ClX.CVal K (ad 22) (.type "type") "KEPT" (.ref a) u ∧ ∀ F H, Rep ⟨K, ad⟩ F H cc_LogBook_KEPT (.ref a)
  ct22_CONFIRM : ∃ a u, ClX.CVal K (ad 22) (.type "type") "CONFIRM" (.ref a) u ∧ ∀ F H, Rep ⟨K, ad⟩ F H cc_LogBook_CONFIRM (.ref a)
  ct22_CUT : ∃ a u, ClX.CVal K (ad 22) (.type "type") "CUT" (.ref a) u ∧ ∀ F H, Rep ⟨K, ad⟩ F H cc_LogBook_CUT (.ref a)
  cf_confirm : ClsF K ad [22] "confirm"
  cf_cut : ClsF K ad [22] "cut"
  n_abs : mg "abs" = none
end K80
namespace K80
open PySem L2 T2
noncomputable section
section
variable {P : Program} {w : World} {K : PySem.W.Frag} {mg : Str → Option Value} {base : Heap} {ad : Nat → Addr} {fd : Nat → FuncData}
def b_law_draw : SM :=
    sSeq (sIf (bVal (eBin dEq (eBin dIxA (eVar 0) (eC (.int 3))) (eC (.int 0))))
    (sSeq (sIf (bVal (eBin dGe (eBin dIxA (eVar 0) (eC (.int 1))) (eArgs dLen (eCons (eBin dIxA (eVar 0) (eC (.int 0))) (eNil)))))
    (sRet (eC (.int 0)))
    (sNil))
    (sSeq (sSetIx dSetIx (eVar 0) (eC (.int 2)) (eArgs dAbs (eCons (eArgs dInt (eCons (eBin dIxA (eBin dIxA (eVar 0) (eC (.int 0))) (eBin dIxA (eVar 0) (eC (.int 1)))) (eNil))) (eNil))))
    (sSeq (sSetIx dSetIx (eVar 0) (eC (.int 1)) (eBin dAdd (eBin dIxA (eVar 0) (eC (.int 1))) (eC (.int 1))))
    (sSeq (sSetIx dSetIx (eVar 0) (eC (.int 4)) (eArgs dInt (eCons (eBin dGe (eBin dIxA (eVar 0) (eC (.int 2))) (eBin dPow (eC (.int 10)) (eC (.int 18)))) (eNil))))
    (sSetIx dSetIx (eVar 0) (eC (.int 3)) (eBin dAdd (eC (.int 12)) (eBin dMul (eC (.int 48)) (eBin dIxA (eVar 0) (eC (.int 4))))))))))
    (sNil))
    (sSeq (sSetIx dSetIx (eVar 0) (eC (.int 3)) (eBin dSub (eBin dIxA (eVar 0) (eC (.int 3))) (eC (.int 1))))
    (sSeq (sIf (bVal (eBin dEq (eBin dIxA (eVar 0) (eC (.int 4))) (eC (.int 1))))
    (sSeq (sSet 2 (eBin dMod (eArgs dInt (eCons (eBin dIxA (eVar 0) (eC (.int 2))) (eNil))) (eVar 1)))
    (sSeq (sSetIx dSetIx (eVar 0) (eC (.int 2)) (eBin dDiv (eArgs dInt (eCons (eBin dIxA (eVar 0) (eC (.int 2))) (eNil))) (eVar 1)))
    (sSeq (sIf (bVal (eBin dEq (eBin dIxA (eVar 0) (eC (.int 2))) (eC (.int 0))))
    (sSetIx dSetIx (eVar 0) (eC (.int 3)) (eC (.int 0)))
    (sNil))
    (sRet (eVar 2)))))
    (sNil))
    (sSeq (sSet 3 (eBin dMod (eArgs dInt (eCons (eBin dAdd (eBin dAdd (eBin dMul (eArgs dInt (eCons (eBin dIxA (eVar 0) (eC (.int 2))) (eNil))) (eC (.int 48271))) (eBin dMul (eBin dIxA (eVar 0) (eC (.int 3))) (eC (.int 69621)))) (eC (.int 13))) (eNil))) (eC (.int 2147483647))))
    (sSeq (sSet 3 (eBin dMod (eArgs dInt (eCons (eBin dAdd (eBin dAdd (eBin dMul (eVar 3) (eC (.int 16807))) (eBin dMul (eBin dIxA (eVar 0) (eC (.int 3))) (eC (.int 40692)))) (eC (.int 7))) (eNil))) (eC (.int 2147483629))))
    (sRet (eBin dMod (eArgs dInt (eCons (eVar 3) (eNil))) (eVar 1)))))))
def m_law_draw : List D → MH → Res D := fnB 4 b_law_draw
theorem ok_law_draw (T : Txt P w K mg ad fd) : FnOk P w K mg base (L2N.CX P w) 3 (ad 28) (fd 28) ["_law_box_here", "_law_size"] (spD ⟨K, ad⟩ 2 m_law_draw) := by
  refine fn_ok2 T.F28 sc_law_draw fun cdv A outer s H E hr tk po => ?_
  have hu := hr.units
  have hu1 := hu_of hr
  exact ds_cons (ds_if (dt_eq rfl hu (de_ixA rfl hu1 (de_v 0) (de_int)) (de_int))
    (ds_cons (ds_if (dt_ge (de_ixA rfl hu1 (de_v 0) (de_int)) (de_len (de_cons (de_ixA rfl hu1 (de_v 0) (de_int)) (de_nil)) (hK := rfl) (hm := T.n_len)))
    (ds_one (ds_ret (de_int)))
    (ds_nil))
    (ds_cons (ds_setL (de_v 0) (de_int) (de_abs (de_cons (de_intc (de_cons (de_ixA rfl hu1 (de_ixA rfl hu1 (de_v 0) (de_int)) (de_ixA rfl hu1 (de_v 0) (de_int))) (de_nil)) (hm := T.n_int)) (de_nil)) (hm := T.n_abs)))
    (ds_cons (ds_setL (de_v 0) (de_int) (de_add rfl (de_ixA rfl hu1 (de_v 0) (de_int)) (de_int)))
    (ds_cons (ds_setL (de_v 0) (de_int) (de_intc (de_cons (de_ge (de_ixA rfl hu1 (de_v 0) (de_int)) (de_pow (de_int) (de_int))) (de_nil)) (hm := T.n_int)))
    (ds_one (ds_setL (de_v 0) (de_int) (de_add rfl (de_int) (de_mul (de_int) (de_ixA rfl hu1 (de_v 0) (de_int))))))))))
    (ds_nil))
    (ds_cons (ds_setL (de_v 0) (de_int) (de_sub (de_ixA rfl hu1 (de_v 0) (de_int)) (de_int)))
    (ds_cons (ds_if (dt_eq rfl hu (de_ixA rfl hu1 (de_v 0) (de_int)) (de_int))
    (ds_cons (ds_set (i := 2) sc_law_draw.nd (de_mod (de_intc (de_cons (de_ixA rfl hu1 (de_v 0) (de_int)) (de_nil)) (hm := T.n_int)) (de_v 1)))
    (ds_cons (ds_setL (de_v 0) (de_int) (de_div (de_intc (de_cons (de_ixA rfl hu1 (de_v 0) (de_int)) (de_nil)) (hm := T.n_int)) (de_v 1)))
    (ds_cons (ds_if (dt_eq rfl hu (de_ixA rfl hu1 (de_v 0) (de_int)) (de_int))
    (ds_one (ds_setL (de_v 0) (de_int) (de_int)))
    (ds_nil))
    (ds_one (ds_ret (de_v 2))))))
    (ds_nil))
    (ds_cons (ds_set (i := 3) sc_law_draw.nd (de_mod (de_intc (de_cons (de_add rfl (de_add rfl (de_mul (de_intc (de_cons (de_ixA rfl hu1 (de_v 0) (de_int)) (de_nil)) (hm := T.n_int)) (de_int)) (de_mul (de_ixA rfl hu1 (de_v 0) (de_int)) (de_int))) (de_int)) (de_nil)) (hm := T.n_int)) (de_int)))
    (ds_cons (ds_set (i := 3) sc_law_draw.nd (de_mod (de_intc (de_cons (de_add rfl (de_add rfl (de_mul (de_v 3) (de_int)) (de_mul (de_ixA rfl hu1 (de_v 0) (de_int)) (de_int))) (de_int)) (de_nil)) (hm := T.n_int)) (de_int)))
    (ds_one (ds_ret (de_mod (de_intc (de_cons (de_v 3) (de_nil)) (hm := T.n_int)) (de_v 1))))))))
end
section
variable {P : Program} {w : World} {K : PySem.W.Frag} {mg : Str → Option Value} {base : Heap} {ad : Nat → Addr} {fd : Nat → FuncData}
def lp_law_names_1 : SM :=
    sSet 5 (eBin dAdd (eVar 5) (eBin dIxA (eVar 2) (eCall 2 m_law_draw (eCons (eVar 0) (eCons (eC (.int 26)) (eNil))))))
def lp_law_names_2 : SM :=
    sSeq (sSet 5 (eC (.str "")))
    (sSeq (sForI (iRange1 (eCall 2 m_law_draw (eCons (eVar 0) (eCons (eC (.int 8)) (eNil))))) (tgName 6) lp_law_names_1)
    (sSeq (sSet 7 (eLc (iStrD (eVar 2)) (tgName 8) (bVal (eBin dNotInA (eBin dAdd (eVar 5) (eVar 8)) (eBin (dCat mkF) (eVar 3) (eFro (eCons (eC (.str "on")) (eCons (eC (.str "set")) (eCons (eC (.str "new")) (eNil)))))))) (eVar 8) [8]))
    (sDo (eApp (eVar 3) (eBin dAdd (eVar 5) (eBin dIxA (eVar 7) (eCall 2 m_law_draw (eCons (eVar 0) (eCons (eArgs dLen (eCons (eVar 7) (eNil))) (eNil))))))))))
def b_law_names : SM :=
    sSeq (sSet 2 (eC (.str "abcdefghijklmnopqrstuvwxyz")))
    (sSeq (sSet 3 (eLst (eNil)))
    (sSeq (sForI (iRange1 (eVar 1)) (tgName 4) lp_law_names_2)
    (sRet (eVar 3))))
def m_law_names : List D → MH → Res D := frzB (fnB 9 b_law_names)
theorem ok_law_names (T : Txt P w K mg ad fd) : FnOk P w K mg base (L2N.CX P w) 6 (ad 30) (fd 30) ["_law_box_here", "_law_many"] (spD ⟨K, ad⟩ 2 m_law_names) := by
  refine fn_frz ?_
  refine fn_ok2 T.F30 sc_law_names fun cdv A outer s H E hr tk po => ?_
  have hu := hr.units
  have hu1 := hu_of hr
  exact ds_cons (ds_set (i := 2) sc_law_names.nd (de_str))
    (ds_cons (ds_set (i := 3) sc_law_names.nd (de_lst (de_nil)))
    (ds_cons (ds_for (fun _ => pin_nil) po rfl (pi_range1 rfl T.n_range (de_cons (de_v 1) de_nil)) (itSim_range1) (pg_name (i := 4) sc_law_names.nd rfl (by first | exact Or.inl rfl | exact Or.inr rfl)) (tgName_sim 4)
    (ds_cons (ds_set (i := 5) sc_law_names.nd (de_str))
    (ds_cons (ds_for (fun _ => pin_nil) po rfl (pi_range1 rfl T.n_range (de_cons (de_call (ok_law_draw T) (hr.mono (by decide)) tk T.g28 T.F28.kp T.b28 (de_cons (de_v 0) (de_cons (de_int) (de_nil)))) de_nil)) (itSim_range1) (pg_name (i := 6) sc_law_names.nd rfl (by first | exact Or.inl rfl | exact Or.inr rfl)) (tgName_sim 6)
    (ds_one (ds_set (i := 5) sc_law_names.nd (de_add rfl (de_v 5) (de_ixA rfl hu1 (de_v 2) (de_call (ok_law_draw T) (hr.mono (by decide)) tk T.g28 T.F28.kp T.b28 (de_cons (de_v 0) (de_cons (de_int) (de_nil)))))))))
    (ds_cons (ds_setLc (i := 7) (hpin := by intro p h; exact absurd h (by simp)) (own := [("_law_sign", 8)]) sc_law_names.nd (pi_str (de_v 2)) (itSim_str) (blkOk_by (N := ["_law_box_here", "_law_many", "_law_letters", "_law_names_here", "_law_k", "_law_stem", "_law_j", "_law_free", "_law_sign"]) (sc := defScope s_law_names) (by decide +kernel)) (tgName_sim 8) (tgName_own 8 (by decide)) (fun _ _ _ _ _ => pg_name (i := 8) sc_law_names.nd rfl (by first | exact Or.inl rfl | exact Or.inr rfl)) (fun _ _ _ _ _ => dts_one (dt_notinA rfl hu1 (de_add rfl (de_v 5) (de_v 8)) (de_cat rfl mkF_ok (de_v 3) (de_fro (de_cons (de_str) (de_cons (de_str) (de_cons (de_str) (de_nil)))))))) (fun _ _ _ _ _ => de_v 8) (sw_true rfl rfl rfl (by decide +kernel)))
    (ds_one (ds_do (de_app (de_v 3) (de_add rfl (de_v 5) (de_ixA rfl hu1 (de_v 7) (de_call (ok_law_draw T) (hr.mono (by decide)) tk T.g28 T.F28.kp T.b28 (de_cons (de_v 0) (de_cons (de_len (de_cons (de_v 7) (de_nil)) (hK := rfl) (hm := T.n_len)) (de_nil)))))))))))))
    (ds_one (ds_ret (de_v 3)))))
end
section
variable {P : Program} {w : World} {K : PySem.W.Frag} {mg : Str → Option Value} {base : Heap} {ad : Nat → Addr} {fd : Nat → FuncData}
def b_law_box : SM :=
    sRet (eLst (eCons (eArgs dListF (eCons (eVar 0) (eNil))) (eCons (eC (.int 0)) (eCons (eC (.int 0)) (eCons (eC (.int 0)) (eCons (eC (.int 0)) (eNil)))))))
def m_law_box : List D → MH → Res D := fnB 1 b_law_box
theorem ok_law_box (T : Txt P w K mg ad fd) : FnOk P w K mg base (L2N.CX P w) 3 (ad 27) (fd 27) ["_law_script"] (spD ⟨K, ad⟩ 1 m_law_box) := by
  refine fn_ok2 T.F27 sc_law_box fun cdv A outer s H E hr tk po => ?_
  have hu := hr.units
  have hu1 := hu_of hr
  exact ds_one (ds_ret (de_lst (de_cons (de_listF (de_cons (de_v 0) (de_nil)) (hK := rfl) (hm := T.n_list)) (de_cons (de_int) (de_cons (de_int) (de_cons (de_int) (de_cons (de_int) (de_nil))))))))
end
section
variable {P : Program} {w : World} {K : PySem.W.Frag} {mg : Str → Option Value} {base : Heap} {ad : Nat → Addr} {fd : Nat → FuncData}
def b_law_pick : SM :=
    sRet (eBin dIxA (eVar 1) (eCall 2 m_law_draw (eCons (eVar 0) (eCons (eArgs dLen (eCons (eVar 1) (eNil))) (eNil)))))
def m_law_pick : List D → MH → Res D := fnB 2 b_law_pick
theorem ok_law_pick (T : Txt P w K mg ad fd) : FnOk P w K mg base (L2N.CX P w) 6 (ad 29) (fd 29) ["_law_box_here", "_law_menu"] (spD ⟨K, ad⟩ 2 m_law_pick) := by
  refine fn_ok2 T.F29 sc_law_pick fun cdv A outer s H E hr tk po => ?_
  have hu := hr.units
  have hu1 := hu_of hr
  exact ds_one (ds_ret (de_ixA rfl hu1 (de_v 1) (de_call (ok_law_draw T) (hr.mono (by decide)) tk T.g28 T.F28.kp T.b28 (de_cons (de_v 0) (de_cons (de_len (de_cons (de_v 1) (de_nil)) (hK := rfl) (hm := T.n_len)) (de_nil))))))
end
section
variable {P : Program} {w : World} {K : PySem.W.Frag} {mg : Str → Option Value} {base : Heap} {ad : Nat → Addr} {fd : Nat → FuncData}
def b_law_log_words : SM :=
    sSeq (sSet 1 (eFro (eCons (eFro (eCons (eC (.str "end")) (eCons (eC (.str "begin")) (eCons (eC (.str "write")) (eNil))))) (eCons (eFro (eCons (eC (.str "image")) (eCons (eC (.str "statement")) (eNil)))) (eCons (eFro (eCons (eC (.str "own")) (eCons (eC (.str "logged")) (eNil)))) (eCons (eFro (eCons (eC (.str "with")) (eCons (eC (.str "behind")) (eCons (eC (.str "ahead")) (eNil))))) (eCons (eFro (eCons (eC (.str "never")) (eCons (eC (.str "least")) (eCons (eC (.str "greatest")) (eNil))))) (eNil))))))))
    (sRet (eLc (iSeq (eVar 1)) (tgName 2) (bYes) (eCall 2 m_law_pick (eCons (eVar 0) (eCons (eVar 2) (eNil)))) [2]))
def m_law_log_words : List D → MH → Res D := frzB (fnB 3 b_law_log_words)
theorem ok_law_log_words (T : Txt P w K mg ad fd) : FnOk P w K mg base (L2N.CX P w) 9 (ad 33) (fd 33) ["_law_box_here"] (spD ⟨K, ad⟩ 1 m_law_log_words) := by
  refine fn_frz ?_
  refine fn_ok2 T.F33 sc_law_log_words fun cdv A outer s H E hr tk po => ?_
  have hu := hr.units
  have hu1 := hu_of hr
  exact ds_cons (ds_set (i := 1) sc_law_log_words.nd (de_fro (de_cons (de_fro (de_cons (de_str) (de_cons (de_str) (de_cons (de_str) (de_nil))))) (de_cons (de_fro (de_cons (de_str) (de_cons (de_str) (de_nil)))) (de_cons (de_fro (de_cons (de_str) (de_cons (de_str) (de_nil)))) (de_cons (de_fro (de_cons (de_str) (de_cons (de_str) (de_cons (de_str) (de_nil))))) (de_cons (de_fro (de_cons (de_str) (de_cons (de_str) (de_cons (de_str) (de_nil))))) (de_nil))))))))
    (ds_one (ds_ret (de_lc (own := [("_law_menu", 2)]) sc_law_log_words.nd (pi_or (pi_list (de_v 1)) (pi_tup (de_v 1))) (itSim_seq rfl) (blkOk_by (N := ["_law_box_here", "_law_menus", "_law_menu"]) (sc := defScope s_law_log_words) (by decide +kernel)) (tgName_sim 2) (tgName_own 2 (by decide)) (fun _ _ _ _ _ => pg_name (i := 2) sc_law_log_words.nd rfl (by first | exact Or.inl rfl | exact Or.inr rfl)) (fun _ _ _ _ _ => dts_nil) (fun _ _ _ _ _ => de_call (ok_law_pick T) (hr.mono (by decide)) takesN0 T.g29 T.F29.kp T.b29 (de_cons (de_v 0) (de_cons (de_v 2) (de_nil)))))))
end
section
variable {P : Program} {w : World} {K : PySem.W.Frag} {mg : Str → Option Value} {base : Heap} {ad : Nat → Addr} {fd : Nat → FuncData}
def lp_law_row_1 : SM :=
    sSet 1 (eBin dAdd (eVar 1) (eTup (eCons (eBin dIxA (eTup (eCons (eC .non) (eCons (eC (.int 0)) (eCons (eC (.int 1)) (eCons (eC (.int 2)) (eCons (eC (.int 0)) (eCons (eC (.int 1)) (eNil)))))))) (eCall 2 m_law_draw (eCons (eVar 0) (eCons (eC (.int 6)) (eNil))))) (eNil))))
def b_law_row : SM :=
    sSeq (sSet 1 (eTup (eNil)))
    (sSeq (sForI (iRange1 (eC (.int 3))) (tgName 2) lp_law_row_1)
    (sRet (eVar 1)))
def m_law_row : List D → MH → Res D := fnB 3 b_law_row
theorem ok_law_row (T : Txt P w K mg ad fd) : FnOk P w K mg base (L2N.CX P w) 6 (ad 31) (fd 31) ["_law_box_here"] (spD ⟨K, ad⟩ 1 m_law_row) := by
  refine fn_ok2 T.F31 sc_law_row fun cdv A outer s H E hr tk po => ?_
  have hu := hr.units
  have hu1 := hu_of hr
  exact ds_cons (ds_set (i := 1) sc_law_row.nd (de_tup (de_nil)))
    (ds_cons (ds_for (fun _ => pin_nil) po rfl (pi_range1 rfl T.n_range (de_cons (de_int) de_nil)) (itSim_range1) (pg_name (i := 2) sc_law_row.nd rfl (by first | exact Or.inl rfl | exact Or.inr rfl)) (tgName_sim 2)
    (ds_one (ds_set (i := 1) sc_law_row.nd (de_add rfl (de_v 1) (de_tup (de_cons (de_ixA rfl hu1 (de_tup (de_cons (de_non) (de_cons (de_int) (de_cons (de_int) (de_cons (de_int) (de_cons (de_int) (de_cons (de_int) (de_nil)))))))) (de_call (ok_law_draw T) (hr.mono (by decide)) tk T.g28 T.F28.kp T.b28 (de_cons (de_v 0) (de_cons (de_int) (de_nil))))) (de_nil)))))))
    (ds_one (ds_ret (de_v 1))))
end
section
variable {P : Program} {w : World} {K : PySem.W.Frag} {mg : Str → Option Value} {base : Heap} {ad : Nat → Addr} {fd : Nat → FuncData}
def lp_law_changes_1 : SM :=
    sIf (bVal (eBin dEq (eCall 2 m_law_draw (eCons (eVar 0) (eCons (eC (.int 2)) (eNil)))) (eC (.int 1))))
    (sDo (eApp (eVar 6) (eTup (eCons (eVar 7) (eCons (eBin dSub (eCall 2 m_law_draw (eCons (eVar 0) (eCons (eC (.int 5)) (eNil)))) (eC (.int 2))) (eNil))))))
    (sNil)
def lp_law_changes_2 : SM :=
    sSeq (sSet 5 (eC .non))
    (sSeq (sIf (bVal (eBin dGt (eCall 2 m_law_draw (eCons (eVar 0) (eCons (eC (.int 3)) (eNil)))) (eC (.int 0))))
    (sSet 5 (eCall 1 m_law_row (eCons (eVar 0) (eNil))))
    (sNil))
    (sSeq (sSet 6 (eLst (eNil)))
    (sSeq (sForI (iSeq (eFro (eCons (eC (.str "s")) (eCons (eC (.str "t")) (eNil))))) (tgName 7) lp_law_changes_1)
    (sDo (eApp (eVar 3) (eTup (eCons (eTup (eCons (eC (.str "row")) (eCons (eVar 1) (eCons (eCall 2 m_law_draw (eCons (eVar 0) (eCons (eC (.int 6)) (eNil)))) (eCons (eVar 5) (eNil)))))) (eCons (eVar 6) (eNil)))))))))
def b_law_changes : SM :=
    sSeq (sSet 3 (eLst (eNil)))
    (sSeq (sForI (iRange1 (eVar 2)) (tgName 4) lp_law_changes_2)
    (sRet (eVar 3)))
def m_law_changes : List D → MH → Res D := frzB (fnB 8 b_law_changes)
theorem ok_law_changes (T : Txt P w K mg ad fd) : FnOk P w K mg base (L2N.CX P w) 9 (ad 36) (fd 36) ["_law_box_here", "_law_table", "_law_many"] (spD ⟨K, ad⟩ 3 m_law_changes) := by
  refine fn_frz ?_
  refine fn_ok2 T.F36 sc_law_changes fun cdv A outer s H E hr tk po => ?_
  have hu := hr.units
  have hu1 := hu_of hr
  exact ds_cons (ds_set (i := 3) sc_law_changes.nd (de_lst (de_nil)))
    (ds_cons (ds_for (fun _ => pin_nil) po rfl (pi_range1 rfl T.n_range (de_cons (de_v 2) de_nil)) (itSim_range1) (pg_name (i := 4) sc_law_changes.nd rfl (by first | exact Or.inl rfl | exact Or.inr rfl)) (tgName_sim 4)
    (ds_cons (ds_set (i := 5) sc_law_changes.nd (de_non))
    (ds_cons (ds_if (dt_gt (de_call (ok_law_draw T) (hr.mono (by decide)) tk T.g28 T.F28.kp T.b28 (de_cons (de_v 0) (de_cons (de_int) (de_nil)))) (de_int))
    (ds_one (ds_set (i := 5) sc_law_changes.nd (de_call (ok_law_row T) (hr.mono (by decide)) tk T.g31 T.F31.kp T.b31 (de_cons (de_v 0) (de_nil)))))
    (ds_nil))
    (ds_cons (ds_set (i := 6) sc_law_changes.nd (de_lst (de_nil)))
    (ds_cons (ds_for (fun _ => pin_nil) po rfl (pi_or (pi_list (de_fro (de_cons (de_str) (de_cons (de_str) (de_nil))))) (pi_tup (de_fro (de_cons (de_str) (de_cons (de_str) (de_nil)))))) (itSim_seq rfl) (pg_name (i := 7) sc_law_changes.nd rfl (by first | exact Or.inl rfl | exact Or.inr rfl)) (tgName_sim 7)
    (ds_one (ds_if (dt_eq rfl hu (de_call (ok_law_draw T) (hr.mono (by decide)) tk T.g28 T.F28.kp T.b28 (de_cons (de_v 0) (de_cons (de_int) (de_nil)))) (de_int))
    (ds_one (ds_do (de_app (de_v 6) (de_tup (de_cons (de_v 7) (de_cons (de_sub (de_call (ok_law_draw T) (hr.mono (by decide)) tk T.g28 T.F28.kp T.b28 (de_cons (de_v 0) (de_cons (de_int) (de_nil)))) (de_int)) (de_nil)))))))
    (ds_nil))))
    (ds_one (ds_do (de_app (de_v 3) (de_tup (de_cons (de_tup (de_cons (de_str) (de_cons (de_v 1) (de_cons (de_call (ok_law_draw T) (hr.mono (by decide)) tk T.g28 T.F28.kp T.b28 (de_cons (de_v 0) (de_cons (de_int) (de_nil)))) (de_cons (de_v 5) (de_nil)))))) (de_cons (de_v 6) (de_nil))))))))))))
    (ds_one (ds_ret (de_v 3))))
end
section
variable {P : Program} {w : World} {K : PySem.W.Frag} {mg : Str → Option Value} {base : Heap} {ad : Nat → Addr} {fd : Nat → FuncData}
def b_law_flat : SM :=
    sSeq (sSet 1 (eCall 2 m_law_draw (eCons (eVar 0) (eCons (eC (.int 6)) (eNil)))))
    (sSeq (sSet 2 (eCall 2 m_law_draw (eCons (eVar 0) (eCons (eC (.int 3)) (eNil)))))
    (sSeq (sIf (bVal (eBin dEq (eVar 1) (eC (.int 0))))
    (sRet (eTup (eCons (eC (.str "always")) (eNil))))
    (sNil))
    (sSeq (sIf (bVal (eBin dEq (eVar 1) (eC (.int 1))))
    (sRet (eTup (eCons (eC (.str "unknown")) (eCons (eVar 2) (eNil)))))
    (sNil))
    (sSeq (sIf (bVal (eBin dEq (eVar 1) (eC (.int 2))))
    (sRet (eTup (eCons (eC (.str "below")) (eCons (eVar 2) (eCons (eBin dAdd (eC (.int 1)) (eCall 2 m_law_draw (eCons (eVar 0) (eCons (eC (.int 2)) (eNil))))) (eNil))))))
    (sNil))
    (sSeq (sIf (bVal (eBin dEq (eVar 1) (eC (.int 3))))
    (sRet (eTup (eCons (eC (.str "not")) (eCons (eTup (eCons (eC (.str "equal")) (eCons (eVar 2) (eCons (eCall 2 m_law_draw (eCons (eVar 0) (eCons (eC (.int 3)) (eNil)))) (eNil))))) (eNil)))))
    (sNil))
    (sSeq (sIf (bVal (eBin dEq (eVar 1) (eC (.int 4))))
    (sRet (eTup (eCons (eC (.str "or")) (eCons (eTup (eCons (eC (.str "unknown")) (eCons (eVar 2) (eNil)))) (eCons (eTup (eCons (eC (.str "equal")) (eCons (eCall 2 m_law_draw (eCons (eVar 0) (eCons (eC (.int 3)) (eNil)))) (eCons (eCall 2 m_law_draw (eCons (eVar 0) (eCons (eC (.int 3)) (eNil)))) (eNil))))) (eNil))))))
    (sNil))
    (sRet (eTup (eCons (eC (.str "equal")) (eCons (eVar 2) (eCons (eCall 2 m_law_draw (eCons (eVar 0) (eCons (eC (.int 3)) (eNil)))) (eNil))))))))))))
def m_law_flat : List D → MH → Res D := fnB 3 b_law_flat
theorem ok_law_flat (T : Txt P w K mg ad fd) : FnOk P w K mg base (L2N.CX P w) 6 (ad 35) (fd 35) ["_law_box_here"] (spD ⟨K, ad⟩ 1 m_law_flat) := by
  refine fn_ok2 T.F35 sc_law_flat fun cdv A outer s H E hr tk po => ?_
  have hu := hr.units
  have hu1 := hu_of hr
  exact ds_cons (ds_set (i := 1) sc_law_flat.nd (de_call (ok_law_draw T) (hr.mono (by decide)) tk T.g28 T.F28.kp T.b28 (de_cons (de_v 0) (de_cons (de_int) (de_nil)))))
    (ds_cons (ds_set (i := 2) sc_law_flat.nd (de_call (ok_law_draw T) (hr.mono (by decide)) tk T.g28 T.F28.kp T.b28 (de_cons (de_v 0) (de_cons (de_int) (de_nil)))))
    (ds_cons (ds_if (dt_eq rfl hu (de_v 1) (de_int))
    (ds_one (ds_ret (de_tup (de_cons (de_str) (de_nil)))))
    (ds_nil))
    (ds_cons (ds_if (dt_eq rfl hu (de_v 1) (de_int))
    (ds_one (ds_ret (de_tup (de_cons (de_str) (de_cons (de_v 2) (de_nil))))))
    (ds_nil))
    (ds_cons (ds_if (dt_eq rfl hu (de_v 1) (de_int))
    (ds_one (ds_ret (de_tup (de_cons (de_str) (de_cons (de_v 2) (de_cons (de_add rfl (de_int) (de_call (ok_law_draw T) (hr.mono (by decide)) tk T.g28 T.F28.kp T.b28 (de_cons (de_v 0) (de_cons (de_int) (de_nil))))) (de_nil)))))))
    (ds_nil))
    (ds_cons (ds_if (dt_eq rfl hu (de_v 1) (de_int))
    (ds_one (ds_ret (de_tup (de_cons (de_str) (de_cons (de_tup (de_cons (de_str) (de_cons (de_v 2) (de_cons (de_call (ok_law_draw T) (hr.mono (by decide)) tk T.g28 T.F28.kp T.b28 (de_cons (de_v 0) (de_cons (de_int) (de_nil)))) (de_nil))))) (de_nil))))))
    (ds_nil))
    (ds_cons (ds_if (dt_eq rfl hu (de_v 1) (de_int))
    (ds_one (ds_ret (de_tup (de_cons (de_str) (de_cons (de_tup (de_cons (de_str) (de_cons (de_v 2) (de_nil)))) (de_cons (de_tup (de_cons (de_str) (de_cons (de_call (ok_law_draw T) (hr.mono (by decide)) tk T.g28 T.F28.kp T.b28 (de_cons (de_v 0) (de_cons (de_int) (de_nil)))) (de_cons (de_call (ok_law_draw T) (hr.mono (by decide)) tk T.g28 T.F28.kp T.b28 (de_cons (de_v 0) (de_cons (de_int) (de_nil)))) (de_nil))))) (de_nil)))))))
    (ds_nil))
    (ds_one (ds_ret (de_tup (de_cons (de_str) (de_cons (de_v 2) (de_cons (de_call (ok_law_draw T) (hr.mono (by decide)) tk T.g28 T.F28.kp T.b28 (de_cons (de_v 0) (de_cons (de_int) (de_nil)))) (de_nil)))))))))))))
end
section
variable {P : Program} {w : World} {K : PySem.W.Frag} {mg : Str → Option Value} {base : Heap} {ad : Nat → Addr} {fd : Nat → FuncData}
def lp_law_written_1 : SM :=
    sSeq (sSet 6 (eCall 3 m_law_changes (eCons (eVar 0) (eCons (eVar 1) (eCons (eBin dAdd (eC (.int 1)) (eCall 2 m_law_draw (eCons (eVar 0) (eCons (eC (.int 3)) (eNil))))) (eNil))))))
    (sSeq (sSet 4 (eBin dAdd (eVar 4) (eArgs dLen (eCons (eVar 6) (eNil)))))
    (sDo (eApp (eVar 3) (eTup (eCons (eC (.str "wrote")) (eCons (eVar 2) (eCons (eTup (eCons (eC (.str "remove")) (eCons (eVar 1) (eCons (eCall 1 m_law_flat (eCons (eVar 0) (eNil))) (eNil))))) (eCons (eVar 6) (eNil)))))))))
def b_law_written : SM :=
    sSeq (sSet 3 (eLst (eNil)))
    (sSeq (sSet 4 (eC (.int 0)))
    (sSeq (sForI (iRange1 (eBin dAdd (eC (.int 1)) (eCall 2 m_law_draw (eCons (eVar 0) (eCons (eC (.int 2)) (eNil)))))) (tgName 5) lp_law_written_1)
    (sSeq (sIf (bVal (eBin dEq (eCall 2 m_law_draw (eCons (eVar 0) (eCons (eC (.int 4)) (eNil)))) (eC (.int 3))))
    (sRet (eBin (dCat mkF) (eVar 3) (eFro (eCons (eTup (eCons (eC (.str "undone")) (eCons (eVar 2) (eCons (eCall 3 m_law_changes (eCons (eVar 0) (eCons (eVar 1) (eCons (eVar 4) (eNil))))) (eNil))))) (eCons (eTup (eCons (eC (.str "back")) (eCons (eVar 2) (eNil)))) (eNil))))))
    (sNil))
    (sRet (eBin (dCat mkF) (eVar 3) (eFro (eCons (eTup (eCons (eC (.str "end")) (eCons (eVar 2) (eNil)))) (eNil))))))))
def m_law_written : List D → MH → Res D := frzB (fnB 7 b_law_written)
theorem ok_law_written (T : Txt P w K mg ad fd) : FnOk P w K mg base (L2N.CX P w) 12 (ad 41) (fd 41) ["_law_box_here", "_law_table", "_law_number"] (spD ⟨K, ad⟩ 3 m_law_written) := by
  refine fn_frz ?_
  refine fn_ok2 T.F41 sc_law_written fun cdv A outer s H E hr tk po => ?_
  have hu := hr.units
  have hu1 := hu_of hr
  exact ds_cons (ds_set (i := 3) sc_law_written.nd (de_lst (de_nil)))
    (ds_cons (ds_set (i := 4) sc_law_written.nd (de_int))
    (ds_cons (ds_for (fun _ => pin_nil) po rfl (pi_range1 rfl T.n_range (de_cons (de_add rfl (de_int) (de_call (ok_law_draw T) (hr.mono (by decide)) tk T.g28 T.F28.kp T.b28 (de_cons (de_v 0) (de_cons (de_int) (de_nil))))) de_nil)) (itSim_range1) (pg_name (i := 5) sc_law_written.nd rfl (by first | exact Or.inl rfl | exact Or.inr rfl)) (tgName_sim 5)
    (ds_cons (ds_set (i := 6) sc_law_written.nd (de_call (ok_law_changes T) (hr.mono (by decide)) tk T.g36 T.F36.kp T.b36 (de_cons (de_v 0) (de_cons (de_v 1) (de_cons (de_add rfl (de_int) (de_call (ok_law_draw T) (hr.mono (by decide)) tk T.g28 T.F28.kp T.b28 (de_cons (de_v 0) (de_cons (de_int) (de_nil))))) (de_nil))))))
    (ds_cons (ds_set (i := 4) sc_law_written.nd (de_add rfl (de_v 4) (de_len (de_cons (de_v 6) (de_nil)) (hK := rfl) (hm := T.n_len))))
    (ds_one (ds_do (de_app (de_v 3) (de_tup (de_cons (de_str) (de_cons (de_v 2) (de_cons (de_tup (de_cons (de_str) (de_cons (de_v 1) (de_cons (de_call (ok_law_flat T) (hr.mono (by decide)) tk T.g35 T.F35.kp T.b35 (de_cons (de_v 0) (de_nil))) (de_nil))))) (de_cons (de_v 6) (de_nil))))))))))))
    (ds_cons (ds_if (dt_eq rfl hu (de_call (ok_law_draw T) (hr.mono (by decide)) tk T.g28 T.F28.kp T.b28 (de_cons (de_v 0) (de_cons (de_int) (de_nil)))) (de_int))
    (ds_one (ds_ret (de_cat rfl mkF_ok (de_v 3) (de_fro (de_cons (de_tup (de_cons (de_str) (de_cons (de_v 2) (de_cons (de_call (ok_law_changes T) (hr.mono (by decide)) tk T.g36 T.F36.kp T.b36 (de_cons (de_v 0) (de_cons (de_v 1) (de_cons (de_v 4) (de_nil))))) (de_nil))))) (de_cons (de_tup (de_cons (de_str) (de_cons (de_v 2) (de_nil)))) (de_nil)))))))
    (ds_nil))
    (ds_one (ds_ret (de_cat rfl mkF_ok (de_v 3) (de_fro (de_cons (de_tup (de_cons (de_str) (de_cons (de_v 2) (de_nil)))) (de_nil)))))))))
end
section
variable {P : Program} {w : World} {K : PySem.W.Frag} {mg : Str → Option Value} {base : Heap} {ad : Nat → Addr} {fd : Nat → FuncData}
def lp_law_in_turn_1 : SM :=
    sSeq (sSet 8 (eCall 2 m_law_draw (eCons (eVar 0) (eCons (eC (.int 6)) (eNil)))))
    (sIf (bOr (bVal (eBin dEq (eBin dAdd (eArgs dLen (eCons (eVar 5) (eNil))) (eArgs dLen (eCons (eVar 6) (eNil)))) (eC (.int 0)))) (bAnd (bVal (eBin dEq (eVar 8) (eC (.int 4)))) (bVal (eBin dLt (eBin dAdd (eArgs dLen (eCons (eVar 5) (eNil))) (eArgs dLen (eCons (eVar 6) (eNil)))) (eC (.int 5))))))
    (sSeq (sSet 4 (eBin dAdd (eBin dAdd (eVar 4) (eC (.int 1))) (eCall 2 m_law_draw (eCons (eVar 0) (eCons (eC (.int 3)) (eNil))))))
    (sSeq (sDo (eApp (eVar 6) (eVar 4)))
    (sDo (eApp (eVar 3) (eTup (eCons (eC (.str "begin")) (eCons (eVar 4) (eNil))))))))
    (sIf (bAnd (bVal (eBin dLt (eVar 8) (eC (.int 4)))) (bVal (eBin dGt (eArgs dLen (eCons (eVar 6) (eNil))) (eC (.int 0)))))
    (sSeq (sSet 9 (eCall 2 m_law_draw (eCons (eVar 0) (eCons (eArgs dLen (eCons (eVar 6) (eNil))) (eNil)))))
    (sSeq (sSet 5 (eBin (dCat mkL) (eVar 5) (eSl mkL (eVar 6) (oNone) (oSome (eVar 9)))))
    (sSeq (sSet 3 (eBin (dCat mkL) (eVar 3) (eCall 3 m_law_written (eCons (eVar 0) (eCons (eVar 1) (eCons (eBin dIxA (eVar 6) (eVar 9)) (eNil)))))))
    (sSet 6 (eSl mkL (eVar 6) (oSome (eBin dAdd (eVar 9) (eC (.int 1)))) (oNone))))))
    (sIf (bVal (eBin dGt (eArgs dLen (eCons (eVar 5) (eNil))) (eC (.int 0))))
    (sDo (eApp (eVar 3) (eTup (eCons (eCall 2 m_law_pick (eCons (eVar 0) (eCons (eFro (eCons (eC (.str "end")) (eCons (eC (.str "back")) (eNil)))) (eNil)))) (eCons (ePopAt (eVar 5) (eCall 2 m_law_draw (eCons (eVar 0) (eCons (eArgs dLen (eCons (eVar 5) (eNil))) (eNil))))) (eNil))))))
    (sDo (eApp (eVar 3) (eTup (eCons (eCall 2 m_law_pick (eCons (eVar 0) (eCons (eFro (eCons (eC (.str "end")) (eCons (eC (.str "back")) (eNil)))) (eNil)))) (eCons (ePopAt (eVar 6) (eCall 2 m_law_draw (eCons (eVar 0) (eCons (eArgs dLen (eCons (eVar 6) (eNil))) (eNil))))) (eNil)))))))))
def b_law_in_turn : SM :=
    sSeq (sSet 3 (eLst (eNil)))
    (sSeq (sSet 4 (eC (.int 0)))
    (sSeq (sSet 5 (eLst (eNil)))
    (sSeq (sSet 6 (eLst (eNil)))
    (sSeq (sForI (iRange1 (eVar 2)) (tgName 7) lp_law_in_turn_1)
    (sRet (eBin (dCat mkF) (eVar 3) (eLc (iSeq (eBin (dCat mkF) (eVar 6) (eVar 5))) (tgName 10) (bYes) (eTup (eCons (eC (.str "end")) (eCons (eVar 10) (eNil)))) [10])))))))
def m_law_in_turn : List D → MH → Res D := frzB (fnB 11 b_law_in_turn)
theorem ok_law_in_turn (T : Txt P w K mg ad fd) : FnOk P w K mg base (L2N.CX P w) 15 (ad 42) (fd 42) ["_law_box_here", "_law_table", "_law_many"] (spD ⟨K, ad⟩ 3 m_law_in_turn) := by
  refine fn_frz ?_
  refine fn_ok2 T.F42 sc_law_in_turn fun cdv A outer s H E hr tk po => ?_
  have hu := hr.units
  have hu1 := hu_of hr
  exact ds_cons (ds_set (i := 3) sc_law_in_turn.nd (de_lst (de_nil)))
    (ds_cons (ds_set (i := 4) sc_law_in_turn.nd (de_int))
    (ds_cons (ds_set (i := 5) sc_law_in_turn.nd (de_lst (de_nil)))
    (ds_cons (ds_set (i := 6) sc_law_in_turn.nd (de_lst (de_nil)))
    (ds_cons (ds_for (fun _ => pin_nil) po rfl (pi_range1 rfl T.n_range (de_cons (de_v 2) de_nil)) (itSim_range1) (pg_name (i := 7) sc_law_in_turn.nd rfl (by first | exact Or.inl rfl | exact Or.inr rfl)) (tgName_sim 7)
    (ds_cons (ds_set (i := 8) sc_law_in_turn.nd (de_call (ok_law_draw T) (hr.mono (by decide)) tk T.g28 T.F28.kp T.b28 (de_cons (de_v 0) (de_cons (de_int) (de_nil)))))
    (ds_one (ds_if (dt_w (dw_or (dt_eq rfl hu (de_add rfl (de_len (de_cons (de_v 5) (de_nil)) (hK := rfl) (hm := T.n_len)) (de_len (de_cons (de_v 6) (de_nil)) (hK := rfl) (hm := T.n_len))) (de_int)) (dw_or1 (dt_w (dw_and (dt_eq rfl hu (de_v 8) (de_int)) (dw_and1 (dt_lt (de_add rfl (de_len (de_cons (de_v 5) (de_nil)) (hK := rfl) (hm := T.n_len)) (de_len (de_cons (de_v 6) (de_nil)) (hK := rfl) (hm := T.n_len))) (de_int))))))))
    (ds_cons (ds_set (i := 4) sc_law_in_turn.nd (de_add rfl (de_add rfl (de_v 4) (de_int)) (de_call (ok_law_draw T) (hr.mono (by decide)) tk T.g28 T.F28.kp T.b28 (de_cons (de_v 0) (de_cons (de_int) (de_nil))))))
    (ds_cons (ds_do (de_app (de_v 6) (de_v 4)))
    (ds_one (ds_do (de_app (de_v 3) (de_tup (de_cons (de_str) (de_cons (de_v 4) (de_nil)))))))))
    (ds_one (ds_if (dt_w (dw_and (dt_lt (de_v 8) (de_int)) (dw_and1 (dt_gt (de_len (de_cons (de_v 6) (de_nil)) (hK := rfl) (hm := T.n_len)) (de_int)))))
    (ds_cons (ds_set (i := 9) sc_law_in_turn.nd (de_call (ok_law_draw T) (hr.mono (by decide)) tk T.g28 T.F28.kp T.b28 (de_cons (de_v 0) (de_cons (de_len (de_cons (de_v 6) (de_nil)) (hK := rfl) (hm := T.n_len)) (de_nil)))))
    (ds_cons (ds_set (i := 5) sc_law_in_turn.nd (de_cat rfl mkL_ok (de_v 5) (de_sl rfl mkL_ok (de_v 6) (do_none) (do_some (de_v 9)))))
    (ds_cons (ds_set (i := 3) sc_law_in_turn.nd (de_cat rfl mkL_ok (de_v 3) (de_call (ok_law_written T) (hr.mono (by decide)) tk T.g41 T.F41.kp T.b41 (de_cons (de_v 0) (de_cons (de_v 1) (de_cons (de_ixA rfl hu1 (de_v 6) (de_v 9)) (de_nil)))))))
    (ds_one (ds_set (i := 6) sc_law_in_turn.nd (de_sl rfl mkL_ok (de_v 6) (do_some (de_add rfl (de_v 9) (de_int))) (do_none)))))))
    (ds_one (ds_if (dt_gt (de_len (de_cons (de_v 5) (de_nil)) (hK := rfl) (hm := T.n_len)) (de_int))
    (ds_one (ds_do (de_app (de_v 3) (de_tup (de_cons (de_call (ok_law_pick T) (hr.mono (by decide)) tk T.g29 T.F29.kp T.b29 (de_cons (de_v 0) (de_cons (de_fro (de_cons (de_str) (de_cons (de_str) (de_nil)))) (de_nil)))) (de_cons (de_popAt (de_v 5) (de_call (ok_law_draw T) (hr.mono (by decide)) tk T.g28 T.F28.kp T.b28 (de_cons (de_v 0) (de_cons (de_len (de_cons (de_v 5) (de_nil)) (hK := rfl) (hm := T.n_len)) (de_nil))))) (de_nil)))))))
    (ds_one (ds_do (de_app (de_v 3) (de_tup (de_cons (de_call (ok_law_pick T) (hr.mono (by decide)) tk T.g29 T.F29.kp T.b29 (de_cons (de_v 0) (de_cons (de_fro (de_cons (de_str) (de_cons (de_str) (de_nil)))) (de_nil)))) (de_cons (de_popAt (de_v 6) (de_call (ok_law_draw T) (hr.mono (by decide)) tk T.g28 T.F28.kp T.b28 (de_cons (de_v 0) (de_cons (de_len (de_cons (de_v 6) (de_nil)) (hK := rfl) (hm := T.n_len)) (de_nil))))) (de_nil)))))))))))))))
    (ds_one (ds_ret (de_cat rfl mkF_ok (de_v 3) (de_lc (own := [("_law_one", 10)]) sc_law_in_turn.nd (pi_or (pi_list (de_cat rfl mkF_ok (de_v 6) (de_v 5))) (pi_tup (de_cat rfl mkF_ok (de_v 6) (de_v 5)))) (itSim_seq rfl) (blkOk_by (N := ["_law_box_here", "_law_table", "_law_many", "_law_calls", "_law_fresh", "_law_passed", "_law_queue", "_law_k", "_law_pick_here", "_law_at", "_law_one"]) (sc := defScope s_law_in_turn) (by decide +kernel)) (tgName_sim 10) (tgName_own 10 (by decide)) (fun _ _ _ _ _ => pg_name (i := 10) sc_law_in_turn.nd rfl (by first | exact Or.inl rfl | exact Or.inr rfl)) (fun _ _ _ _ _ => dts_nil) (fun _ _ _ _ _ => de_tup (de_cons (de_str) (de_cons (de_v 10) (de_nil))))))))))))
end
section
variable {P : Program} {w : World} {K : PySem.W.Frag} {mg : Str → Option Value} {base : Heap} {ad : Nat → Addr} {fd : Nat → FuncData}
def b_Log___init__ : SM :=
    sSeq (sPutF [6] "book" (eVar 0) (eVar 1))
    (sSeq (sPutF [6] "start" (eVar 0) (eC (.int 0)))
    (sSeq (sPutF [6] "units" (eVar 0) (eLst (eNil)))
    (sSeq (sPutF [6] "drafts" (eVar 0) (eDNew))
    (sSeq (sPutF [6] "over" (eVar 0) (eDNew))
    (sSeq (sPutF [6] "written" (eVar 0) (eLst (eNil)))
    (sPutF [6] "lasts" (eVar 0) (eDNew)))))))
def m_Log___init__ : List D → MH → Res D := fnB 2 b_Log___init__
theorem ok_Log___init__ (T : Txt P w K mg ad fd) : FnOk P w K mg base (L2N.CX P w) 3 (ad 7) (fd 7) ["self", "book"] (spD ⟨K, ad⟩ 2 m_Log___init__) := by
  refine fn_ok2 T.F7 sc_Log___init__ fun cdv A outer s H E hr tk po => ?_
  have hu := hr.units
  have hu1 := hu_of hr
  exact ds_cons (ds_putF T.cf_book (de_v 0) (de_v 1))
    (ds_cons (ds_putF T.cf_start (de_v 0) (de_int))
    (ds_cons (ds_putF T.cf_units (de_v 0) (de_lst (de_nil)))
    (ds_cons (ds_putF T.cf_drafts (de_v 0) (de_dnew))
    (ds_cons (ds_putF T.cf_over (de_v 0) (de_dnew))
    (ds_cons (ds_putF T.cf_written (de_v 0) (de_lst (de_nil)))
    (ds_one (ds_putF T.cf_lasts (de_v 0) (de_dnew))))))))
end
section
variable {P : Program} {w : World} {K : PySem.W.Frag} {mg : Str → Option Value} {base : Heap} {ad : Nat → Addr} {fd : Nat → FuncData}
theorem ok_InvalidBook___init__ (T : Txt P w K mg ad fd) : FnOk P w K mg base (L2N.CX P w) 3 (ad 5) (fd 5) ["self", "part"] (spX ⟨K, ad⟩ 4 1 ["part"] xv_InvalidBook) := by
  exact initX_ok (g := ⟨K, ad⟩) (c := 4) (l := [("part", eVar 1)]) (acc := fun ds => [("part", dAt ds 0)]) T.O5 sc_InvalidBook___init__ T.ox4 rfl rfl (fun _ _ _ _ => rfl) (fun _ _ _ _ => rfl) (fun _ _ _ _ _ _ _ => .cons (pe_var (i := 0) rfl (.inl rfl) (by decide) (by decide)) (de_v 1) T.ofl4_part rfl (.nil)) (fun a ds M hl => match ds, hl with | [_], _ => ⟨_, _, rfl, rfl, rfl⟩) (fun _ => rfl) (fun _ => rfl) (by decide) (by decide)
end
section
variable {P : Program} {w : World} {K : PySem.W.Frag} {mg : Str → Option Value} {base : Heap} {ad : Nat → Addr} {fd : Nat → FuncData}
def b_check_word : SM :=
    sIf (bVal (eBin dNotInA (eVar 1) (eVar 2)))
    (sRaiseX 4 1 ["part"] xv_InvalidBook (eCons (eVar 0) (eNil)))
    (sNil)
def m_check_word : List D → MH → Res D := fnB 3 b_check_word
theorem ok_check_word (T : Txt P w K mg ad fd) : FnR P w K mg base (L2N.CX P w) 6 (ad 21) (spR ⟨K, ad⟩ 2 m_check_word) := by
  refine fnR_ok (ps := ["part", "word"]) (pv := "words") T.F21 sc_check_word T.vb21 fun cdv A outer s H E hr tk po => ?_
  have hu := hr.units
  have hu1 := hu_of hr
  exact ds_one (ds_if (dt_notinA rfl hu1 (de_v 1) (de_v 2))
    (ds_one (ds_raiseX T.ox4 T.oi4 T.ot4 (ok_InvalidBook___init__ T) (hr.mono (by decide)) tk T.b5 T.g4 (de_cons (de_v 0) (de_nil))))
    (ds_nil))
end
section
variable {P : Program} {w : World} {K : PySem.W.Frag} {mg : Str → Option Value} {base : Heap} {ad : Nat → Addr} {fd : Nat → FuncData}
def b_LogBook___init__ : SM :=
    sSeq (sDo (eCallR 2 m_check_word (eCons (eC (.str "log")) (eCons (eVar 1) (eStar (eC cc_LogBook_WHEN) (eNil))))))
    (sSeq (sDo (eCallR 2 m_check_word (eCons (eC (.str "log")) (eCons (eVar 2) (eStar (eC cc_LogBook_WHAT) (eNil))))))
    (sSeq (sDo (eCallR 2 m_check_word (eCons (eC (.str "log")) (eCons (eVar 3) (eStar (eC cc_LogBook_KEPT) (eNil))))))
    (sSeq (sDo (eCallR 2 m_check_word (eCons (eC (.str "log")) (eCons (eVar 4) (eStar (eC cc_LogBook_CONFIRM) (eNil))))))
    (sSeq (sDo (eCallR 2 m_check_word (eCons (eC (.str "log")) (eCons (eVar 5) (eStar (eC cc_LogBook_CUT) (eNil))))))
    (sSeq (sPutF [22] "when" (eVar 0) (eVar 1))
    (sSeq (sPutF [22] "what" (eVar 0) (eVar 2))
    (sSeq (sPutF [22] "kept" (eVar 0) (eVar 3))
    (sSeq (sPutF [22] "confirm" (eVar 0) (eVar 4))
    (sPutF [22] "cut" (eVar 0) (eVar 5))))))))))
def m_LogBook___init__ : List D → MH → Res D := fnB 6 b_LogBook___init__
theorem ok_LogBook___init__ (T : Txt P w K mg ad fd) : FnOk P w K mg base (L2N.CX P w) 9 (ad 23) (fd 23) ["self", "when", "what", "kept", "confirm", "cut"] (spD ⟨K, ad⟩ 6 m_LogBook___init__) := by
  refine fnD_ok2 T.F23 sc_LogBook___init__ fun cdv A outer s H E hr tk po => ?_
  have hu := hr.units
  have hu1 := hu_of hr
  exact ds_cons (ds_do (de_callR (ok_check_word T) (hr.mono (by decide)) tk T.g21 T.F21.kp (de_cons (de_str) (de_cons (de_v 1) (da_star (de_cval (c := 22) T.g22 T.cr22 T.ct22_WHEN.choose_spec.choose_spec) (de_nil) rfl)))))
    (ds_cons (ds_do (de_callR (ok_check_word T) (hr.mono (by decide)) tk T.g21 T.F21.kp (de_cons (de_str) (de_cons (de_v 2) (da_star (de_cval (c := 22) T.g22 T.cr22 T.ct22_WHAT.choose_spec.choose_spec) (de_nil) rfl)))))
    (ds_cons (ds_do (de_callR (ok_check_word T) (hr.mono (by decide)) tk T.g21 T.F21.kp (de_cons (de_str) (de_cons (de_v 3) (da_star (de_cval (c := 22) T.g22 T.cr22 T.ct22_KEPT.choose_spec.choose_spec) (de_nil) rfl)))))
    (ds_cons (ds_do (de_callR (ok_check_word T) (hr.mono (by decide)) tk T.g21 T.F21.kp (de_cons (de_str) (de_cons (de_v 4) (da_star (de_cval (c := 22) T.g22 T.cr22 T.ct22_CONFIRM.choose_spec.choose_spec) (de_nil) rfl)))))
    (ds_cons (ds_do (de_callR (ok_check_word T) (hr.mono (by decide)) tk T.g21 T.F21.kp (de_cons (de_str) (de_cons (de_v 5) (da_star (de_cval (c := 22) T.g22 T.cr22 T.ct22_CUT.choose_spec.choose_spec) (de_nil) rfl)))))
    (ds_cons (ds_putF T.cf_when (de_v 0) (de_v 1))
    (ds_cons (ds_putF T.cf_what (de_v 0) (de_v 2))
    (ds_cons (ds_putF T.cf_kept (de_v 0) (de_v 3))
    (ds_cons (ds_putF T.cf_confirm (de_v 0) (de_v 4))
    (ds_one (ds_putF T.cf_cut (de_v 0) (de_v 5)))))))))))
end
section
variable {P : Program} {w : World} {K : PySem.W.Frag} {mg : Str → Option Value} {base : Heap} {ad : Nat → Addr} {fd : Nat → FuncData}
def b_law_log_book : SM :=
    sRet (eMakeK 22 0 5 gd_LogBook___init___1_when_what_kept_confirm_cut m_LogBook___init__ (eCons (eBin dIxA (eVar 0) (eC (.int 0))) (eCons (eBin dIxA (eVar 0) (eC (.int 1))) (eCons (eBin dIxA (eVar 0) (eC (.int 2))) (eCons (eBin dIxA (eVar 0) (eC (.int 3))) (eCons (eBin dIxA (eVar 0) (eC (.int 4))) (eNil)))))))
def m_law_log_book : List D → MH → Res D := frzBO (fnB 1 b_law_log_book)
theorem ok_law_log_book (T : Txt P w K mg ad fd) : FnOk P w K mg base (L2N.CX P w) 12 (ad 34) (fd 34) ["_law_words"] (spD ⟨K, ad⟩ 1 m_law_log_book) := by
  obtain ⟨_, kb_LogBook___init___1_when_what_kept_confirm_cut⟩ := T.kb_LogBook___init___1_when_what_kept_confirm_cut
  refine fn_frzO ?_
  refine fn_ok2 T.F34 sc_law_log_book fun cdv A outer s H E hr tk po => ?_
  have hu := hr.units
  have hu1 := hu_of hr
  exact ds_one (ds_ret (de_makeK (c := 22) T.mk22 (ok_LogBook___init__ T) (hr.mono (by decide)) tk T.g22 kb_LogBook___init___1_when_what_kept_confirm_cut gd_LogBook___init___1_when_what_kept_confirm_cut_rep gd_LogBook___init___1_when_what_kept_confirm_cut_len (dk_cons (de_ixA rfl hu1 (de_v 0) (de_int)) (dk_cons (de_ixA rfl hu1 (de_v 0) (de_int)) (dk_cons (de_ixA rfl hu1 (de_v 0) (de_int)) (dk_cons (de_ixA rfl hu1 (de_v 0) (de_int)) (dk_cons (de_ixA rfl hu1 (de_v 0) (de_int)) (dk_nil))))))))
end
section
variable {P : Program} {w : World} {K : PySem.W.Frag} {mg : Str → Option Value} {base : Heap} {ad : Nat → Addr} {fd : Nat → FuncData}
def lp_law_portions_1 : SM :=
    sSeq (sSet 7 (eFro (eCons (eVar 5) (eNil))))
    (sSeq (sIf (bVal (eBin dEq (eVar 1) (eC (.str "logged"))))
    (sSet 7 (eBin (dCat mkF) (eVar 7) (eLc (iSeq (eVar 6)) (tgTup [8, 9]) (bYes) (eTup (eCons (eC (.str "summary")) (eCons (eVar 8) (eCons (eVar 9) (eNil))))) [8, 9])))
    (sNil))
    (sDo (eApp (eVar 4) (eVar 7))))
def lp_law_portions_2 : SM :=
    sSet 7 (eBin (dCat mkF) (eVar 7) (eSl mkF (eVar 10) (oSome (eC (.int 1))) (oNone)))
def b_law_portions : SM :=
    sSeq (sSet 4 (eLst (eNil)))
    (sSeq (sForI (iSeq (eVar 3)) (tgTup [5, 6]) lp_law_portions_1)
    (sSeq (sIf (bOr (bVal (eBin dEq (eVar 0) (eC (.str "image")))) (bVal (eBin dEq (eArgs dLen (eCons (eVar 3) (eNil))) (eC (.int 0)))))
    (sRet (eVar 4))
    (sNil))
    (sSeq (sSet 7 (eFro (eCons (eTup (eCons (eC (.str "statement")) (eCons (eVar 2) (eNil)))) (eNil))))
    (sSeq (sForI (iSeq (eVar 4)) (tgName 10) lp_law_portions_2)
    (sRet (eFro (eCons (eVar 7) (eNil))))))))
def m_law_portions : List D → MH → Res D := frzB (fnB 11 b_law_portions)
theorem ok_law_portions (T : Txt P w K mg ad fd) : FnOk P w K mg base (L2N.CX P w) 3 (ad 37) (fd 37) ["_law_what", "_law_kept", "_law_statement", "_law_changes_here"] (spD ⟨K, ad⟩ 4 m_law_portions) := by
  refine fn_frz ?_
  refine fn_ok2 T.F37 sc_law_portions fun cdv A outer s H E hr tk po => ?_
  have hu := hr.units
  have hu1 := hu_of hr
  exact ds_cons (ds_set (i := 4) sc_law_portions.nd (de_lst (de_nil)))
    (ds_cons (ds_for (fun _ => pin_nil) po rfl (pi_or (pi_list (de_v 3)) (pi_tup (de_v 3))) (itSim_seq rfl) (pg_tup rfl (pgs_cons (pg_name (i := 5) sc_law_portions.nd rfl (by first | exact Or.inl rfl | exact Or.inr rfl)) (pgs_cons (pg_name (i := 6) sc_law_portions.nd rfl (by first | exact Or.inl rfl | exact Or.inr rfl)) (pgs_nil)))) (tgTup_sim rfl [5, 6])
    (ds_cons (ds_set (i := 7) sc_law_portions.nd (de_fro (de_cons (de_v 5) (de_nil))))
    (ds_cons (ds_if (dt_eq rfl hu (de_v 1) (de_str))
    (ds_one (ds_set (i := 7) sc_law_portions.nd (de_cat rfl mkF_ok (de_v 7) (de_lc (own := [("_law_name", 8), ("_law_difference", 9)]) sc_law_portions.nd (pi_or (pi_list (de_v 6)) (pi_tup (de_v 6))) (itSim_seq rfl) (blkOk_by (N := ["_law_what", "_law_kept", "_law_statement", "_law_changes_here", "_law_found", "_law_image", "_law_differences", "_law_parts", "_law_name", "_law_difference", "_law_one"]) (sc := defScope s_law_portions) (by decide +kernel)) (tgTup_sim rfl [8, 9]) (tgTup_own [8, 9] (by decide)) (fun _ _ _ _ _ => pg_tup rfl (pgs_cons (pg_name (i := 8) sc_law_portions.nd rfl (by first | exact Or.inl rfl | exact Or.inr rfl)) (pgs_cons (pg_name (i := 9) sc_law_portions.nd rfl (by first | exact Or.inl rfl | exact Or.inr rfl)) (pgs_nil)))) (fun _ _ _ _ _ => dts_nil) (fun _ _ _ _ _ => de_tup (de_cons (de_str) (de_cons (de_v 8) (de_cons (de_v 9) (de_nil)))))))))
    (ds_nil))
    (ds_one (ds_do (de_app (de_v 4) (de_v 7)))))))
    (ds_cons (ds_if (dt_w (dw_or (dt_eq rfl hu (de_v 0) (de_str)) (dw_or1 (dt_eq rfl hu (de_len (de_cons (de_v 3) (de_nil)) (hK := rfl) (hm := T.n_len)) (de_int)))))
    (ds_one (ds_ret (de_v 4)))
    (ds_nil))
    (ds_cons (ds_set (i := 7) sc_law_portions.nd (de_fro (de_cons (de_tup (de_cons (de_str) (de_cons (de_v 2) (de_nil)))) (de_nil))))
    (ds_cons (ds_for (fun _ => pin_nil) po rfl (pi_or (pi_list (de_v 4)) (pi_tup (de_v 4))) (itSim_seq rfl) (pg_name (i := 10) sc_law_portions.nd rfl (by first | exact Or.inl rfl | exact Or.inr rfl)) (tgName_sim 10)
    (ds_one (ds_set (i := 7) sc_law_portions.nd (de_cat rfl mkF_ok (de_v 7) (de_sl rfl mkF_ok (de_v 10) (do_some (de_int)) (do_none))))))
    (ds_one (ds_ret (de_fro (de_cons (de_v 7) (de_nil)))))))))
end
section
variable {P : Program} {w : World} {K : PySem.W.Frag} {mg : Str → Option Value} {base : Heap} {ad : Nat → Addr} {fd : Nat → FuncData}
def b_law_call_portions : SM :=
    sSeq (sIf (bVal (eBin dEq (eBin dIxA (eVar 3) (eC (.int 0))) (eC (.str "wrote"))))
    (sRet (eCall 4 m_law_portions (eCons (eVar 1) (eCons (eVar 2) (eCons (eBin dIxA (eVar 3) (eC (.int 2))) (eCons (eBin dIxA (eVar 3) (eC (.int 3))) (eNil)))))))
    (sNil))
    (sSeq (sIf (bAnd (bVal (eBin dEq (eBin dIxA (eVar 3) (eC (.int 0))) (eC (.str "undone")))) (bAnd (bVal (eBin dEq (eVar 0) (eC (.str "write")))) (bVal (eBin dEq (eVar 1) (eC (.str "image"))))))
    (sRet (eCall 4 m_law_portions (eCons (eVar 1) (eCons (eVar 2) (eCons (eC .non) (eCons (eBin dIxA (eVar 3) (eC (.int 2))) (eNil)))))))
    (sNil))
    (sRet (eFro (eNil))))
def m_law_call_portions : List D → MH → Res D := frzB (fnB 4 b_law_call_portions)
theorem ok_law_call_portions (T : Txt P w K mg ad fd) : FnOk P w K mg base (L2N.CX P w) 6 (ad 38) (fd 38) ["_law_when", "_law_what", "_law_kept", "_law_call"] (spD ⟨K, ad⟩ 4 m_law_call_portions) := by
  refine fn_frz ?_
  refine fn_ok2 T.F38 sc_law_call_portions fun cdv A outer s H E hr tk po => ?_
  have hu := hr.units
  have hu1 := hu_of hr
  exact ds_cons (ds_if (dt_eq rfl hu (de_ixA rfl hu1 (de_v 3) (de_int)) (de_str))
    (ds_one (ds_ret (de_call (ok_law_portions T) (hr.mono (by decide)) tk T.g37 T.F37.kp T.b37 (de_cons (de_v 1) (de_cons (de_v 2) (de_cons (de_ixA rfl hu1 (de_v 3) (de_int)) (de_cons (de_ixA rfl hu1 (de_v 3) (de_int)) (de_nil))))))))
    (ds_nil))
    (ds_cons (ds_if (dt_w (dw_and (dt_eq rfl hu (de_ixA rfl hu1 (de_v 3) (de_int)) (de_str)) (dw_and (dt_eq rfl hu (de_v 0) (de_str)) (dw_and1 (dt_eq rfl hu (de_v 1) (de_str))))))
    (ds_one (ds_ret (de_call (ok_law_portions T) (hr.mono (by decide)) tk T.g37 T.F37.kp T.b37 (de_cons (de_v 1) (de_cons (de_v 2) (de_cons (de_non) (de_cons (de_ixA rfl hu1 (de_v 3) (de_int)) (de_nil))))))))
    (ds_nil))
    (ds_one (ds_ret (de_fro (de_nil)))))
end
section
variable {P : Program} {w : World} {K : PySem.W.Frag} {mg : Str → Option Value} {base : Heap} {ad : Nat → Addr} {fd : Nat → FuncData}
def lp_law_units_due_1 : SM :=
    sIf (bVal (eBin dEq (eVar 0) (eC (.str "write"))))
    (sDo (eApp (eVar 4) (eTup (eCons (eBin dIxA (eVar 8) (eC (.int 0))) (eCons (eArgs dTupF (eCons (eVar 10) (eNil))) (eNil))))))
    (sSetIx dSetIx (eVar 8) (eC (.int 1)) (eBin (dCat mkF) (eBin dIxA (eVar 8) (eC (.int 1))) (eVar 10)))
def lp_law_units_due_2 : SM :=
    sIf (bAnd (bVal (eBin dIxA (eVar 9) (eC (.int 2)))) (bVal (eBin dGt (eArgs dLen (eCons (eBin dIxA (eVar 9) (eC (.int 1))) (eNil))) (eC (.int 0)))))
    (sSeq (sDo (eApp (eVar 4) (eTup (eCons (eBin dIxA (eVar 9) (eC (.int 0))) (eCons (eArgs dTupF (eCons (eBin dIxA (eVar 9) (eC (.int 1))) (eNil))) (eNil))))))
    (sSetIx dSetIx (eVar 9) (eC (.int 1)) (eFro (eNil))))
    (sIf (bAnd (bNot (bVal (eBin dIxA (eVar 9) (eC (.int 2))))) (bVal (eBin dEq (eVar 0) (eC (.str "begin")))))
    (sBk)
    (sNil))
def lp_law_units_due_3 : SM :=
    sSeq (sIf (bVal (eBin dEq (eBin dIxA (eVar 7) (eC (.int 0))) (eC (.str "begin"))))
    (sDo (eApp (eVar 5) (eLst (eCons (eBin dIxA (eVar 7) (eC (.int 1))) (eCons (eFro (eNil)) (eCons (eC (.bl false)) (eCons (eC (.bl false)) (eNil))))))))
    (sNil))
    (sSeq (sSet 8 (eBin dIxA (eLc (iSeq (eVar 5)) (tgName 9) (bVal (eBin dEq (eBin dIxA (eVar 9) (eC (.int 0))) (eBin dIxA (eVar 7) (eC (.int 1))))) (eVar 9) [9]) (eC (.int 0))))
    (sSeq (sForI (iSeq (eCall 4 m_law_call_portions (eCons (eVar 0) (eCons (eVar 1) (eCons (eVar 2) (eCons (eVar 7) (eNil))))))) (tgName 10) lp_law_units_due_1)
    (sSeq (sIf (bVal (eBin dEq (eBin dIxA (eVar 7) (eC (.int 0))) (eC (.str "wrote"))))
    (sSetIx dSetIx (eVar 8) (eC (.int 3)) (eC (.bl true)))
    (sNil))
    (sIf (bOr (bVal (eBin dEq (eBin dIxA (eVar 7) (eC (.int 0))) (eC (.str "end")))) (bVal (eBin dEq (eBin dIxA (eVar 7) (eC (.int 0))) (eC (.str "back")))))
    (sSeq (sSetIx dSetIx (eVar 8) (eC (.int 2)) (eC (.bl true)))
    (sSeq (sIf (bAnd (bVal (eBin dEq (eBin dIxA (eVar 7) (eC (.int 0))) (eC (.str "end")))) (bVal (eBin dIxA (eVar 8) (eC (.int 3)))))
    (sDo (eApp (eVar 6) (eBin dIxA (eVar 8) (eC (.int 0)))))
    (sNil))
    (sSeq (sIf (bVal (eBin dEq (eBin dIxA (eVar 7) (eC (.int 0))) (eC (.str "back"))))
    (sSetIx dSetIx (eVar 8) (eC (.int 1)) (eFro (eNil)))
    (sNil))
    (sForI (iSeq (eVar 5)) (tgName 9) lp_law_units_due_2))))
    (sNil)))))
def b_law_units_due : SM :=
    sSeq (sSet 4 (eLst (eNil)))
    (sSeq (sSet 5 (eLst (eNil)))
    (sSeq (sSet 6 (eLst (eNil)))
    (sSeq (sForI (iSeq (eVar 3)) (tgName 7) lp_law_units_due_3)
    (sRet (eFro (eCons (eVar 4) (eCons (eVar 6) (eNil))))))))
def m_law_units_due : List D → MH → Res D := frzB (fnB 11 b_law_units_due)
theorem ok_law_units_due (T : Txt P w K mg ad fd) : FnOk P w K mg base (L2N.CX P w) 9 (ad 39) (fd 39) ["_law_when", "_law_what", "_law_kept", "_law_calls"] (spD ⟨K, ad⟩ 4 m_law_units_due) := by
  refine fn_frz ?_
  refine fn_ok2 T.F39 sc_law_units_due fun cdv A outer s H E hr tk po => ?_
  have hu := hr.units
  have hu1 := hu_of hr
  exact ds_cons (ds_set (i := 4) sc_law_units_due.nd (de_lst (de_nil)))
    (ds_cons (ds_set (i := 5) sc_law_units_due.nd (de_lst (de_nil)))
    (ds_cons (ds_set (i := 6) sc_law_units_due.nd (de_lst (de_nil)))
    (ds_cons (ds_for (fun _ => pin_nil) po rfl (pi_or (pi_list (de_v 3)) (pi_tup (de_v 3))) (itSim_seq rfl) (pg_name (i := 7) sc_law_units_due.nd rfl (by first | exact Or.inl rfl | exact Or.inr rfl)) (tgName_sim 7)
    (ds_cons (ds_if (dt_eq rfl hu (de_ixA rfl hu1 (de_v 7) (de_int)) (de_str))
    (ds_one (ds_do (de_app (de_v 5) (de_lst (de_cons (de_ixA rfl hu1 (de_v 7) (de_int)) (de_cons (de_fro (de_nil)) (de_cons (de_bl) (de_cons (de_bl) (de_nil)))))))))
    (ds_nil))
    (ds_cons (ds_set (i := 8) sc_law_units_due.nd (de_ixA rfl hu1 (de_lc (own := [("_law_draft", 9)]) sc_law_units_due.nd (pi_or (pi_list (de_v 5)) (pi_tup (de_v 5))) (itSim_seq rfl) (blkOk_by (N := ["_law_when", "_law_what", "_law_kept", "_law_calls", "_law_units", "_law_drafts", "_law_ended", "_law_call", "_law_one", "_law_draft", "_law_parts"]) (sc := defScope s_law_units_due) (by decide +kernel)) (tgName_sim 9) (tgName_own 9 (by decide)) (fun _ _ _ _ _ => pg_name (i := 9) sc_law_units_due.nd rfl (by first | exact Or.inl rfl | exact Or.inr rfl)) (fun _ _ _ _ _ => dts_one (dt_eq rfl hu (de_ixA rfl hu1 (de_v 9) (de_int)) (de_ixA rfl hu1 (de_v 7) (de_int)))) (fun _ _ _ _ _ => de_v 9)) (de_int)))
    (ds_cons (ds_for (fun _ => pin_nil) po rfl (pi_or (pi_list (de_call (ok_law_call_portions T) (hr.mono (by decide)) tk T.g38 T.F38.kp T.b38 (de_cons (de_v 0) (de_cons (de_v 1) (de_cons (de_v 2) (de_cons (de_v 7) (de_nil))))))) (pi_tup (de_call (ok_law_call_portions T) (hr.mono (by decide)) tk T.g38 T.F38.kp T.b38 (de_cons (de_v 0) (de_cons (de_v 1) (de_cons (de_v 2) (de_cons (de_v 7) (de_nil)))))))) (itSim_seq rfl) (pg_name (i := 10) sc_law_units_due.nd rfl (by first | exact Or.inl rfl | exact Or.inr rfl)) (tgName_sim 10)
    (ds_one (ds_if (dt_eq rfl hu (de_v 0) (de_str))
    (ds_one (ds_do (de_app (de_v 4) (de_tup (de_cons (de_ixA rfl hu1 (de_v 8) (de_int)) (de_cons (de_tupc (de_cons (de_v 10) (de_nil)) (hK := rfl) (hm := T.n_tuple)) (de_nil)))))))
    (ds_one (ds_setL (de_v 8) (de_int) (de_cat rfl mkF_ok (de_ixA rfl hu1 (de_v 8) (de_int)) (de_v 10)))))))
    (ds_cons (ds_if (dt_eq rfl hu (de_ixA rfl hu1 (de_v 7) (de_int)) (de_str))
    (ds_one (ds_setL (de_v 8) (de_int) (de_bl)))
    (ds_nil))
    (ds_one (ds_if (dt_w (dw_or (dt_eq rfl hu (de_ixA rfl hu1 (de_v 7) (de_int)) (de_str)) (dw_or1 (dt_eq rfl hu (de_ixA rfl hu1 (de_v 7) (de_int)) (de_str)))))
    (ds_cons (ds_setL (de_v 8) (de_int) (de_bl))
    (ds_cons (ds_if (dt_w (dw_and (dt_eq rfl hu (de_ixA rfl hu1 (de_v 7) (de_int)) (de_str)) (dw_and1 (dt_val (de_ixA rfl hu1 (de_v 8) (de_int))))))
    (ds_one (ds_do (de_app (de_v 6) (de_ixA rfl hu1 (de_v 8) (de_int)))))
    (ds_nil))
    (ds_cons (ds_if (dt_eq rfl hu (de_ixA rfl hu1 (de_v 7) (de_int)) (de_str))
    (ds_one (ds_setL (de_v 8) (de_int) (de_fro (de_nil))))
    (ds_nil))
    (ds_one (ds_for (fun _ => pin_nil) po rfl (pi_or (pi_list (de_v 5)) (pi_tup (de_v 5))) (itSim_seq rfl) (pg_name (i := 9) sc_law_units_due.nd rfl (by first | exact Or.inl rfl | exact Or.inr rfl)) (tgName_sim 9)
    (ds_one (ds_if (dt_w (dw_and (dt_val (de_ixA rfl hu1 (de_v 9) (de_int))) (dw_and1 (dt_gt (de_len (de_cons (de_ixA rfl hu1 (de_v 9) (de_int)) (de_nil)) (hK := rfl) (hm := T.n_len)) (de_int)))))
    (ds_cons (ds_do (de_app (de_v 4) (de_tup (de_cons (de_ixA rfl hu1 (de_v 9) (de_int)) (de_cons (de_tupc (de_cons (de_ixA rfl hu1 (de_v 9) (de_int)) (de_nil)) (hK := rfl) (hm := T.n_tuple)) (de_nil))))))
    (ds_one (ds_setL (de_v 9) (de_int) (de_fro (de_nil)))))
    (ds_one (ds_if (dt_w (dw_and (dt_not (dt_val (de_ixA rfl hu1 (de_v 9) (de_int)))) (dw_and1 (dt_eq rfl hu (de_v 0) (de_str)))))
    (ds_one (ds_break))
    (ds_nil))))))))))
    (ds_nil))))))))
    (ds_one (ds_ret (de_fro (de_cons (de_v 4) (de_cons (de_v 6) (de_nil)))))))))
end
section
variable {P : Program} {w : World} {K : PySem.W.Frag} {mg : Str → Option Value} {base : Heap} {ad : Nat → Addr} {fd : Nat → FuncData}
def b_Log_begin : SM :=
    sSetIx dSetD (eUn (dFld [6] "drafts") (eVar 0)) (eVar 1) (eLst (eNil))
def m_Log_begin : List D → MH → Res D := fnB 2 b_Log_begin
theorem ok_Log_begin (T : Txt P w K mg ad fd) : FnOk P w K mg base (L2N.CX P w) 3 (ad 10) (fd 10) ["self", "script"] (spD ⟨K, ad⟩ 2 m_Log_begin) := by
  refine fn_ok2 T.F10 sc_Log_begin fun cdv A outer s H E hr tk po => ?_
  have hu := hr.units
  have hu1 := hu_of hr
  exact ds_one (ds_setD hu1 (de_fld (g := ⟨K, ad⟩) T.cf_drafts (de_v 0)) (de_v 1) (de_lst (de_nil)))
end
section
variable {P : Program} {w : World} {K : PySem.W.Frag} {mg : Str → Option Value} {base : Heap} {ad : Nat → Addr} {fd : Nat → FuncData}
def b_Log_summary_parts : SM :=
    sSeq (sIf (bVal (eBin dEq (eUn (dFld [22] "kept") (eUn (dFld [6] "book") (eVar 0))) (eC (.str "own"))))
    (sRet (eFro (eNil)))
    (sNil))
    (sRet (eLc (iSeq (eVar 1)) (tgTup [2, 3]) (bYes) (eTup (eCons (eC (.str "summary")) (eCons (eVar 2) (eCons (eVar 3) (eNil))))) [2, 3]))
def m_Log_summary_parts : List D → MH → Res D := frzP (fnB 4 b_Log_summary_parts)
theorem ok_Log_summary_parts (T : Txt P w K mg ad fd) : FnOk P w K mg base (L2N.CX P w) 3 (ad 12) (fd 12) ["self", "differences"] (spD ⟨K, ad⟩ 2 m_Log_summary_parts) := by
  refine fn_frzP ?_
  refine fn_ok2 T.F12 sc_Log_summary_parts fun cdv A outer s H E hr tk po => ?_
  have hu := hr.units
  have hu1 := hu_of hr
  exact ds_cons (ds_if (dt_eq rfl hu (de_fld (g := ⟨K, ad⟩) T.cf_kept (de_fld (g := ⟨K, ad⟩) T.cf_book (de_v 0))) (de_str))
    (ds_one (ds_ret (de_fro (de_nil))))
    (ds_nil))
    (ds_one (ds_ret (de_lc (own := [("name", 2), ("difference", 3)]) sc_Log_summary_parts.nd (pi_or (pi_list (de_v 1)) (pi_tup (de_v 1))) (itSim_seq rfl) (blkOk_by (N := ["self", "differences", "name", "difference"]) (sc := defScope s_Log_summary_parts) (by decide +kernel)) (tgTup_sim rfl [2, 3]) (tgTup_own [2, 3] (by decide)) (fun _ _ _ _ _ => pg_tup rfl (pgs_cons (pg_name (i := 2) sc_Log_summary_parts.nd rfl (by first | exact Or.inl rfl | exact Or.inr rfl)) (pgs_cons (pg_name (i := 3) sc_Log_summary_parts.nd rfl (by first | exact Or.inl rfl | exact Or.inr rfl)) (pgs_nil)))) (fun _ _ _ _ _ => dts_nil) (fun _ _ _ _ _ => de_tup (de_cons (de_str) (de_cons (de_v 2) (de_cons (de_v 3) (de_nil))))))))
end
section
variable {P : Program} {w : World} {K : PySem.W.Frag} {mg : Str → Option Value} {base : Heap} {ad : Nat → Addr} {fd : Nat → FuncData}
def lp_Log_portions_1 : SM :=
    sSet 6 (eBin (dCat mkF) (eVar 6) (eMeth 6 "summary_parts" 2 m_Log_summary_parts (eVar 0) (eCons (eBin dIxA (eVar 7) (eC (.int 1))) (eNil))))
def b_Log_portions : SM :=
    sSeq (sSet 3 (eLc (iSeq (eVar 2)) (tgTup [4, 5]) (bYes) (eFro (eCons (eVar 4) (eStar (eMeth 6 "summary_parts" 2 m_Log_summary_parts (eVar 0) (eCons (eVar 5) (eNil))) (eNil)))) [4, 5]))
    (sSeq (sIf (bOr (bVal (eBin dEq (eUn (dFld [22] "what") (eUn (dFld [6] "book") (eVar 0))) (eC (.str "image")))) (bVal (eBin dEq (eArgs dLen (eCons (eVar 2) (eNil))) (eC (.int 0)))))
    (sRet (eVar 3))
    (sNil))
    (sSeq (sSet 6 (eFro (eCons (eTup (eCons (eC (.str "statement")) (eCons (eVar 1) (eNil)))) (eNil))))
    (sSeq (sForI (iSeq (eVar 2)) (tgName 7) lp_Log_portions_1)
    (sRet (eFro (eCons (eVar 6) (eNil)))))))
def m_Log_portions : List D → MH → Res D := frzP (fnB 8 b_Log_portions)
theorem ok_Log_portions (T : Txt P w K mg ad fd) : FnOk P w K mg base (L2N.CX P w) 6 (ad 13) (fd 13) ["self", "statement", "changes"] (spD ⟨K, ad⟩ 3 m_Log_portions) := by
  refine fn_frzP ?_
  refine fn_ok2 T.F13 sc_Log_portions fun cdv A outer s H E hr tk po => ?_
  have hu := hr.units
  have hu1 := hu_of hr
  exact ds_cons (ds_setLc (i := 3) (hpin := by intro p h; exact absurd h (by simp)) (own := [("image", 4), ("differences", 5)]) sc_Log_portions.nd (pi_or (pi_list (de_v 2)) (pi_tup (de_v 2))) (itSim_seq rfl) (blkOk_by (N := ["self", "statement", "changes", "portions", "image", "differences", "parts", "change"]) (sc := defScope s_Log_portions) (by decide +kernel)) (tgTup_sim rfl [4, 5]) (tgTup_own [4, 5] (by decide)) (fun _ _ _ _ _ => pg_tup rfl (pgs_cons (pg_name (i := 4) sc_Log_portions.nd rfl (by first | exact Or.inl rfl | exact Or.inr rfl)) (pgs_cons (pg_name (i := 5) sc_Log_portions.nd rfl (by first | exact Or.inl rfl | exact Or.inr rfl)) (pgs_nil)))) (fun _ _ _ _ _ => dts_nil) (fun _ _ _ _ _ => de_fro (de_cons (de_v 4) (da_star (de_meth (g := ⟨K, ad⟩) (c := 6) (de_v 0) T.cl6 T.me12 (ok_Log_summary_parts T) (hr.mono (by decide)) takesN0 T.b12 (de_cons (de_v 5) (de_nil))) (de_nil) rfl))) (sw_true rfl rfl rfl (by decide +kernel)))
    (ds_cons (ds_if (dt_w (dw_or (dt_eq rfl hu (de_fld (g := ⟨K, ad⟩) T.cf_what (de_fld (g := ⟨K, ad⟩) T.cf_book (de_v 0))) (de_str)) (dw_or1 (dt_eq rfl hu (de_len (de_cons (de_v 2) (de_nil)) (hK := rfl) (hm := T.n_len)) (de_int)))))
    (ds_one (ds_ret (de_v 3)))
    (ds_nil))
    (ds_cons (ds_set (i := 6) sc_Log_portions.nd (de_fro (de_cons (de_tup (de_cons (de_str) (de_cons (de_v 1) (de_nil)))) (de_nil))))
    (ds_cons (ds_for (fun _ => pin_nil) po rfl (pi_or (pi_list (de_v 2)) (pi_tup (de_v 2))) (itSim_seq rfl) (pg_name (i := 7) sc_Log_portions.nd rfl (by first | exact Or.inl rfl | exact Or.inr rfl)) (tgName_sim 7)
    (ds_one (ds_set (i := 6) sc_Log_portions.nd (de_cat rfl mkF_ok (de_v 6) (de_meth (g := ⟨K, ad⟩) (c := 6) (de_v 0) T.cl6 T.me12 (ok_Log_summary_parts T) (hr.mono (by decide)) tk T.b12 (de_cons (de_ixA rfl hu1 (de_v 7) (de_int)) (de_nil)))))))
    (ds_one (ds_ret (de_fro (de_cons (de_v 6) (de_nil))))))))
end
section
variable {P : Program} {w : World} {K : PySem.W.Frag} {mg : Str → Option Value} {base : Heap} {ad : Nat → Addr} {fd : Nat → FuncData}
def b_Log_append_unit : SM :=
    sSeq (sDo (eApp (eUn (dFld [6] "units") (eVar 0)) (eTup (eCons (eVar 1) (eCons (eArgs dTupF (eCons (eVar 2) (eNil))) (eNil))))))
    (sSetIx dSetD (eUn (dFld [6] "lasts") (eVar 0)) (eVar 1) (eArgs dLen (eCons (eUn (dFld [6] "units") (eVar 0)) (eNil))))
def m_Log_append_unit : List D → MH → Res D := fnB 3 b_Log_append_unit
theorem ok_Log_append_unit (T : Txt P w K mg ad fd) : FnOk P w K mg base (L2N.CX P w) 3 (ad 11) (fd 11) ["self", "script", "parts"] (spD ⟨K, ad⟩ 3 m_Log_append_unit) := by
  refine fn_ok2 T.F11 sc_Log_append_unit fun cdv A outer s H E hr tk po => ?_
  have hu := hr.units
  have hu1 := hu_of hr
  exact ds_cons (ds_do (de_app (de_fld (g := ⟨K, ad⟩) T.cf_units (de_v 0)) (de_tup (de_cons (de_v 1) (de_cons (de_tupc (de_cons (de_v 2) (de_nil)) (hK := rfl) (hm := T.n_tuple)) (de_nil))))))
    (ds_one (ds_setD hu1 (de_fld (g := ⟨K, ad⟩) T.cf_lasts (de_v 0)) (de_v 1) (de_len (de_cons (de_fld (g := ⟨K, ad⟩) T.cf_units (de_v 0)) (de_nil)) (hK := rfl) (hm := T.n_len))))
end
section
variable {P : Program} {w : World} {K : PySem.W.Frag} {mg : Str → Option Value} {base : Heap} {ad : Nat → Addr} {fd : Nat → FuncData}
def lp_Log_wrote_1 : SM :=
    sIf (bVal (eBin dEq (eUn (dFld [22] "when") (eUn (dFld [6] "book") (eVar 0))) (eC (.str "write"))))
    (sDo (eMeth 6 "append_unit" 3 m_Log_append_unit (eVar 0) (eCons (eVar 1) (eCons (eVar 4) (eNil)))))
    (sDo (eExt (eBin dIxA (eUn (dFld [6] "drafts") (eVar 0)) (eVar 1)) (eVar 4)))
def b_Log_wrote : SM :=
    sForI (iSeq (eMeth 6 "portions" 3 m_Log_portions (eVar 0) (eCons (eVar 2) (eCons (eVar 3) (eNil))))) (tgName 4) lp_Log_wrote_1
def m_Log_wrote : List D → MH → Res D := fnB 5 b_Log_wrote
theorem ok_Log_wrote (T : Txt P w K mg ad fd) : FnOk P w K mg base (L2N.CX P w) 9 (ad 14) (fd 14) ["self", "script", "statement", "changes"] (spD ⟨K, ad⟩ 4 m_Log_wrote) := by
  refine fn_ok2 T.F14 sc_Log_wrote fun cdv A outer s H E hr tk po => ?_
  have hu := hr.units
  have hu1 := hu_of hr
  exact ds_one (ds_for (fun _ => pin_nil) po rfl (pi_or (pi_list (de_meth (g := ⟨K, ad⟩) (c := 6) (de_v 0) T.cl6 T.me13 (ok_Log_portions T) (hr.mono (by decide)) tk T.b13 (de_cons (de_v 2) (de_cons (de_v 3) (de_nil))))) (pi_tup (de_meth (g := ⟨K, ad⟩) (c := 6) (de_v 0) T.cl6 T.me13 (ok_Log_portions T) (hr.mono (by decide)) tk T.b13 (de_cons (de_v 2) (de_cons (de_v 3) (de_nil)))))) (itSim_seq rfl) (pg_name (i := 4) sc_Log_wrote.nd rfl (by first | exact Or.inl rfl | exact Or.inr rfl)) (tgName_sim 4)
    (ds_one (ds_if (dt_eq rfl hu (de_fld (g := ⟨K, ad⟩) T.cf_when (de_fld (g := ⟨K, ad⟩) T.cf_book (de_v 0))) (de_str))
    (ds_one (ds_do (de_meth (g := ⟨K, ad⟩) (c := 6) (de_v 0) T.cl6 T.me11 (ok_Log_append_unit T) (hr.mono (by decide)) tk T.b11 (de_cons (de_v 1) (de_cons (de_v 4) (de_nil))))))
    (ds_one (ds_do (de_ext rfl (de_ixA rfl hu1 (de_fld (g := ⟨K, ad⟩) T.cf_drafts (de_v 0)) (de_v 1)) (de_v 4)))))))
end
section
variable {P : Program} {w : World} {K : PySem.W.Frag} {mg : Str → Option Value} {base : Heap} {ad : Nat → Addr} {fd : Nat → FuncData}
def b_Log_undone : SM :=
    sIf (bAnd (bVal (eBin dEq (eUn (dFld [22] "when") (eUn (dFld [6] "book") (eVar 0))) (eC (.str "write")))) (bVal (eBin dEq (eUn (dFld [22] "what") (eUn (dFld [6] "book") (eVar 0))) (eC (.str "image")))))
    (sDo (eMeth 6 "wrote" 4 m_Log_wrote (eVar 0) (eCons (eVar 1) (eCons (eC .non) (eCons (eVar 2) (eNil))))))
    (sNil)
def m_Log_undone : List D → MH → Res D := fnB 3 b_Log_undone
theorem ok_Log_undone (T : Txt P w K mg ad fd) : FnOk P w K mg base (L2N.CX P w) 12 (ad 15) (fd 15) ["self", "script", "changes"] (spD ⟨K, ad⟩ 3 m_Log_undone) := by
  refine fn_ok2 T.F15 sc_Log_undone fun cdv A outer s H E hr tk po => ?_
  have hu := hr.units
  have hu1 := hu_of hr
  exact ds_one (ds_if (dt_w (dw_and (dt_eq rfl hu (de_fld (g := ⟨K, ad⟩) T.cf_when (de_fld (g := ⟨K, ad⟩) T.cf_book (de_v 0))) (de_str)) (dw_and1 (dt_eq rfl hu (de_fld (g := ⟨K, ad⟩) T.cf_what (de_fld (g := ⟨K, ad⟩) T.cf_book (de_v 0))) (de_str)))))
    (ds_one (ds_do (de_meth (g := ⟨K, ad⟩) (c := 6) (de_v 0) T.cl6 T.me14 (ok_Log_wrote T) (hr.mono (by decide)) tk T.b14 (de_cons (de_v 1) (de_cons (de_non) (de_cons (de_v 2) (de_nil)))))))
    (ds_nil))
end
section
variable {P : Program} {w : World} {K : PySem.W.Frag} {mg : Str → Option Value} {base : Heap} {ad : Nat → Addr} {fd : Nat → FuncData}
def lp_Log_pass_on_1 : SM :=
    sIf (bVal (eBin dInA (eVar 2) (eUn (dFld [6] "over") (eVar 0))))
    (sSeq (sDelD (eUn (dFld [6] "drafts") (eVar 0)) (eVar 2))
    (sIf (bVal (eBin dGt (eArgs dLen (eCons (eVar 3) (eNil))) (eC (.int 0))))
    (sDo (eMeth 6 "append_unit" 3 m_Log_append_unit (eVar 0) (eCons (eVar 2) (eCons (eVar 3) (eNil)))))
    (sNil)))
    (sIf (bVal (eBin dEq (eUn (dFld [22] "when") (eUn (dFld [6] "book") (eVar 0))) (eC (.str "begin"))))
    (sRetN)
    (sNil))
def b_Log_pass_on : SM :=
    sSeq (sSetIx dSetD (eUn (dFld [6] "over") (eVar 0)) (eVar 1) (eC (.bl true)))
    (sForI (iSeq (eUn (fItems mkF) (eUn (dFld [6] "drafts") (eVar 0)))) (tgTup [2, 3]) lp_Log_pass_on_1)
def m_Log_pass_on : List D → MH → Res D := fnB 4 b_Log_pass_on
theorem ok_Log_pass_on (T : Txt P w K mg ad fd) : FnOk P w K mg base (L2N.CX P w) 6 (ad 18) (fd 18) ["self", "script"] (spD ⟨K, ad⟩ 2 m_Log_pass_on) := by
  refine fn_ok2 T.F18 sc_Log_pass_on fun cdv A outer s H E hr tk po => ?_
  have hu := hr.units
  have hu1 := hu_of hr
  exact ds_cons (ds_setD hu1 (de_fld (g := ⟨K, ad⟩) T.cf_over (de_v 0)) (de_v 1) (de_bl))
    (ds_one (ds_for (fun _ => pin_nil) po rfl (pi_or (pi_list (de_items rfl mkF_ok (de_fld (g := ⟨K, ad⟩) T.cf_drafts (de_v 0)) T.n_list)) (pi_tup (de_items rfl mkF_ok (de_fld (g := ⟨K, ad⟩) T.cf_drafts (de_v 0)) T.n_list))) (itSim_seq rfl) (pg_tup rfl (pgs_cons (pg_name (i := 2) sc_Log_pass_on.nd rfl (by first | exact Or.inl rfl | exact Or.inr rfl)) (pgs_cons (pg_name (i := 3) sc_Log_pass_on.nd rfl (by first | exact Or.inl rfl | exact Or.inr rfl)) (pgs_nil)))) (tgTup_sim rfl [2, 3])
    (ds_one (ds_if (dt_inA rfl hu1 (de_v 2) (de_fld (g := ⟨K, ad⟩) T.cf_over (de_v 0)))
    (ds_cons (ds_delD (de_fld (g := ⟨K, ad⟩) T.cf_drafts (de_v 0)) (de_v 2))
    (ds_one (ds_if (dt_gt (de_len (de_cons (de_v 3) (de_nil)) (hK := rfl) (hm := T.n_len)) (de_int))
    (ds_one (ds_do (de_meth (g := ⟨K, ad⟩) (c := 6) (de_v 0) T.cl6 T.me11 (ok_Log_append_unit T) (hr.mono (by decide)) tk T.b11 (de_cons (de_v 2) (de_cons (de_v 3) (de_nil))))))
    (ds_nil))))
    (ds_one (ds_if (dt_eq rfl hu (de_fld (g := ⟨K, ad⟩) T.cf_when (de_fld (g := ⟨K, ad⟩) T.cf_book (de_v 0))) (de_str))
    (ds_one (ds_retN))
    (ds_nil)))))))
end
section
variable {P : Program} {w : World} {K : PySem.W.Frag} {mg : Str → Option Value} {base : Heap} {ad : Nat → Addr} {fd : Nat → FuncData}
def b_Log_end : SM :=
    sSeq (sIf (bOr (bVal (eBin dInA (eVar 1) (eUn (dFld [6] "lasts") (eVar 0)))) (bVal (eBin dGt (eArgs dLen (eCons (eBin dIxA (eUn (dFld [6] "drafts") (eVar 0)) (eVar 1)) (eNil))) (eC (.int 0)))))
    (sDo (eApp (eUn (dFld [6] "written") (eVar 0)) (eVar 1)))
    (sNil))
    (sDo (eMeth 6 "pass_on" 2 m_Log_pass_on (eVar 0) (eCons (eVar 1) (eNil))))
def m_Log_end : List D → MH → Res D := fnB 2 b_Log_end
theorem ok_Log_end (T : Txt P w K mg ad fd) : FnOk P w K mg base (L2N.CX P w) 9 (ad 16) (fd 16) ["self", "script"] (spD ⟨K, ad⟩ 2 m_Log_end) := by
  refine fn_ok2 T.F16 sc_Log_end fun cdv A outer s H E hr tk po => ?_
  have hu := hr.units
  have hu1 := hu_of hr
  exact ds_cons (ds_if (dt_w (dw_or (dt_inA rfl hu1 (de_v 1) (de_fld (g := ⟨K, ad⟩) T.cf_lasts (de_v 0))) (dw_or1 (dt_gt (de_len (de_cons (de_ixA rfl hu1 (de_fld (g := ⟨K, ad⟩) T.cf_drafts (de_v 0)) (de_v 1)) (de_nil)) (hK := rfl) (hm := T.n_len)) (de_int)))))
    (ds_one (ds_do (de_app (de_fld (g := ⟨K, ad⟩) T.cf_written (de_v 0)) (de_v 1))))
    (ds_nil))
    (ds_one (ds_do (de_meth (g := ⟨K, ad⟩) (c := 6) (de_v 0) T.cl6 T.me18 (ok_Log_pass_on T) (hr.mono (by decide)) tk T.b18 (de_cons (de_v 1) (de_nil)))))
end
section
variable {P : Program} {w : World} {K : PySem.W.Frag} {mg : Str → Option Value} {base : Heap} {ad : Nat → Addr} {fd : Nat → FuncData}
def b_Log_back : SM :=
    sSeq (sSetIx dSetD (eUn (dFld [6] "drafts") (eVar 0)) (eVar 1) (eLst (eNil)))
    (sDo (eMeth 6 "pass_on" 2 m_Log_pass_on (eVar 0) (eCons (eVar 1) (eNil))))
def m_Log_back : List D → MH → Res D := fnB 2 b_Log_back
theorem ok_Log_back (T : Txt P w K mg ad fd) : FnOk P w K mg base (L2N.CX P w) 9 (ad 17) (fd 17) ["self", "script"] (spD ⟨K, ad⟩ 2 m_Log_back) := by
  refine fn_ok2 T.F17 sc_Log_back fun cdv A outer s H E hr tk po => ?_
  have hu := hr.units
  have hu1 := hu_of hr
  exact ds_cons (ds_setD hu1 (de_fld (g := ⟨K, ad⟩) T.cf_drafts (de_v 0)) (de_v 1) (de_lst (de_nil)))
    (ds_one (ds_do (de_meth (g := ⟨K, ad⟩) (c := 6) (de_v 0) T.cl6 T.me18 (ok_Log_pass_on T) (hr.mono (by decide)) tk T.b18 (de_cons (de_v 1) (de_nil)))))
end
section
variable {P : Program} {w : World} {K : PySem.W.Frag} {mg : Str → Option Value} {base : Heap} {ad : Nat → Addr} {fd : Nat → FuncData}
def lp_law_run_calls_1 : SM :=
    sIf (bVal (eBin dEq (eBin dIxA (eVar 2) (eC (.int 0))) (eC (.str "begin"))))
    (sDo (eMeth 6 "begin" 2 m_Log_begin (eVar 0) (eCons (eBin dIxA (eVar 2) (eC (.int 1))) (eNil))))
    (sIf (bVal (eBin dEq (eBin dIxA (eVar 2) (eC (.int 0))) (eC (.str "wrote"))))
    (sDo (eMeth 6 "wrote" 4 m_Log_wrote (eVar 0) (eCons (eBin dIxA (eVar 2) (eC (.int 1))) (eCons (eBin dIxA (eVar 2) (eC (.int 2))) (eCons (eArgs dListF (eCons (eBin dIxA (eVar 2) (eC (.int 3))) (eNil))) (eNil))))))
    (sIf (bVal (eBin dEq (eBin dIxA (eVar 2) (eC (.int 0))) (eC (.str "undone"))))
    (sDo (eMeth 6 "undone" 3 m_Log_undone (eVar 0) (eCons (eBin dIxA (eVar 2) (eC (.int 1))) (eCons (eArgs dListF (eCons (eBin dIxA (eVar 2) (eC (.int 2))) (eNil))) (eNil)))))
    (sIf (bVal (eBin dEq (eBin dIxA (eVar 2) (eC (.int 0))) (eC (.str "end"))))
    (sDo (eMeth 6 "end" 2 m_Log_end (eVar 0) (eCons (eBin dIxA (eVar 2) (eC (.int 1))) (eNil))))
    (sDo (eMeth 6 "back" 2 m_Log_back (eVar 0) (eCons (eBin dIxA (eVar 2) (eC (.int 1))) (eNil)))))))
def b_law_run_calls : SM :=
    sForI (iSeq (eVar 1)) (tgName 2) lp_law_run_calls_1
def m_law_run_calls : List D → MH → Res D := fnB 3 b_law_run_calls
theorem ok_law_run_calls (T : Txt P w K mg ad fd) : FnOk P w K mg base (L2N.CX P w) 15 (ad 40) (fd 40) ["_law_log", "_law_calls"] (spD ⟨K, ad⟩ 2 m_law_run_calls) := by
  refine fn_ok2 T.F40 sc_law_run_calls fun cdv A outer s H E hr tk po => ?_
  have hu := hr.units
  have hu1 := hu_of hr
  exact ds_one (ds_for (fun _ => pin_nil) po rfl (pi_or (pi_list (de_v 1)) (pi_tup (de_v 1))) (itSim_seq rfl) (pg_name (i := 2) sc_law_run_calls.nd rfl (by first | exact Or.inl rfl | exact Or.inr rfl)) (tgName_sim 2)
    (ds_one (ds_if (dt_eq rfl hu (de_ixA rfl hu1 (de_v 2) (de_int)) (de_str))
    (ds_one (ds_do (de_meth (g := ⟨K, ad⟩) (c := 6) (de_v 0) T.cl6 T.me10 (ok_Log_begin T) (hr.mono (by decide)) tk T.b10 (de_cons (de_ixA rfl hu1 (de_v 2) (de_int)) (de_nil)))))
    (ds_one (ds_if (dt_eq rfl hu (de_ixA rfl hu1 (de_v 2) (de_int)) (de_str))
    (ds_one (ds_do (de_meth (g := ⟨K, ad⟩) (c := 6) (de_v 0) T.cl6 T.me14 (ok_Log_wrote T) (hr.mono (by decide)) tk T.b14 (de_cons (de_ixA rfl hu1 (de_v 2) (de_int)) (de_cons (de_ixA rfl hu1 (de_v 2) (de_int)) (de_cons (de_listF (de_cons (de_ixA rfl hu1 (de_v 2) (de_int)) (de_nil)) (hK := rfl) (hm := T.n_list)) (de_nil)))))))
    (ds_one (ds_if (dt_eq rfl hu (de_ixA rfl hu1 (de_v 2) (de_int)) (de_str))
    (ds_one (ds_do (de_meth (g := ⟨K, ad⟩) (c := 6) (de_v 0) T.cl6 T.me15 (ok_Log_undone T) (hr.mono (by decide)) tk T.b15 (de_cons (de_ixA rfl hu1 (de_v 2) (de_int)) (de_cons (de_listF (de_cons (de_ixA rfl hu1 (de_v 2) (de_int)) (de_nil)) (hK := rfl) (hm := T.n_list)) (de_nil))))))
    (ds_one (ds_if (dt_eq rfl hu (de_ixA rfl hu1 (de_v 2) (de_int)) (de_str))
    (ds_one (ds_do (de_meth (g := ⟨K, ad⟩) (c := 6) (de_v 0) T.cl6 T.me16 (ok_Log_end T) (hr.mono (by decide)) tk T.b16 (de_cons (de_ixA rfl hu1 (de_v 2) (de_int)) (de_nil)))))
    (ds_one (ds_do (de_meth (g := ⟨K, ad⟩) (c := 6) (de_v 0) T.cl6 T.me17 (ok_Log_back T) (hr.mono (by decide)) tk T.b17 (de_cons (de_ixA rfl hu1 (de_v 2) (de_int)) (de_nil))))))))))))))
end
section
variable {P : Program} {w : World} {K : PySem.W.Frag} {mg : Str → Option Value} {base : Heap} {ad : Nat → Addr} {fd : Nat → FuncData}
def lp_law_alike_1 (self : List D → MH → Res D) : SM :=
    sIf (bNot (bVal (eCall 2 self (eCons (eBin dIxA (eVar 0) (eVar 2)) (eCons (eBin dIxA (eVar 1) (eVar 2)) (eNil))))))
    (sRet (eC (.bl false)))
    (sNil)
def b_law_alike (self : List D → MH → Res D) : SM :=
    sSeq (sIf (bVal (eBin dIs (eVar 1) (eC .non)))
    (sRet (eBin dIs (eVar 0) (eC .non)))
    (sNil))
    (sSeq (sIf (bOr (bVal (eBin dIs (eVar 1) (eC (.bl true)))) (bVal (eBin dIs (eVar 1) (eC (.bl false)))))
    (sRet (eAnd (eArgs (dIsi isi) (eCons (eVar 0) (eCons (eC (.ty "bool")) (eNil)))) (eBin dEq (eVar 0) (eVar 1))))
    (sNil))
    (sSeq (sIf (bVal (eArgs (dIsi isi) (eCons (eVar 1) (eCons (eC (.ty "int")) (eNil)))))
    (sRet (eAnd (eArgs (dIsi isi) (eCons (eVar 0) (eCons (eC (.ty "int")) (eNil)))) (eAnd (eNot (eArgs (dIsi isi) (eCons (eVar 0) (eCons (eC (.ty "bool")) (eNil))))) (eBin dEq (eVar 0) (eVar 1)))))
    (sNil))
    (sSeq (sIf (bVal (eArgs (dIsi isi) (eCons (eVar 1) (eCons (eC (.ty "str")) (eNil)))))
    (sRet (eAnd (eArgs (dIsi isi) (eCons (eVar 0) (eCons (eC (.ty "str")) (eNil)))) (eBin dEq (eVar 0) (eVar 1))))
    (sNil))
    (sSeq (sIf (bVal (eArgs (dIsi isi) (eCons (eVar 1) (eCons (eC (.ty "tuple")) (eNil)))))
    (sIf (bOr (bNot (bVal (eArgs (dIsi isi) (eCons (eVar 0) (eCons (eC (.ty "tuple")) (eNil)))))) (bVal (eBin dNe (eArgs dLen (eCons (eVar 0) (eNil))) (eArgs dLen (eCons (eVar 1) (eNil))))))
    (sRet (eC (.bl false)))
    (sNil))
    (sIf (bOr (bNot (bVal (eArgs (dIsi isi) (eCons (eVar 0) (eCons (eC (.ty "list")) (eNil)))))) (bVal (eBin dNe (eArgs dLen (eCons (eVar 0) (eNil))) (eArgs dLen (eCons (eVar 1) (eNil))))))
    (sRet (eC (.bl false)))
    (sNil)))
    (sSeq (sForI (iRange1 (eArgs dLen (eCons (eVar 1) (eNil)))) (tgName 2) (lp_law_alike_1 self))
    (sRet (eC (.bl true))))))))
def m_law_alike : Nat → List D → MH → Res D
  | 0 => fun _ _ => .bad
  | n + 1 => fnB 3 (b_law_alike (m_law_alike n))
theorem ok_law_alike (T : Txt P w K mg ad fd) : ∀ n : Nat, FnOk P w K mg base (L2N.CX P w) (3 + n) (ad 32) (fd 32) ["_law_actual", "_law_due"] (spD ⟨K, ad⟩ 2 (m_law_alike n))
  | 0 => fn_bad _
  | n + 1 => by
    have ih := ok_law_alike T n
    refine fn_ok2 T.F32 sc_law_alike fun cdv A outer s H E hr tk po => ?_
    have hu := hr.units
    have hu1 := hu_of hr
    exact ds_cons (ds_if (dt_is (de_v 1) (de_non))
        (ds_one (ds_ret (de_is (de_v 0) (de_non))))
        (ds_nil))
        (ds_cons (ds_if (dt_w (dw_or (dt_is (de_v 1) (de_bl)) (dw_or1 (dt_is (de_v 1) (de_bl)))))
        (ds_one (ds_ret (de_and (de_isi T.isi rfl (de_cons (de_v 0) (de_cons (de_c (pe_bltn (v := .ty "bool") rfl T.n_bool (by decide +kernel) rfl) fun _ _ => .ty "bool") (de_nil))) T.n_isinstance) (de_one (de_eq rfl hu (de_v 0) (de_v 1))))))
        (ds_nil))
        (ds_cons (ds_if (dt_val (de_isi T.isi rfl (de_cons (de_v 1) (de_cons (de_c (pe_bltn (v := .ty "int") rfl T.n_int (by decide +kernel) rfl) fun _ _ => .ty "int") (de_nil))) T.n_isinstance))
        (ds_one (ds_ret (de_and (de_isi T.isi rfl (de_cons (de_v 0) (de_cons (de_c (pe_bltn (v := .ty "int") rfl T.n_int (by decide +kernel) rfl) fun _ _ => .ty "int") (de_nil))) T.n_isinstance) (de_and (de_not (de_isi T.isi rfl (de_cons (de_v 0) (de_cons (de_c (pe_bltn (v := .ty "bool") rfl T.n_bool (by decide +kernel) rfl) fun _ _ => .ty "bool") (de_nil))) T.n_isinstance)) (de_one (de_eq rfl hu (de_v 0) (de_v 1)))))))
        (ds_nil))
        (ds_cons (ds_if (dt_val (de_isi T.isi rfl (de_cons (de_v 1) (de_cons (de_c (pe_bltn (v := .ty "str") rfl T.n_str (by decide +kernel) rfl) fun _ _ => .ty "str") (de_nil))) T.n_isinstance))
        (ds_one (ds_ret (de_and (de_isi T.isi rfl (de_cons (de_v 0) (de_cons (de_c (pe_bltn (v := .ty "str") rfl T.n_str (by decide +kernel) rfl) fun _ _ => .ty "str") (de_nil))) T.n_isinstance) (de_one (de_eq rfl hu (de_v 0) (de_v 1))))))
        (ds_nil))
        (ds_cons (ds_if (dt_val (de_isi T.isi rfl (de_cons (de_v 1) (de_cons (de_c (pe_bltn (v := .ty "tuple") rfl T.n_tuple (by decide +kernel) rfl) fun _ _ => .ty "tuple") (de_nil))) T.n_isinstance))
        (ds_one (ds_if (dt_w (dw_or (dt_not (dt_val (de_isi T.isi rfl (de_cons (de_v 0) (de_cons (de_c (pe_bltn (v := .ty "tuple") rfl T.n_tuple (by decide +kernel) rfl) fun _ _ => .ty "tuple") (de_nil))) T.n_isinstance))) (dw_or1 (dt_ne rfl hu (de_len (de_cons (de_v 0) (de_nil)) (hK := rfl) (hm := T.n_len)) (de_len (de_cons (de_v 1) (de_nil)) (hK := rfl) (hm := T.n_len))))))
        (ds_one (ds_ret (de_bl)))
        (ds_nil)))
        (ds_one (ds_if (dt_w (dw_or (dt_not (dt_val (de_isi T.isi rfl (de_cons (de_v 0) (de_cons (de_c (pe_bltn (v := .ty "list") rfl T.n_list (by decide +kernel) rfl) fun _ _ => .ty "list") (de_nil))) T.n_isinstance))) (dw_or1 (dt_ne rfl hu (de_len (de_cons (de_v 0) (de_nil)) (hK := rfl) (hm := T.n_len)) (de_len (de_cons (de_v 1) (de_nil)) (hK := rfl) (hm := T.n_len))))))
        (ds_one (ds_ret (de_bl)))
        (ds_nil))))
        (ds_cons (ds_for (fun _ => pin_nil) po rfl (pi_range1 rfl T.n_range (de_cons (de_len (de_cons (de_v 1) (de_nil)) (hK := rfl) (hm := T.n_len)) de_nil)) (itSim_range1) (pg_name (i := 2) sc_law_alike.nd rfl (by first | exact Or.inl rfl | exact Or.inr rfl)) (tgName_sim 2)
        (ds_one (ds_if (dt_not (dt_val (de_call (ih) (hr.mono (by (try simp only [Nat.add_eq]); omega)) tk T.g32 T.F32.kp T.b32 (de_cons (de_ixA rfl hu1 (de_v 0) (de_v 2)) (de_cons (de_ixA rfl hu1 (de_v 1) (de_v 2)) (de_nil))))))
        (ds_one (ds_ret (de_bl)))
        (ds_nil))))
        (ds_one (ds_ret (de_bl))))))))
end
section
variable {P : Program} {w : World} {K : PySem.W.Frag} {mg : Str → Option Value} {base : Heap} {ad : Nat → Addr} {fd : Nat → FuncData}
def b_Log___len__ : SM :=
    sRet (eArgs dLen (eCons (eUn (dFld [6] "units") (eVar 0)) (eNil)))
def m_Log___len__ : List D → MH → Res D := fnB 1 b_Log___len__
theorem ok_Log___len__ (T : Txt P w K mg ad fd) : FnOk P w K mg base (L2N.CX P w) 3 (ad 8) (fd 8) ["self"] (spD ⟨K, ad⟩ 1 m_Log___len__) := by
  refine fn_ok2 T.F8 sc_Log___len__ fun cdv A outer s H E hr tk po => ?_
  have hu := hr.units
  have hu1 := hu_of hr
  exact ds_one (ds_ret (de_len (de_cons (de_fld (g := ⟨K, ad⟩) T.cf_units (de_v 0)) (de_nil)) (hK := rfl) (hm := T.n_len)))
end
section
variable {P : Program} {w : World} {K : PySem.W.Frag} {mg : Str → Option Value} {base : Heap} {ad : Nat → Addr} {fd : Nat → FuncData}
theorem ok_UnknownNumber___init__ (T : Txt P w K mg ad fd) : FnOk P w K mg base (L2N.CX P w) 3 (ad 3) (fd 3) ["self", "number"] (spX ⟨K, ad⟩ 2 1 ["number"] xv_UnknownNumber) := by
  exact initX_ok (g := ⟨K, ad⟩) (c := 2) (l := [("number", eVar 1)]) (acc := fun ds => [("number", dAt ds 0)]) T.O3 sc_UnknownNumber___init__ T.ox2 rfl rfl (fun _ _ _ _ => rfl) (fun _ _ _ _ => rfl) (fun _ _ _ _ _ _ _ => .cons (pe_var (i := 0) rfl (.inl rfl) (by decide) (by decide)) (de_v 1) T.ofl2_number rfl (.nil)) (fun a ds M hl => match ds, hl with | [_], _ => ⟨_, _, rfl, rfl, rfl⟩) (fun _ => rfl) (fun _ => rfl) (by decide) (by decide)
end
section
variable {P : Program} {w : World} {K : PySem.W.Frag} {mg : Str → Option Value} {base : Heap} {ad : Nat → Addr} {fd : Nat → FuncData}
def b_Log_unit : SM :=
    sSeq (sIf (bOr (bVal (eBin dLt (eVar 1) (eUn (dFld [6] "start") (eVar 0)))) (bVal (eBin dGe (eVar 1) (eArgs dLen (eCons (eUn (dFld [6] "units") (eVar 0)) (eNil))))))
    (sRaiseX 2 1 ["number"] xv_UnknownNumber (eCons (eVar 1) (eNil)))
    (sNil))
    (sRet (eBin dIxA (eUn (dFld [6] "units") (eVar 0)) (eVar 1)))
def m_Log_unit : List D → MH → Res D := fnB 2 b_Log_unit
theorem ok_Log_unit (T : Txt P w K mg ad fd) : FnOk P w K mg base (L2N.CX P w) 6 (ad 9) (fd 9) ["self", "at"] (spD ⟨K, ad⟩ 2 m_Log_unit) := by
  refine fn_ok2 T.F9 sc_Log_unit fun cdv A outer s H E hr tk po => ?_
  have hu := hr.units
  have hu1 := hu_of hr
  exact ds_cons (ds_if (dt_w (dw_or (dt_lt (de_v 1) (de_fld (g := ⟨K, ad⟩) T.cf_start (de_v 0))) (dw_or1 (dt_ge (de_v 1) (de_len (de_cons (de_fld (g := ⟨K, ad⟩) T.cf_units (de_v 0)) (de_nil)) (hK := rfl) (hm := T.n_len))))))
    (ds_one (ds_raiseX T.ox2 T.oi2 T.ot2 (ok_UnknownNumber___init__ T) (hr.mono (by decide)) tk T.b3 T.g2 (de_cons (de_v 1) (de_nil))))
    (ds_nil))
    (ds_one (ds_ret (de_ixA rfl hu1 (de_fld (g := ⟨K, ad⟩) T.cf_units (de_v 0)) (de_v 1))))
end
section
variable {P : Program} {w : World} {K : PySem.W.Frag} {mg : Str → Option Value} {base : Heap} {ad : Nat → Addr} {fd : Nat → FuncData}
def b_law_listed : SM :=
    sRet (eLc (iRange1 (eLenO 6 m_Log___len__ (eCons (eVar 0) (eNil)))) (tgName 1) (bYes) (eMeth 6 "unit" 2 m_Log_unit (eVar 0) (eCons (eVar 1) (eNil))) [1])
def m_law_listed : List D → MH → Res D := frzB (fnB 2 b_law_listed)
theorem ok_law_listed (T : Txt P w K mg ad fd) : FnOk P w K mg base (L2N.CX P w) 9 (ad 43) (fd 43) ["_law_log"] (spD ⟨K, ad⟩ 1 m_law_listed) := by
  refine fn_frz ?_
  refine fn_ok2 T.F43 sc_law_listed fun cdv A outer s H E hr tk po => ?_
  have hu := hr.units
  have hu1 := hu_of hr
  exact ds_one (ds_ret (de_lc (own := [("_law_at", 1)]) sc_law_listed.nd (pi_range1 rfl T.n_range (de_cons (de_lenO (g := ⟨K, ad⟩) (c := 6) T.om8 T.of8 (ok_Log___len__ T) (hr.mono (by decide)) tk T.b8 T.n_len (de_cons (de_v 0) (de_nil))) de_nil)) (itSim_range1) (blkOk_by (N := ["_law_log", "_law_at"]) (sc := defScope s_law_listed) (by decide +kernel)) (tgName_sim 1) (tgName_own 1 (by decide)) (fun _ _ _ _ _ => pg_name (i := 1) sc_law_listed.nd rfl (by first | exact Or.inl rfl | exact Or.inr rfl)) (fun _ _ _ _ _ => dts_nil) (fun _ _ _ _ _ => de_meth (g := ⟨K, ad⟩) (c := 6) (de_v 0) T.cl6 T.me9 (ok_Log_unit T) (hr.mono (by decide)) takesN0 T.b9 (de_cons (de_v 1) (de_nil)))))
end
section
variable {P : Program} {w : World} {K : PySem.W.Frag} {mg : Str → Option Value} {base : Heap} {ad : Nat → Addr} {fd : Nat → FuncData}
def lp_Log_script_count_1 : SM :=
    sSeq (sIf (bOr (bVal (eBin dNotInA (eVar 3) (eUn (dFld [6] "lasts") (eVar 0)))) (bVal (eBin dGt (eBin dIxA (eUn (dFld [6] "lasts") (eVar 0)) (eVar 3)) (eVar 1))))
    (sBk)
    (sNil))
    (sAug 2 (eC (.int 1)))
def b_Log_script_count : SM :=
    sSeq (sSet 2 (eC (.int 0)))
    (sSeq (sForI (iSeq (eUn (dFld [6] "written") (eVar 0))) (tgName 3) lp_Log_script_count_1)
    (sRet (eVar 2)))
def m_Log_script_count : List D → MH → Res D := fnB 4 b_Log_script_count
theorem ok_Log_script_count (T : Txt P w K mg ad fd) : FnOk P w K mg base (L2N.CX P w) 3 (ad 20) (fd 20) ["self", "applied"] (spD ⟨K, ad⟩ 2 m_Log_script_count) := by
  refine fn_ok2 T.F20 sc_Log_script_count fun cdv A outer s H E hr tk po => ?_
  have hu := hr.units
  have hu1 := hu_of hr
  exact ds_cons (ds_set (i := 2) sc_Log_script_count.nd (de_int))
    (ds_cons (ds_for (fun _ => pin_nil) po rfl (pi_or (pi_list (de_fld (g := ⟨K, ad⟩) T.cf_written (de_v 0))) (pi_tup (de_fld (g := ⟨K, ad⟩) T.cf_written (de_v 0)))) (itSim_seq rfl) (pg_name (i := 3) sc_Log_script_count.nd rfl (by first | exact Or.inl rfl | exact Or.inr rfl)) (tgName_sim 3)
    (ds_cons (ds_if (dt_w (dw_or (dt_notinA rfl hu1 (de_v 3) (de_fld (g := ⟨K, ad⟩) T.cf_lasts (de_v 0))) (dw_or1 (dt_gt (de_ixA rfl hu1 (de_fld (g := ⟨K, ad⟩) T.cf_lasts (de_v 0)) (de_v 3)) (de_v 1)))))
    (ds_one (ds_break))
    (ds_nil))
    (ds_one (ds_aug (i := 2) sc_Log_script_count.nd (de_int)))))
    (ds_one (ds_ret (de_v 2))))
end
section
variable {P : Program} {w : World} {K : PySem.W.Frag} {mg : Str → Option Value} {base : Heap} {ad : Nat → Addr} {fd : Nat → FuncData}
def lp_law_1 : SM :=
    sSeq (sDo (eCall 2 m_law_run_calls (eCons (eVar 5) (eCons (eSl mkF (eVar 4) (oSome (eVar 11)) (oSome (eBin dAdd (eVar 11) (eC (.int 1))))) (eNil)))))
    (sSeq (sDo (eCall 2 m_law_run_calls (eCons (eVar 6) (eCons (eSl mkF (eVar 4) (oSome (eVar 11)) (oSome (eBin dAdd (eVar 11) (eC (.int 1))))) (eNil)))))
    (sSeq (sSet 12 (eBin dIxA (eBin dIxA (eVar 4) (eVar 11)) (eC (.int 0))))
    (sSeq (sSet 13 (eBin dIxA (eBin dIxA (eVar 4) (eVar 11)) (eC (.int 1))))
    (sSeq (sIf (bVal (eBin dEq (eVar 12) (eC (.str "begin"))))
    (sDo (eApp (eVar 8) (eVar 13)))
    (sNil))
    (sSeq (sIf (bVal (eBin dEq (eVar 12) (eC (.str "wrote"))))
    (sDo (eApp (eVar 9) (eVar 13)))
    (sNil))
    (sSeq (sIf (bAnd (bVal (eBin dEq (eVar 12) (eC (.str "end")))) (bVal (eBin dInA (eVar 13) (eVar 9))))
    (sDo (eApp (eVar 10) (eVar 13)))
    (sNil))
    (sSeq (sIf (bOr (bVal (eBin dEq (eVar 12) (eC (.str "end")))) (bVal (eBin dEq (eVar 12) (eC (.str "back")))))
    (sDo (eRem (eVar 8) (eVar 13)))
    (sNil))
    (sSeq (sSet 14 (eLc (iSeq (eVar 10)) (tgName 15) (bOr (bVal (eBin dEq (eArgs dLen (eCons (eVar 8) (eNil))) (eC (.int 0)))) (bVal (eBin dLt (eVar 15) (eBin dIxA (eVar 8) (eC (.int 0)))))) (eVar 15) [15]))
    (sIf (bOr (bNot (bVal (eCall 2 (m_law_alike 8) (eCons (eLenO 6 m_Log___len__ (eCons (eVar 6) (eNil))) (eCons (eArgs dLen (eCons (eVar 10) (eNil))) (eNil)))))) (bNot (bVal (eCall 2 (m_law_alike 8) (eCons (eLenO 6 m_Log___len__ (eCons (eVar 5) (eNil))) (eCons (eArgs dLen (eCons (eVar 14) (eNil))) (eNil)))))))
    (sRet (eC (.bl false)))
    (sNil))))))))))
def lp_law_2 : SM :=
    sIf (bOr (bNot (bVal (eCall 2 (m_law_alike 8) (eCons (eMeth 6 "script_count" 2 m_Log_script_count (eVar 5) (eCons (eVar 11) (eNil))) (eCons (eVar 11) (eNil)))))) (bNot (bVal (eCall 2 (m_law_alike 8) (eCons (eMeth 6 "script_count" 2 m_Log_script_count (eVar 6) (eCons (eVar 11) (eNil))) (eCons (eVar 11) (eNil)))))))
    (sRet (eC (.bl false)))
    (sNil)
def b_law : SM :=
    sSeq (sSet 1 (eFz (eBin dIxA (eCall 2 m_law_names (eCons (eCall 1 m_law_box (eCons (eUn (fRev mkF) (eVar 0)) (eNil))) (eCons (eC (.int 1)) (eNil)))) (eC (.int 0)))))
    (sSeq (sSet 2 (eCall 1 m_law_box (eCons (eVar 0) (eNil))))
    (sSeq (sSet 3 (eCall 1 m_law_log_words (eCons (eVar 2) (eNil))))
    (sSeq (sSet 4 (eCall 3 m_law_in_turn (eCons (eVar 2) (eCons (eVar 1) (eCons (eBin dAdd (eC (.int 3)) (eCall 2 m_law_draw (eCons (eVar 2) (eCons (eC (.int 14)) (eNil))))) (eNil))))))
    (sSeq (sSet 5 (eMake 6 2 m_Log___init__ (eCons (eCall 1 m_law_log_book (eCons (eBin (dCat mkF) (eFro (eCons (eC (.str "begin")) (eNil))) (eSl mkF (eVar 3) (oSome (eC (.int 1))) (oNone))) (eNil))) (eNil))))
    (sSeq (sSet 6 (eMake 6 2 m_Log___init__ (eCons (eCall 1 m_law_log_book (eCons (eBin (dCat mkF) (eFro (eCons (eC (.str "end")) (eNil))) (eSl mkF (eVar 3) (oSome (eC (.int 1))) (oNone))) (eNil))) (eNil))))
    (sSeq (sSet 7 (eBin dIxA (eCall 4 m_law_units_due (eCons (eC (.str "end")) (eCons (eBin dIxA (eVar 3) (eC (.int 1))) (eCons (eBin dIxA (eVar 3) (eC (.int 2))) (eCons (eVar 4) (eNil)))))) (eC (.int 0))))
    (sSeq (sSet 8 (eLst (eNil)))
    (sSeq (sSet 9 (eLst (eNil)))
    (sSeq (sSet 10 (eLst (eNil)))
    (sSeq (sForI (iRange1 (eArgs dLen (eCons (eVar 4) (eNil)))) (tgName 11) lp_law_1)
    (sSeq (sIf (bOr (bVal (eBin dNe (eArgs dLen (eCons (eVar 7) (eNil))) (eArgs dLen (eCons (eVar 10) (eNil))))) (bOr (bNot (bVal (eCall 2 (m_law_alike 8) (eCons (eCall 1 m_law_listed (eCons (eVar 5) (eNil))) (eCons (eVar 7) (eNil)))))) (bNot (bVal (eCall 2 (m_law_alike 8) (eCons (eCall 1 m_law_listed (eCons (eVar 6) (eNil))) (eCons (eVar 7) (eNil))))))))
    (sRet (eC (.bl false)))
    (sNil))
    (sSeq (sForI (iRange1 (eBin dAdd (eArgs dLen (eCons (eVar 7) (eNil))) (eC (.int 1)))) (tgName 11) lp_law_2)
    (sRet (eC (.bl true)))))))))))))))
def m_law : List D → MH → Res D := fnB 16 b_law
theorem ok_law (T : Txt P w K mg ad fd) : FnOk P w K mg base (L2N.CX P w) 18 (ad 44) (fd 44) ["_law_script"] (spD ⟨K, ad⟩ 1 m_law) := by
  refine fn_ok2 T.F44 sc_law fun cdv A outer s H E hr tk po => ?_
  have hu := hr.units
  have hu1 := hu_of hr
  exact ds_cons (ds_set (i := 1) sc_law.nd (de_fz (de_ixA rfl hu1 (de_call (ok_law_names T) (hr.mono (by decide)) tk T.g30 T.F30.kp T.b30 (de_cons (de_call (ok_law_box T) (hr.mono (by decide)) tk T.g27 T.F27.kp T.b27 (de_cons (de_revL rfl mkF_ok (de_v 0)) (de_nil))) (de_cons (de_int) (de_nil)))) (de_int))))
    (ds_cons (ds_set (i := 2) sc_law.nd (de_call (ok_law_box T) (hr.mono (by decide)) tk T.g27 T.F27.kp T.b27 (de_cons (de_v 0) (de_nil))))
    (ds_cons (ds_set (i := 3) sc_law.nd (de_call (ok_law_log_words T) (hr.mono (by decide)) tk T.g33 T.F33.kp T.b33 (de_cons (de_v 2) (de_nil))))
    (ds_cons (ds_set (i := 4) sc_law.nd (de_call (ok_law_in_turn T) (hr.mono (by decide)) tk T.g42 T.F42.kp T.b42 (de_cons (de_v 2) (de_cons (de_v 1) (de_cons (de_add rfl (de_int) (de_call (ok_law_draw T) (hr.mono (by decide)) tk T.g28 T.F28.kp T.b28 (de_cons (de_v 2) (de_cons (de_int) (de_nil))))) (de_nil))))))
    (ds_cons (ds_set (i := 5) sc_law.nd (de_make (c := 6) T.mk6 (ok_Log___init__ T) (hr.mono (by decide)) tk T.g6 T.b7 (de_cons (de_call (ok_law_log_book T) (hr.mono (by decide)) tk T.g34 T.F34.kp T.b34 (de_cons (de_cat rfl mkF_ok (de_fro (de_cons (de_str) (de_nil))) (de_sl rfl mkF_ok (de_v 3) (do_some (de_int)) (do_none))) (de_nil))) (de_nil))))
    (ds_cons (ds_set (i := 6) sc_law.nd (de_make (c := 6) T.mk6 (ok_Log___init__ T) (hr.mono (by decide)) tk T.g6 T.b7 (de_cons (de_call (ok_law_log_book T) (hr.mono (by decide)) tk T.g34 T.F34.kp T.b34 (de_cons (de_cat rfl mkF_ok (de_fro (de_cons (de_str) (de_nil))) (de_sl rfl mkF_ok (de_v 3) (do_some (de_int)) (do_none))) (de_nil))) (de_nil))))
    (ds_cons (ds_set (i := 7) sc_law.nd (de_ixA rfl hu1 (de_call (ok_law_units_due T) (hr.mono (by decide)) tk T.g39 T.F39.kp T.b39 (de_cons (de_str) (de_cons (de_ixA rfl hu1 (de_v 3) (de_int)) (de_cons (de_ixA rfl hu1 (de_v 3) (de_int)) (de_cons (de_v 4) (de_nil)))))) (de_int)))
    (ds_cons (ds_set (i := 8) sc_law.nd (de_lst (de_nil)))
    (ds_cons (ds_set (i := 9) sc_law.nd (de_lst (de_nil)))
    (ds_cons (ds_set (i := 10) sc_law.nd (de_lst (de_nil)))
    (ds_cons (ds_for (fun _ => pin_nil) po rfl (pi_range1 rfl T.n_range (de_cons (de_len (de_cons (de_v 4) (de_nil)) (hK := rfl) (hm := T.n_len)) de_nil)) (itSim_range1) (pg_name (i := 11) sc_law.nd rfl (by first | exact Or.inl rfl | exact Or.inr rfl)) (tgName_sim 11)
    (ds_cons (ds_do (de_call (ok_law_run_calls T) (hr.mono (by decide)) tk T.g40 T.F40.kp T.b40 (de_cons (de_v 5) (de_cons (de_sl rfl mkF_ok (de_v 4) (do_some (de_v 11)) (do_some (de_add rfl (de_v 11) (de_int)))) (de_nil)))))
    (ds_cons (ds_do (de_call (ok_law_run_calls T) (hr.mono (by decide)) tk T.g40 T.F40.kp T.b40 (de_cons (de_v 6) (de_cons (de_sl rfl mkF_ok (de_v 4) (do_some (de_v 11)) (do_some (de_add rfl (de_v 11) (de_int)))) (de_nil)))))
    (ds_cons (ds_set (i := 12) sc_law.nd (de_ixA rfl hu1 (de_ixA rfl hu1 (de_v 4) (de_v 11)) (de_int)))
    (ds_cons (ds_set (i := 13) sc_law.nd (de_ixA rfl hu1 (de_ixA rfl hu1 (de_v 4) (de_v 11)) (de_int)))
    (ds_cons (ds_if (dt_eq rfl hu (de_v 12) (de_str))
    (ds_one (ds_do (de_app (de_v 8) (de_v 13))))
    (ds_nil))
    (ds_cons (ds_if (dt_eq rfl hu (de_v 12) (de_str))
    (ds_one (ds_do (de_app (de_v 9) (de_v 13))))
    (ds_nil))
    (ds_cons (ds_if (dt_w (dw_and (dt_eq rfl hu (de_v 12) (de_str)) (dw_and1 (dt_inA rfl hu1 (de_v 13) (de_v 9)))))
    (ds_one (ds_do (de_app (de_v 10) (de_v 13))))
    (ds_nil))
    (ds_cons (ds_if (dt_w (dw_or (dt_eq rfl hu (de_v 12) (de_str)) (dw_or1 (dt_eq rfl hu (de_v 12) (de_str)))))
    (ds_one (ds_do (de_rem (de_v 8) (de_v 13))))
    (ds_nil))
    (ds_cons (ds_setLc (i := 14) (hpin := by intro p h; exact absurd h (by simp)) (own := [("_law_one", 15)]) sc_law.nd (pi_or (pi_list (de_v 10)) (pi_tup (de_v 10))) (itSim_seq rfl) (blkOk_by (N := ["_law_script", "_law_table", "_law_box_here", "_law_free", "_law_calls", "_law_early", "_law_late", "_law_units", "_law_running", "_law_written_here", "_law_done", "_law_k", "_law_word", "_law_number", "_law_free_ones", "_law_one"]) (sc := defScope s_law) (by decide +kernel)) (tgName_sim 15) (tgName_own 15 (by decide)) (fun _ _ _ _ _ => pg_name (i := 15) sc_law.nd rfl (by first | exact Or.inl rfl | exact Or.inr rfl)) (fun _ _ _ _ _ => dts_one (dt_w (dw_or (dt_eq rfl hu (de_len (de_cons (de_v 8) (de_nil)) (hK := rfl) (hm := T.n_len)) (de_int)) (dw_or1 (dt_lt (de_v 15) (de_ixA rfl hu1 (de_v 8) (de_int))))))) (fun _ _ _ _ _ => de_v 15) (sw_true rfl rfl rfl (by decide +kernel)))
    (ds_one (ds_if (dt_w (dw_or (dt_not (dt_val (de_call (ok_law_alike T 8) (hr.mono (by decide)) tk T.g32 T.F32.kp T.b32 (de_cons (de_lenO (g := ⟨K, ad⟩) (c := 6) T.om8 T.of8 (ok_Log___len__ T) (hr.mono (by decide)) tk T.b8 T.n_len (de_cons (de_v 6) (de_nil))) (de_cons (de_len (de_cons (de_v 10) (de_nil)) (hK := rfl) (hm := T.n_len)) (de_nil)))))) (dw_or1 (dt_not (dt_val (de_call (ok_law_alike T 8) (hr.mono (by decide)) tk T.g32 T.F32.kp T.b32 (de_cons (de_lenO (g := ⟨K, ad⟩) (c := 6) T.om8 T.of8 (ok_Log___len__ T) (hr.mono (by decide)) tk T.b8 T.n_len (de_cons (de_v 5) (de_nil))) (de_cons (de_len (de_cons (de_v 14) (de_nil)) (hK := rfl) (hm := T.n_len)) (de_nil)))))))))
    (ds_one (ds_ret (de_bl)))
    (ds_nil)))))))))))))
    (ds_cons (ds_if (dt_w (dw_or (dt_ne rfl hu (de_len (de_cons (de_v 7) (de_nil)) (hK := rfl) (hm := T.n_len)) (de_len (de_cons (de_v 10) (de_nil)) (hK := rfl) (hm := T.n_len))) (dw_or (dt_not (dt_val (de_call (ok_law_alike T 8) (hr.mono (by decide)) tk T.g32 T.F32.kp T.b32 (de_cons (de_call (ok_law_listed T) (hr.mono (by decide)) tk T.g43 T.F43.kp T.b43 (de_cons (de_v 5) (de_nil))) (de_cons (de_v 7) (de_nil)))))) (dw_or1 (dt_not (dt_val (de_call (ok_law_alike T 8) (hr.mono (by decide)) tk T.g32 T.F32.kp T.b32 (de_cons (de_call (ok_law_listed T) (hr.mono (by decide)) tk T.g43 T.F43.kp T.b43 (de_cons (de_v 6) (de_nil))) (de_cons (de_v 7) (de_nil))))))))))
    (ds_one (ds_ret (de_bl)))
    (ds_nil))
    (ds_cons (ds_for (fun _ => pin_nil) po rfl (pi_range1 rfl T.n_range (de_cons (de_add rfl (de_len (de_cons (de_v 7) (de_nil)) (hK := rfl) (hm := T.n_len)) (de_int)) de_nil)) (itSim_range1) (pg_name (i := 11) sc_law.nd rfl (by first | exact Or.inl rfl | exact Or.inr rfl)) (tgName_sim 11)
    (ds_one (ds_if (dt_w (dw_or (dt_not (dt_val (de_call (ok_law_alike T 8) (hr.mono (by decide)) tk T.g32 T.F32.kp T.b32 (de_cons (de_meth (g := ⟨K, ad⟩) (c := 6) (de_v 5) T.cl6 T.me20 (ok_Log_script_count T) (hr.mono (by decide)) tk T.b20 (de_cons (de_v 11) (de_nil))) (de_cons (de_v 11) (de_nil)))))) (dw_or1 (dt_not (dt_val (de_call (ok_law_alike T 8) (hr.mono (by decide)) tk T.g32 T.F32.kp T.b32 (de_cons (de_meth (g := ⟨K, ad⟩) (c := 6) (de_v 6) T.cl6 T.me20 (ok_Log_script_count T) (hr.mono (by decide)) tk T.b20 (de_cons (de_v 11) (de_nil))) (de_cons (de_v 11) (de_nil)))))))))
    (ds_one (ds_ret (de_bl)))
    (ds_nil))))
    (ds_one (ds_ret (de_bl)))))))))))))))
end

end
end K80
namespace K80
open PySem L2 T2
/-! ### plain: scripts that have begun, in their order -/
structure Ch where
  im : D
  df : List (Str × Int)
def dfD (x : Str × Int) : D := .tup [.str x.1, .int x.2]
def Ch.d (c : Ch) : D := .tup [c.im, .fro (c.df.map dfD)]
inductive Cl where
  | beg (n : Int)
  | wr (n : Int) (st : D) (cs : List Ch)
  | un (n : Int) (cs : List Ch)
  | en (n : Int)
  | bk (n : Int)
def Cl.n : Cl → Int
  | .beg n => n
  | .wr n _ _ => n
  | .un n _ => n
  | .en n => n
  | .bk n => n
def Cl.w : Cl → Str
  | .beg _ => "begin"
  | .wr _ _ _ => "wrote"
  | .un _ _ => "undone"
  | .en _ => "end"
  | .bk _ => "back"
def Cl.d : Cl → D
  | .beg n => .tup [.str "begin", .int n]
  | .wr n st cs => .tup [.str "wrote", .int n, st, .fro (cs.map Ch.d)]
  | .un n cs => .tup [.str "undone", .int n, .fro (cs.map Ch.d)]
  | .en n => .tup [.str "end", .int n]
  | .bk n => .tup [.str "back", .int n]
def smD (x : Str × Int) : D := .tup [.str "summary", .str x.1, .int x.2]
def sums (kp : Str) (df : List (Str × Int)) : List D := if kp = "own" then [] else df.map smD
def porL (wh kp : Str) (st : D) (cs : List Ch) : List (List D) :=
  if wh = "image" ∨ cs = [] then cs.map fun c => c.im :: sums kp c.df else [.tup [.str "statement", st] :: (cs.map fun c => sums kp c.df).flatten]
structure Br where
  n : Int
  ps : List D
  ov : Bool
  w : Bool
def Br.u (b : Br) : D := .tup [.int b.n, .tup b.ps]
def Br.ne (b : Br) : Bool := !b.ps.isEmpty
def bWr (wh kp : Str) (n : Int) (st : D) (cs : List Ch) (b : Br) : Br := if b.n = n then { b with ps := b.ps ++ (porL wh kp st cs).flatten, w := true } else b
def bEn (n : Int) (b : Br) : Br := if b.n = n then { b with ov := true } else b
def bBk (n : Int) (b : Br) : Br := if b.n = n then { b with ov := true, ps := [] } else b
def next (wh kp : Str) (B : List Br) : Cl → List Br
  | .beg n => B ++ [⟨n, [], false, false⟩]
  | .wr n st cs => B.map (bWr wh kp n st cs)
  | .un _ _ => B
  | .en n => B.map (bEn n)
  | .bk n => B.map (bBk n)
def opn (B : List Br) : List Br := B.filter fun b => !b.ov
def dn (B : List Br) : List Br := B.filter fun b => b.ov && b.ne
def eD (B : List Br) : List Br := B.dropWhile fun b => b.ov
def eU (B : List Br) : List Br := (B.takeWhile fun b => b.ov).filter fun b => b.ne
/-- a call that may come -/
def May (B : List Br) : Cl → Prop
  | .beg n => ∀ b ∈ B, b.n < n
  | .wr n _ cs => (∃ b ∈ B, b.n = n ∧ b.ov = false) ∧ cs ≠ [] ∧ (∀ b ∈ B, b.n ≠ n → b.ov = false → b.ps = []) ∧ (∀ b ∈ B, n < b.n → b.ps = [])
  | .un n _ => ∃ b ∈ B, b.n = n ∧ b.ov = false
  | .en n => ∃ b ∈ B, b.n = n ∧ b.ov = false
  | .bk n => ∃ b ∈ B, b.n = n ∧ b.ov = false
structure Inv (B : List Br) : Prop where
  asc : (B.map Br.n).Pairwise (· < ·)
  one : ∀ b ∈ B, b.ov = false → b.ne = true → ∀ c ∈ B, b.n < c.n → c.ps = []
  w : ∀ b ∈ B, b.ov = false → (b.w = true ↔ b.ne = true)
theorem inv_nil : Inv [] := ⟨by simp, by simp, by simp⟩
theorem por_ne {wh kp : Str} {st : D} {cs : List Ch} (h : cs ≠ []) : (porL wh kp st cs).flatten ≠ [] := by
  unfold porL
  split
  · cases cs with
    | nil => exact absurd rfl h
    | cons c cs => simp
  · simp
theorem bWr_n {wh kp : Str} {n : Int} {st : D} {cs : List Ch} {b : Br} : (bWr wh kp n st cs b).n = b.n := by unfold bWr; split <;> rfl
theorem bEn_n {n : Int} {b : Br} : (bEn n b).n = b.n := by unfold bEn; split <;> rfl
theorem bBk_n {n : Int} {b : Br} : (bBk n b).n = b.n := by unfold bBk; split <;> rfl
theorem map_n {f : Br → Br} (h : ∀ b, (f b).n = b.n) (B : List Br) : (B.map f).map Br.n = B.map Br.n := by
  rw [List.map_map]
  exact List.map_congr_left fun b _ => h b
theorem Inv.next {wh kp : Str} {B : List Br} (I : Inv B) {c : Cl} (m : May B c) : Inv (next wh kp B c) := by
  cases c with
  | beg n =>
    have m : ∀ b ∈ B, b.n < n := m
    refine ⟨?_, fun b hb ho hp c hc hl => ?_, fun b hb ho => ?_⟩
    · show ((B ++ [_]).map Br.n).Pairwise (· < ·)
      rw [List.map_append, List.pairwise_append]
      refine ⟨I.asc, by simp, fun x hx y hy => ?_⟩
      obtain ⟨b, hb, rfl⟩ := List.mem_map.mp hx
      have : y = n := by simpa using hy
      rw [this]; exact m b hb
    · rcases List.mem_append.mp hb with hb | hb
      · rcases List.mem_append.mp hc with hc | hc
        · exact I.one b hb ho hp c hc hl
        · obtain rfl := List.mem_singleton.mp hc; rfl
      · obtain rfl := List.mem_singleton.mp hb
        exact absurd hp (by simp [Br.ne])
    · rcases List.mem_append.mp hb with hb | hb
      · exact I.w b hb ho
      · obtain rfl := List.mem_singleton.mp hb
        simp [Br.ne]
  | wr n st cs =>
    obtain ⟨_, hc0, h1, h2⟩ : (∃ b ∈ B, b.n = n ∧ b.ov = false) ∧ cs ≠ [] ∧ (∀ b ∈ B, b.n ≠ n → b.ov = false → b.ps = []) ∧ (∀ b ∈ B, n < b.n → b.ps = []) := m
    refine ⟨?_, fun b hb ho hp c hc hl => ?_, fun b hb ho => ?_⟩
    · show ((B.map _).map Br.n).Pairwise (· < ·)
      rw [map_n fun b => bWr_n]; exact I.asc
    · obtain ⟨b0, hb0, rfl⟩ := List.mem_map.mp hb
      obtain ⟨c0, hc0', rfl⟩ := List.mem_map.mp hc
      rw [bWr_n, bWr_n] at hl
      by_cases e : b0.n = n
      · have ne : c0.n ≠ n := by rw [← e]; exact fun z => by rw [z] at hl; exact Int.lt_irrefl _ hl
        unfold bWr
        rw [if_neg ne]
        exact h2 c0 hc0' (by rw [← e]; exact hl)
      · unfold bWr at ho hp
        rw [if_neg e] at ho hp
        exact absurd (h1 b0 hb0 e ho) (by intro z; rw [Br.ne, z] at hp; exact absurd hp (by simp))
    · obtain ⟨b0, hb0, rfl⟩ := List.mem_map.mp hb
      by_cases e : b0.n = n
      · have hf := por_ne (wh := wh) (kp := kp) (st := st) hc0
        unfold bWr Br.ne
        rw [if_pos e]
        simp [hf]
      · unfold bWr at ho ⊢
        rw [if_neg e] at ho ⊢
        exact I.w b0 hb0 ho
  | un n cs => exact I
  | en n =>
    refine ⟨?_, fun b hb ho hp c hc hl => ?_, fun b hb ho => ?_⟩
    · show ((B.map _).map Br.n).Pairwise (· < ·)
      rw [map_n fun b => bEn_n]; exact I.asc
    · obtain ⟨b0, hb0, rfl⟩ := List.mem_map.mp hb
      obtain ⟨c0, hc0', rfl⟩ := List.mem_map.mp hc
      rw [bEn_n, bEn_n] at hl
      have hcp : (bEn n c0).ps = c0.ps := by unfold bEn; split <;> rfl
      rw [hcp]
      by_cases e : b0.n = n
      · unfold bEn at ho; rw [if_pos e] at ho; cases ho
      · unfold bEn at ho hp
        rw [if_neg e] at ho hp
        exact I.one b0 hb0 ho hp c0 hc0' hl
    · obtain ⟨b0, hb0, rfl⟩ := List.mem_map.mp hb
      by_cases e : b0.n = n
      · unfold bEn at ho; rw [if_pos e] at ho; cases ho
      · unfold bEn at ho ⊢
        rw [if_neg e] at ho ⊢
        exact I.w b0 hb0 ho
  | bk n =>
    refine ⟨?_, fun b hb ho hp c hc hl => ?_, fun b hb ho => ?_⟩
    · show ((B.map _).map Br.n).Pairwise (· < ·)
      rw [map_n fun b => bBk_n]; exact I.asc
    · obtain ⟨b0, hb0, rfl⟩ := List.mem_map.mp hb
      obtain ⟨c0, hc0', rfl⟩ := List.mem_map.mp hc
      rw [bBk_n, bBk_n] at hl
      by_cases e : b0.n = n
      · unfold bBk at ho; rw [if_pos e] at ho; cases ho
      · unfold bBk at ho hp
        rw [if_neg e] at ho hp
        have := I.one b0 hb0 ho hp c0 hc0' hl
        unfold bBk
        split
        · rfl
        · exact this
    · obtain ⟨b0, hb0, rfl⟩ := List.mem_map.mp hb
      by_cases e : b0.n = n
      · unfold bBk at ho; rw [if_pos e] at ho; cases ho
      · unfold bBk at ho ⊢
        rw [if_neg e] at ho ⊢
        exact I.w b0 hb0 ho
/-! numbers are their own -/
theorem Inv.nd {B : List Br} (I : Inv B) : (B.map Br.n).Nodup := I.asc.imp fun h z => by rw [z] at h; exact Int.lt_irrefl _ h
theorem Inv.same {B : List Br} (I : Inv B) {b c : Br} (hb : b ∈ B) (hc : c ∈ B) (h : b.n = c.n) : b = c := by
  have : ∀ {B : List Br}, (B.map Br.n).Nodup → b ∈ B → c ∈ B → b = c := by
    intro B
    induction B with
    | nil => intro _ h; cases h
    | cons x B ih =>
      intro nd hb hc
      rw [List.map_cons, List.nodup_cons] at nd
      rcases List.mem_cons.mp hb with e1 | hb1
      · rcases List.mem_cons.mp hc with e2 | hc1
        · rw [e1, e2]
        · exact absurd (List.mem_map.mpr ⟨c, hc1, by rw [← h, e1]⟩) nd.1
      · rcases List.mem_cons.mp hc with e2 | hc1
        · exact absurd (List.mem_map.mpr ⟨b, hb1, by rw [h, e2]⟩) nd.1
        · exact ih nd.2 hb1 hc1
  exact this I.nd hb hc
/-! what is done, in the order of the ends, stands in the order of the begins -/
theorem dn_en {B : List Br} (I : Inv B) {b : Br} (hb : b ∈ B) (ho : b.ov = false) : dn (B.map (bEn b.n)) = if b.ne = true then dn B ++ [{ b with ov := true }] else dn B := by
  have key : ∀ {B : List Br}, (B.map Br.n).Nodup → b ∈ B → (b.ne = true → ∀ c ∈ B, b.n < c.n → c.ps = []) → (B.map Br.n).Pairwise (· < ·) → dn (B.map (bEn b.n)) = if b.ne = true then dn B ++ [{ b with ov := true }] else dn B := by
    intro B
    induction B with
    | nil => intro _ h; cases h
    | cons x B ih =>
      intro nd hb h1 ha
      rw [List.map_cons, List.nodup_cons] at nd
      rw [List.map_cons, List.pairwise_cons] at ha
      unfold dn at ih ⊢
      rw [List.map_cons, List.filter_cons, List.filter_cons]
      rcases List.mem_cons.mp hb with rfl | hb
      · have e1 : bEn b.n b = { b with ov := true } := by unfold bEn; rw [if_pos rfl]
        have e2 : B.map (bEn b.n) = B := by
          refine (List.map_congr_left fun c hc => ?_).trans (List.map_id' B)
          unfold bEn
          rw [if_neg]
          intro z
          exact nd.1 (List.mem_map.mpr ⟨c, hc, z⟩)
        rw [e1, e2]
        by_cases hn : b.ne = true
        · have e3 : B.filter (fun c => c.ov && c.ne) = [] := by
            rw [List.filter_eq_nil_iff]
            intro c hc
            have := h1 hn c (List.mem_cons_of_mem _ hc) (ha.1 c.n (List.mem_map.mpr ⟨c, hc, rfl⟩))
            simp [Br.ne, this]
          rw [if_pos hn, e3, ho]
          have : ({ b with ov := true } : Br).ne = true := hn
          simp [this]
        · rw [if_neg hn, ho]
          have : ({ b with ov := true } : Br).ne = false := by show b.ne = false; simpa using hn
          simp [this]
      · have hx : x.n ≠ b.n := fun z => nd.1 (List.mem_map.mpr ⟨b, hb, z.symm⟩)
        have e1 : bEn b.n x = x := by unfold bEn; rw [if_neg hx]
        rw [e1, ih nd.2 hb (fun hn c hc => h1 hn c (List.mem_cons_of_mem _ hc)) ha.2]
        by_cases hn : b.ne = true
        · rw [if_pos hn, if_pos hn]
          split <;> simp
        · rw [if_neg hn, if_neg hn]
  exact key I.nd hb (I.one b hb ho) I.asc
theorem opn_mem {B : List Br} {b : Br} : b ∈ opn B ↔ b ∈ B ∧ b.ov = false := by
  unfold opn
  rw [List.mem_filter]
  simp
theorem dn_mem {B : List Br} {b : Br} : b ∈ dn B ↔ b ∈ B ∧ b.ov = true ∧ b.ne = true := by
  unfold dn
  rw [List.mem_filter]
  simp
theorem map_off {f : Br → Br} {B : List Br} (h : ∀ b ∈ B, f b = b) : B.map f = B := (List.map_congr_left h).trans (List.map_id' B)
theorem dn_bk {B : List Br} (I : Inv B) {b : Br} (hb : b ∈ B) (ho : b.ov = false) : dn (B.map (bBk b.n)) = dn B := by
  have : ∀ {B : List Br}, (∀ c ∈ B, c.n = b.n → c.ov = false) → dn (B.map (bBk b.n)) = dn B := by
    intro B
    induction B with
    | nil => intro _; rfl
    | cons x B ih =>
      intro h
      unfold dn at ih ⊢
      rw [List.map_cons, List.filter_cons, List.filter_cons, ih fun c hc => h c (List.mem_cons_of_mem _ hc)]
      by_cases e : x.n = b.n
      · have := h x List.mem_cons_self e
        unfold bBk
        rw [if_pos e, this]
        simp [Br.ne]
      · unfold bBk
        rw [if_neg e]
  exact this fun c hc e => by rw [I.same hc hb e]; exact ho
theorem opn_end {B : List Br} {n : Int} {f : Br → Br} (hf : ∀ b, f b = if b.n = n then (f b) else b) (ho : ∀ b, b.n = n → (f b).ov = true) : opn (B.map f) = (opn B).filter fun b => decide (b.n ≠ n) := by
  unfold opn
  induction B with
  | nil => rfl
  | cons x B ih =>
    rw [List.map_cons, List.filter_cons, List.filter_cons, ih]
    by_cases e : x.n = n
    · rw [ho x e]
      by_cases h : x.ov = true
      · simp [h]
      · have h : x.ov = false := by simpa using h
        simp [h, e]
    · rw [hf x, if_neg e]
      by_cases h : x.ov = true
      · simp [h]
      · have h : x.ov = false := by simpa using h
        simp [h, e]
theorem bEn_if (n : Int) (b : Br) : bEn n b = if b.n = n then bEn n b else b := by unfold bEn; split <;> rfl
theorem bBk_if (n : Int) (b : Br) : bBk n b = if b.n = n then bBk n b else b := by unfold bBk; split <;> rfl
theorem bWr_if (wh kp : Str) (n : Int) (st : D) (cs : List Ch) (b : Br) : bWr wh kp n st cs b = if b.n = n then bWr wh kp n st cs b else b := by unfold bWr; split <;> rfl
/-! the units of the log that waits for begins: those ahead of the first open script -/
theorem eU_dn {B : List Br} (I : Inv B) : (eU B).map Br.n = ((dn B).map Br.n).filter fun k => decide (opn B = [] ∨ ∃ b ∈ (opn B).head?, k < b.n) := by
  have : ∀ {B : List Br}, (B.map Br.n).Pairwise (· < ·) → (eU B).map Br.n = ((dn B).map Br.n).filter fun k => decide (opn B = [] ∨ ∃ b ∈ (opn B).head?, k < b.n) := by
    intro B
    induction B with
    | nil => intro _; rfl
    | cons x B ih =>
      intro ha
      rw [List.map_cons, List.pairwise_cons] at ha
      unfold eU dn opn at ih ⊢
      rw [List.takeWhile_cons, List.filter_cons (x := x), List.filter_cons (x := x)]
      cases hx : x.ov with
      | true =>
        simp only [if_true, Bool.not_true, Bool.false_eq_true, if_false, Bool.true_and]
        rw [List.filter_cons]
        cases hn : x.ne with
        | true =>
          simp only [if_true, List.map_cons]
          rw [List.filter_cons, if_pos, ih ha.2]
          rw [decide_eq_true_eq]
          cases hB : B.filter (fun b => !b.ov) with
          | nil => exact .inl rfl
          | cons y ys =>
            refine .inr ⟨y, by simp, ha.1 y.n (List.mem_map.mpr ⟨y, ?_, rfl⟩)⟩
            have : y ∈ B.filter (fun b => !b.ov) := by rw [hB]; exact List.mem_cons_self
            exact (List.mem_filter.mp this).1
        | false =>
          simp only [Bool.false_eq_true, if_false]
          exact ih ha.2
      | false =>
        simp only [Bool.false_eq_true, if_false, Bool.false_and, Bool.not_false, if_true, List.filter_nil, List.map_nil, List.head?_cons]
        symm
        rw [List.filter_eq_nil_iff]
        intro k hk
        obtain ⟨c, hc, rfl⟩ := List.mem_map.mp hk
        have := ha.1 c.n (List.mem_map.mpr ⟨c, (List.mem_filter.mp hc).1, rfl⟩)
        rw [decide_eq_true_eq]
        rintro (h | ⟨b, hb, h⟩)
        · cases h
        · simp at hb
          subst hb
          exact absurd this (by omega)
  exact this I.asc
theorem all_over {B : List Br} (h : opn B = []) : eU B = dn B ∧ eD B = [] := by
  have hh : ∀ b ∈ B, b.ov = true := fun b hb => by
    by_cases e : b.ov = true
    · exact e
    · have : b ∈ opn B := opn_mem.mpr ⟨hb, by simpa using e⟩
      rw [h] at this; cases this
  have e1 : ∀ {B : List Br}, (∀ b ∈ B, b.ov = true) → B.takeWhile (fun b => b.ov) = B ∧ B.dropWhile (fun b => b.ov) = [] := by
    intro B
    induction B with
    | nil => intro _; exact ⟨rfl, rfl⟩
    | cons x B ih =>
      intro h
      obtain ⟨i1, i2⟩ := ih fun b hb => h b (List.mem_cons_of_mem _ hb)
      rw [List.takeWhile_cons, List.dropWhile_cons, h x List.mem_cons_self, if_pos rfl, if_pos rfl, i1, i2]
      exact ⟨rfl, rfl⟩
  obtain ⟨i1, i2⟩ := e1 hh
  refine ⟨?_, i2⟩
  unfold eU dn
  rw [i1]
  exact List.filter_congr fun b hb => by rw [hh b hb, Bool.true_and]
end K80
namespace K80
open PySem L2 T2
/-! ### the log's object and its book -/
abbrev bkN : List Str := ["when", "what", "kept", "confirm", "cut"]
def bkO (wn wh kp cf ct : Str) : D := .ins 22 bkN [.str wn, .str wh, .str kp, .str cf, .str ct]
structure Lp where
  a : Nat
  u : Nat
  d : Nat
  o : Nat
  w : Nat
  l : Nat
abbrev lgN : List Str := ["book", "start", "units", "drafts", "over", "written", "lasts"]
def lgV (bk : D) (q : Lp) : List D := [bk, .int 0, .ref q.u, .ref q.d, .ref q.o, .ref q.w, .ref q.l]
def lgO (bk : D) (q : Lp) : MO := .ob 6 lgN (lgV bk q)
section
variable {M : MH} {bk : D} {q : Lp}
theorem ins_lg (h : M[q.a]? = some (lgO bk q)) : instOf M (.ref q.a) = some (6, lgN, lgV bk q) := by
  unfold instOf
  dsimp only
  rw [h]
  rfl
theorem fld_lg {f : Str} {v : D} (h : M[q.a]? = some (lgO bk q)) (hf : fieldOf f lgN (lgV bk q) = some v) : dFld [6] f (.ref q.a) M = .ok v M := by
  unfold dFld
  rw [ins_lg h]
  dsimp only
  rw [if_pos (by simp), hf]
theorem f_bk (h : M[q.a]? = some (lgO bk q)) : dFld [6] "book" (.ref q.a) M = .ok bk M := fld_lg h rfl
theorem f_us (h : M[q.a]? = some (lgO bk q)) : dFld [6] "units" (.ref q.a) M = .ok (.ref q.u) M := fld_lg h rfl
theorem f_dr (h : M[q.a]? = some (lgO bk q)) : dFld [6] "drafts" (.ref q.a) M = .ok (.ref q.d) M := fld_lg h rfl
theorem f_ov (h : M[q.a]? = some (lgO bk q)) : dFld [6] "over" (.ref q.a) M = .ok (.ref q.o) M := fld_lg h rfl
theorem f_wr (h : M[q.a]? = some (lgO bk q)) : dFld [6] "written" (.ref q.a) M = .ok (.ref q.w) M := fld_lg h rfl
theorem f_ls (h : M[q.a]? = some (lgO bk q)) : dFld [6] "lasts" (.ref q.a) M = .ok (.ref q.l) M := fld_lg h rfl
theorem f_st (h : M[q.a]? = some (lgO bk q)) : dFld [6] "start" (.ref q.a) M = .ok (.int 0) M := fld_lg h rfl
variable {wn wh kp cf ct : Str}
theorem b_wn : dFld [22] "when" (bkO wn wh kp cf ct) M = .ok (.str wn) M := rfl
theorem b_wh : dFld [22] "what" (bkO wn wh kp cf ct) M = .ok (.str wh) M := rfl
theorem b_kp : dFld [22] "kept" (bkO wn wh kp cf ct) M = .ok (.str kp) M := rfl
end
/-- the parts are plain data -/
structure ChOk (c : Ch) : Prop where
  im : Pd 4 c.im
  df : ∀ x ∈ c.df, PyData.strOk x.1 = true
  l : c.df.length ≤ 2
theorem pd_sm {k : Nat} {x : Str × Int} (h : PyData.strOk x.1 = true) : Pd (k + 2) (smD x) := pd_tup (by simp) fun a ha => by
  simp only [List.mem_cons, List.not_mem_nil, or_false] at ha
  rcases ha with rfl | rfl | rfl
  · exact pd_str (by decide +kernel)
  · exact pd_str h
  · exact pd_int
theorem sums_pd {kp : Str} {c : Ch} (h : ChOk c) : ∀ a ∈ sums kp c.df, Pd 4 a := fun a ha => by
  unfold sums at ha
  split at ha
  · cases ha
  · obtain ⟨x, hx, rfl⟩ := List.mem_map.mp ha
    exact pd_sm (h.df x hx)
theorem sums_len {kp : Str} {c : Ch} (h : ChOk c) : (sums kp c.df).length ≤ 2 := by
  unfold sums
  split
  · simp
  · rw [List.length_map]; exact h.l
theorem flat_len {α β : Type} {f : α → List β} {k : Nat} : ∀ {l : List α}, (∀ x ∈ l, (f x).length ≤ k) → (l.map f).flatten.length ≤ k * l.length
  | [], _ => by simp
  | x :: l, h => by
    have h1 := h x List.mem_cons_self
    have h2 := flat_len (f := f) (l := l) fun y hy => h y (List.mem_cons_of_mem _ hy)
    rw [List.map_cons, List.flatten_cons, List.length_append, List.length_cons, Nat.mul_add, Nat.mul_one]
    omega
theorem por_pd {wh kp : Str} {st : D} {cs : List Ch} (hs : Pd 4 st) (h : ∀ c ∈ cs, ChOk c) : ∀ l ∈ porL wh kp st cs, ∀ a ∈ l, Pd 5 a := fun l hl a ha => by
  unfold porL at hl
  split at hl
  · obtain ⟨c, hc, rfl⟩ := List.mem_map.mp hl
    rcases List.mem_cons.mp ha with rfl | ha
    · exact ((h c hc).im).mono (by decide)
    · exact (sums_pd (h c hc) a ha).mono (by decide)
  · obtain rfl := List.mem_singleton.mp hl
    rcases List.mem_cons.mp ha with rfl | ha
    · exact pd_2 (pd_str (by decide +kernel)) hs
    · obtain ⟨l2, hl2, ha⟩ := List.mem_flatten.mp ha
      obtain ⟨c, hc, rfl⟩ := List.mem_map.mp hl2
      exact (sums_pd (h c hc) a ha).mono (by decide)
theorem por_len {wh kp : Str} {st : D} {cs : List Ch} (h : ∀ c ∈ cs, ChOk c) (hl : cs.length ≤ 6) : (porL wh kp st cs).length ≤ 6 ∧ (∀ l ∈ porL wh kp st cs, l.length ≤ 13) ∧ (porL wh kp st cs).flatten.length ≤ 18 := by
  unfold porL
  split
  · refine ⟨by rw [List.length_map]; omega, fun l hl => ?_, ?_⟩
    · obtain ⟨c, hc, rfl⟩ := List.mem_map.mp hl
      have := sums_len (kp := kp) (h c hc)
      rw [List.length_cons]; omega
    · have := flat_len (f := fun c : Ch => c.im :: sums kp c.df) (k := 3) (l := cs) fun c hc => by
        have := sums_len (kp := kp) (h c hc)
        rw [List.length_cons]; omega
      omega
  · have := flat_len (f := fun c : Ch => sums kp c.df) (k := 2) (l := cs) fun c hc => sums_len (h c hc)
    refine ⟨by simp, fun l hl => ?_, ?_⟩
    · obtain rfl := List.mem_singleton.mp hl
      rw [List.length_cons]; omega
    · rw [List.flatten_cons, List.length_append, List.length_cons, List.flatten_nil, List.length_nil]; omega
section
variable {M : MH} {q : Lp} {wn wh kp cf ct : Str}
theorem own_ok : PyData.strOk ("own" : Str) = true := by decide +kernel
theorem img_ok : PyData.strOk ("image" : Str) = true := by decide +kernel
theorem sums_run {df : List (Str × Int)} (h : M[q.a]? = some (lgO (bkO wn wh kp cf ct) q)) (hk : PyData.strOk kp = true) (hd : ∀ x ∈ df, PyData.strOk x.1 = true) (hl : df.length ≤ 100) : m_Log_summary_parts [.ref q.a, .fro (df.map dfD)] M = .ok (.fro (sums kp df)) M := by
  have e1 := f_bk h
  have e2 := b_kp (M := M) (wn := wn) (wh := wh) (kp := kp) (cf := cf) (ct := ct)
  have e3 := eqS hk own_ok (M := M)
  unfold sums
  by_cases hw : kp = "own"
  · rw [if_pos hw]
    rw [decide_eq_true hw] at e3
    refine frzP_fro (k := 4) (G := []) (xs := []) ?_ (by simp)
    rw [List.append_nil]
    unfold b_Log_summary_parts
    rw [y_fn]
    simp only [y_seq, y_seq_nx, y_seq_rt, y_seq_ex, y_seq_bk, y_seq_ct, y_if, y_if_t, y_if_f, y_if_x, y_set, y_set_ok, y_set_x, y_ret, y_ret_ok, y_ret_x, y_retN, y_do, y_do_ok, y_do_x, y_nil, y_raise0, y_raise_ok, y_toR_rt, y_toR_nx, y_toR_ex, y_fn, y_c, y_var, y_var_ok, y_un, y_un_ok, y_un_x, y_bin, y_bin_ok, y_bin_x, y_anil, y_cons, y_cons1, y_cons1x, y_cons2, y_cons2x, y_args, y_args_ok, y_args_x, y_tup, y_tup_ok, y_fro, y_fro_ok, y_lst, y_lst_ok, y_call, y_stat, y_call_ok, y_callk, y_callk1, y_callk2, y_mkF, y_mkF_ok, y_own1, y_own1_ok, y_prop, y_own2, y_val, y_val_ok, y_val_x, y_and, y_and_t, y_and_f, y_or, y_or_t, y_or_f, y_not, y_not_ok, y_yes, y_eand_t, y_eand_f, y_eor_t, y_eor_f, y_enot_ok, y_eif, y_eif_t, y_eif_f, y_for_v, y_iseq, y_iseq_t, y_iseq_f, y_iseq_r, y_rng, y_env0, y_try, y_try_nx, y_try_rt, y_try0, y_try0_nx, y_try0_rt, y_fv0, y_fv_nx, y_fv_ct, y_fv_rt, y_lc_v, y_step, y_step_ok, y_istr, y_istr_ok, y_eApp, y_eSl, y_ePopAt, y_eIns, y_eChain, y_eMake, y_eMeth, y_eMakeRK, y_eMakeK, y_eMakeD, y_eStar, y_eXFld, y_eXIsF, y_sPutF, y_sSetIx, y_sIncF, y_sUnp, y_sUnpL, y_sDelD, y_oNone, y_oSome, y_iRange2, y_iZip2, y_eDNew, y_eLenO, y_eOwnIn, y_eDGet1, y_eDGet2, y_eDPop2, y_sForItems, y_eCallRK, y_eCallR, y_eLenSet, y_bind_ok, y_bind_x, y_toS_ok, y_toS_x, y_eRem, y_eExt, y_sAug, z_raise, z_own2_ok, z_eand, z_eor, z_enot, z_rng_ok, z_for_l, o_add, o_sub, o_lt, o_le, o_gt, o_ge, o_neg, o_eqi, o_nei, o_is0, o_is1, o_is2, o_is3, o_is4, o_is5, o_is6, o_is7, o_nt0, o_nt1, o_nt2, o_nt3, o_nt4, o_nt5, o_nt6, o_ix0, o_ix1, o_ix2, o_ix3, o_ix4, o_ix5, o_fx0, o_fx1, o_fx2, o_fx3, o_fx4, o_lenT, o_lenF, o_asB, o_tupF, o_tupT, o_listF, o_listFT, o_listL, o_listLT, o_tg1, o_tg2, o_wipe1, o_wipe2, o_yes, o_slT, o_slF, o_putF, o_li, o_liF, o_lenR, o_tupR, o_lstFR, o_lstLR, o_try_x, o_try0_x, o_unb_rt, o_unb_nx, o_rev, o_mkF, o_mkL, o_itF, o_itT, z_env0, fcal1, fcal2, fcal3, fcal4, List.map_cons, List.map_nil, List.replicate, List.append_nil, Nat.reduceSub, List.cons_append, List.nil_append, List.length_cons, List.length_nil, Nat.reduceAdd, Nat.reduceLeDiff, List.getElem?_cons_zero, List.getElem?_cons_succ, List.set_cons_zero, List.set_cons_succ, Bool.not_true, Bool.not_false, decide_true, decide_false, ite_true, ite_false, reduceCtorEq, eq_self, and_self, true_and, and_true, false_and, and_false, Nat.reduceLT, Nat.reduceEqDiff, Nat.zero_add, Int.reduceLT, Int.ofNat_zero, Int.reduceGT, e1, e2, e3]
  · rw [if_neg hw]
    rw [decide_eq_false hw] at e3
    have lc := lc_each (mo := eVar 1) (tg := tgTup [2, 3]) (m := eTup (eCons (eC (.str "summary")) (eCons (eVar 2) (eCons (eVar 3) (eNil))))) (vs := [2, 3]) (e := [some (.ref q.a), some (.fro (df.map dfD)), none, none]) (M0 := M) (M := M) (l := .fro (df.map dfD)) (f := dfD) (g := smD) (xs := df) rfl rfl (fun x hx acc => by
      rw [u_step]
      rfl) (by omega)
    refine frzP_new (k := 4) (G := [.lst (df.map smD)]) (p := M.length) ?_ (Nat.le_refl _) (by simp) ?_
    · unfold b_Log_summary_parts
      rw [y_fn]
      simp only [y_seq, y_seq_nx, y_seq_rt, y_seq_ex, y_seq_bk, y_seq_ct, y_if, y_if_t, y_if_f, y_if_x, y_set, y_set_ok, y_set_x, y_ret, y_ret_ok, y_ret_x, y_retN, y_do, y_do_ok, y_do_x, y_nil, y_raise0, y_raise_ok, y_toR_rt, y_toR_nx, y_toR_ex, y_fn, y_c, y_var, y_var_ok, y_un, y_un_ok, y_un_x, y_bin, y_bin_ok, y_bin_x, y_anil, y_cons, y_cons1, y_cons1x, y_cons2, y_cons2x, y_args, y_args_ok, y_args_x, y_tup, y_tup_ok, y_fro, y_fro_ok, y_lst, y_lst_ok, y_call, y_stat, y_call_ok, y_callk, y_callk1, y_callk2, y_mkF, y_mkF_ok, y_own1, y_own1_ok, y_prop, y_own2, y_val, y_val_ok, y_val_x, y_and, y_and_t, y_and_f, y_or, y_or_t, y_or_f, y_not, y_not_ok, y_yes, y_eand_t, y_eand_f, y_eor_t, y_eor_f, y_enot_ok, y_eif, y_eif_t, y_eif_f, y_for_v, y_iseq, y_iseq_t, y_iseq_f, y_iseq_r, y_rng, y_env0, y_try, y_try_nx, y_try_rt, y_try0, y_try0_nx, y_try0_rt, y_fv0, y_fv_nx, y_fv_ct, y_fv_rt, y_lc_v, y_step, y_step_ok, y_istr, y_istr_ok, y_eApp, y_eSl, y_ePopAt, y_eIns, y_eChain, y_eMake, y_eMeth, y_eMakeRK, y_eMakeK, y_eMakeD, y_eStar, y_eXFld, y_eXIsF, y_sPutF, y_sSetIx, y_sIncF, y_sUnp, y_sUnpL, y_sDelD, y_oNone, y_oSome, y_iRange2, y_iZip2, y_eDNew, y_eLenO, y_eOwnIn, y_eDGet1, y_eDGet2, y_eDPop2, y_sForItems, y_eCallRK, y_eCallR, y_eLenSet, y_bind_ok, y_bind_x, y_toS_ok, y_toS_x, y_eRem, y_eExt, y_sAug, z_raise, z_own2_ok, z_eand, z_eor, z_enot, z_rng_ok, z_for_l, o_add, o_sub, o_lt, o_le, o_gt, o_ge, o_neg, o_eqi, o_nei, o_is0, o_is1, o_is2, o_is3, o_is4, o_is5, o_is6, o_is7, o_nt0, o_nt1, o_nt2, o_nt3, o_nt4, o_nt5, o_nt6, o_ix0, o_ix1, o_ix2, o_ix3, o_ix4, o_ix5, o_fx0, o_fx1, o_fx2, o_fx3, o_fx4, o_lenT, o_lenF, o_asB, o_tupF, o_tupT, o_listF, o_listFT, o_listL, o_listLT, o_tg1, o_tg2, o_wipe1, o_wipe2, o_yes, o_slT, o_slF, o_putF, o_li, o_liF, o_lenR, o_tupR, o_lstFR, o_lstLR, o_try_x, o_try0_x, o_unb_rt, o_unb_nx, o_rev, o_mkF, o_mkL, o_itF, o_itT, z_env0, fcal1, fcal2, fcal3, fcal4, List.map_cons, List.map_nil, List.replicate, List.append_nil, Nat.reduceSub, List.cons_append, List.nil_append, List.length_cons, List.length_nil, Nat.reduceAdd, Nat.reduceLeDiff, List.getElem?_cons_zero, List.getElem?_cons_succ, List.set_cons_zero, List.set_cons_succ, Bool.not_true, Bool.not_false, decide_true, decide_false, ite_true, ite_false, reduceCtorEq, eq_self, and_self, true_and, and_true, false_and, and_false, Nat.reduceLT, Nat.reduceEqDiff, Nat.zero_add, Int.reduceLT, Int.ofNat_zero, Int.reduceGT, e1, e2, e3, Bool.false_eq_true, lc]
    · intro a ha
      obtain ⟨x, hx, rfl⟩ := List.mem_map.mp ha
      exact pd_sm (hd x hx)
end
end K80
-- T19a
namespace K80
open PySem L2 T2
/-! ### portions -/
theorem ch_low {c : Ch} (h : ChOk c) : D.low 0 c.d := low_tup fun a ha => by
  simp only [List.mem_cons, List.not_mem_nil, or_false] at ha
  rcases ha with rfl | rfl
  · exact low_pd h.im
  · exact low_fro fun a ha => by
      obtain ⟨x, hx, rfl⟩ := List.mem_map.mp ha
      exact low_tup fun a ha => by
        simp only [List.mem_cons, List.not_mem_nil, or_false] at ha
        rcases ha with rfl | rfl <;> exact trivial
section
variable {M : MH} {q : Lp} {wn wh kp cf ct : Str} {st : D} {cs : List Ch}
theorem sum_meth (h : M[q.a]? = some (lgO (bkO wn wh kp cf ct) q)) (hk : PyData.strOk kp = true) {c : Ch} (hc : ChOk c) {e : Env2} {ma : AM} (h0 : e[0]? = some (some (.ref q.a))) (hm : ma e M = .ok [.fro (c.df.map dfD)] M) :
    eMeth 6 "summary_parts" 2 m_Log_summary_parts (eVar 0) ma e M = .ok (.fro (sums kp c.df)) M :=
  St.meth (var_ok h0) (ins_lg h) (by decide +kernel) hm rfl (sums_run h hk hc.df (by have := hc.l; omega))
theorem por_loop (h : M[q.a]? = some (lgO (bkO wn wh kp cf ct) q)) (hk : PyData.strOk kp = true) {x3 x4 x5 : Option D} : ∀ (ds : List Ch) (acc : List D) (x7 : Option D), (∀ c ∈ ds, ChOk c) → acc.length + 2 * ds.length ≤ 500 →
    ∃ y7, forV (tgName 7) lp_Log_portions_1 (ds.map Ch.d) [some (.ref q.a), some st, some (.fro (cs.map Ch.d)), x3, x4, x5, some (.fro acc), x7] M = .nx [some (.ref q.a), some st, some (.fro (cs.map Ch.d)), x3, x4, x5, some (.fro (acc ++ (ds.map fun c => sums kp c.df).flatten)), y7] M
  | [], acc, x7, _, _ => ⟨x7, by rw [List.map_nil, z_fv0, List.map_nil, List.flatten_nil, List.append_nil]⟩
  | c :: ds, acc, x7, hd, hl => by
    have hc := hd c List.mem_cons_self
    have sl := sums_len (kp := kp) hc
    rw [List.length_cons] at hl
    obtain ⟨y7, ih⟩ := por_loop h hk (x3 := x3) (x4 := x4) (x5 := x5) ds (acc ++ sums kp c.df) (some c.d) (fun d hd' => hd d (List.mem_cons_of_mem _ hd')) (by rw [List.length_append]; omega)
    refine ⟨y7, ?_⟩
    rw [List.map_cons, z_fv]
    have b : lp_Log_portions_1 ([some (.ref q.a), some st, some (.fro (cs.map Ch.d)), x3, x4, x5, some (.fro acc), x7].set 7 (some c.d)) M = .nx [some (.ref q.a), some st, some (.fro (cs.map Ch.d)), x3, x4, x5, some (.fro (acc ++ sums kp c.df)), some c.d] M := by
      have ix : dIxA c.d (.int 1) M = .ok (.fro (c.df.map dfD)) M := ixT1
      exact St.set (St.bin (f := dCat mkF) rfl (sum_meth h hk hc rfl (St.cons (St.bin (f := dIxA) rfl rfl ix) St.nil)) (cat_F rfl rfl (by omega)))
    rw [b, z_fv_nx, ih, List.map_cons, List.flatten_cons, List.append_assoc]
theorem por_run (h : M[q.a]? = some (lgO (bkO wn wh kp cf ct) q)) (hk : PyData.strOk kp = true) (hw : PyData.strOk wh = true) (hs : Pd 4 st) (hd : ∀ c ∈ cs, ChOk c) (hl : cs.length ≤ 6) : m_Log_portions [.ref q.a, st, .fro (cs.map Ch.d)] M = .ok (.fro ((porL wh kp st cs).map D.fro)) M := by
  have pp := por_pd (wh := wh) (kp := kp) hs hd
  have plow : ∀ a ∈ (porL wh kp st cs).map D.fro, D.low 0 a := fun a ha => by
    obtain ⟨l, hl, rfl⟩ := List.mem_map.mp ha
    exact low_fro fun b hb => low_pd (pp l hl b hb)
  have e1 := f_bk h
  have e2 := b_wh (M := M) (wn := wn) (wh := wh) (kp := kp) (cf := cf) (ct := ct)
  let N : MH := M ++ [.lst (cs.map fun c => .fro (c.im :: sums kp c.df))]
  have hN : N[q.a]? = some (lgO (bkO wn wh kp cf ct) q) := at_app h
  have lc := lc_each (mo := eVar 2) (tg := tgTup [4, 5]) (m := eFro (eCons (eVar 4) (eStar (eMeth 6 "summary_parts" 2 m_Log_summary_parts (eVar 0) (eCons (eVar 5) (eNil))) (eNil)))) (vs := [4, 5]) (e := [some (.ref q.a), some st, some (.fro (cs.map Ch.d)), none, none, none, none, none]) (M0 := M) (M := M) (l := .fro (cs.map Ch.d)) (f := Ch.d) (g := fun c => .fro (c.im :: sums kp c.df)) (xs := cs) rfl rfl (fun c hc acc => by
    rw [u_step]
    have m1 := sum_meth (M := M ++ [.lst acc]) (at_app h) hk (hd c hc) (e := [some (.ref q.a), some st, some (.fro (cs.map Ch.d)), none, some c.im, some (.fro (c.df.map dfD)), none, none]) (ma := eCons (eVar 5) (eNil)) rfl rfl
    have sl := sums_len (kp := kp) (hd c hc)
    have m2 : eFro (eCons (eVar 4) (eStar (eMeth 6 "summary_parts" 2 m_Log_summary_parts (eVar 0) (eCons (eVar 5) (eNil))) (eNil))) [some (.ref q.a), some st, some (.fro (cs.map Ch.d)), none, some c.im, some (.fro (c.df.map dfD)), none, none] (M ++ [.lst acc]) = .ok (.fro (c.im :: sums kp c.df)) (M ++ [.lst acc]) := by
      refine St.fro (St.cons rfl ?_) (by rw [List.length_cons]; omega)
      rw [y_eStar, m1, y_bind_ok, o_itF]
      simp only [y_seq, y_seq_nx, y_seq_rt, y_seq_ex, y_seq_bk, y_seq_ct, y_if, y_if_t, y_if_f, y_if_x, y_set, y_set_ok, y_set_x, y_ret, y_ret_ok, y_ret_x, y_retN, y_do, y_do_ok, y_do_x, y_nil, y_raise0, y_raise_ok, y_toR_rt, y_toR_nx, y_toR_ex, y_fn, y_c, y_var, y_var_ok, y_un, y_un_ok, y_un_x, y_bin, y_bin_ok, y_bin_x, y_anil, y_cons, y_cons1, y_cons1x, y_cons2, y_cons2x, y_args, y_args_ok, y_args_x, y_tup, y_tup_ok, y_fro, y_fro_ok, y_lst, y_lst_ok, y_call, y_stat, y_call_ok, y_callk, y_callk1, y_callk2, y_mkF, y_mkF_ok, y_own1, y_own1_ok, y_prop, y_own2, y_val, y_val_ok, y_val_x, y_and, y_and_t, y_and_f, y_or, y_or_t, y_or_f, y_not, y_not_ok, y_yes, y_eand_t, y_eand_f, y_eor_t, y_eor_f, y_enot_ok, y_eif, y_eif_t, y_eif_f, y_for_v, y_iseq, y_iseq_t, y_iseq_f, y_iseq_r, y_rng, y_env0, y_try, y_try_nx, y_try_rt, y_try0, y_try0_nx, y_try0_rt, y_fv0, y_fv_nx, y_fv_ct, y_fv_rt, y_lc_v, y_step, y_step_ok, y_istr, y_istr_ok, y_eApp, y_eSl, y_ePopAt, y_eIns, y_eChain, y_eMake, y_eMeth, y_eMakeRK, y_eMakeK, y_eMakeD, y_eStar, y_eXFld, y_eXIsF, y_sPutF, y_sSetIx, y_sIncF, y_sUnp, y_sUnpL, y_sDelD, y_oNone, y_oSome, y_iRange2, y_iZip2, y_eDNew, y_eLenO, y_eOwnIn, y_eDGet1, y_eDGet2, y_eDPop2, y_sForItems, y_eCallRK, y_eCallR, y_eLenSet, y_bind_ok, y_bind_x, y_toS_ok, y_toS_x, y_eRem, y_eExt, y_sAug, z_raise, z_own2_ok, z_eand, z_eor, z_enot, z_rng_ok, z_for_l, o_add, o_sub, o_lt, o_le, o_gt, o_ge, o_neg, o_eqi, o_nei, o_is0, o_is1, o_is2, o_is3, o_is4, o_is5, o_is6, o_is7, o_nt0, o_nt1, o_nt2, o_nt3, o_nt4, o_nt5, o_nt6, o_ix0, o_ix1, o_ix2, o_ix3, o_ix4, o_ix5, o_fx0, o_fx1, o_fx2, o_fx3, o_fx4, o_lenT, o_lenF, o_asB, o_tupF, o_tupT, o_listF, o_listFT, o_listL, o_listLT, o_tg1, o_tg2, o_wipe1, o_wipe2, o_yes, o_slT, o_slF, o_putF, o_li, o_liF, o_lenR, o_tupR, o_lstFR, o_lstLR, o_try_x, o_try0_x, o_unb_rt, o_unb_nx, o_rev, o_mkF, o_mkL, o_itF, o_itT, z_env0, fcal1, fcal2, fcal3, fcal4, List.map_cons, List.map_nil, List.replicate, List.append_nil, Nat.reduceSub, List.cons_append, List.nil_append, List.length_cons, List.length_nil, Nat.reduceAdd, Nat.reduceLeDiff, List.getElem?_cons_zero, List.getElem?_cons_succ, List.set_cons_zero, List.set_cons_succ, Bool.not_true, Bool.not_false, decide_true, decide_false, ite_true, ite_false, reduceCtorEq, eq_self, and_self, true_and, and_true, false_and, and_false, Nat.reduceLT, Nat.reduceEqDiff, Nat.zero_add, Int.reduceLT, Int.ofNat_zero, Int.reduceGT]
    show (noX (bYes _ _)).bind _ = _
    rw [o_yes, u_nox, y_bind_ok, if_pos rfl]
    have : eFro (eCons (eVar 4) (eStar (eMeth 6 "summary_parts" 2 m_Log_summary_parts (eVar 0) (eCons (eVar 5) (eNil))) (eNil))) _ (M ++ [.lst acc]) = _ := m2
    exact (congrArg (fun r => (noX r).bind fun y M2 => Res.ok (some y) M2) m2).trans rfl) (by omega)
  have s3 := St.set (i := 3) lc
  have hcond : bOr (bVal (eBin dEq (eUn (dFld [22] "what") (eUn (dFld [6] "book") (eVar 0))) (eC (.str "image")))) (bVal (eBin dEq (eArgs dLen (eCons (eVar 2) (eNil))) (eC (.int 0)))) [some (.ref q.a), some st, some (.fro (cs.map Ch.d)), some (.ref M.length), none, none, none, none] N = .ok (decide (wh = "image") || decide (cs = [])) N := by
    refine St.bor (St.val (St.bin (f := dEq) (St.un (St.un rfl (f_bk hN)) b_wh) rfl (eqS hw img_ok))) (St.val (St.bin (f := dEq) (St.args (St.cons rfl St.nil) o_lenF) rfl ?_))
    rw [o_eqi]
    congr 2
    rw [List.length_map]
    cases cs with
    | nil => rfl
    | cons c cs => rw [decide_eq_false (by rw [List.length_cons]; omega), decide_eq_false (by simp)]
  by_cases hc : wh = "image" ∨ cs = []
  · have hb : (decide (wh = "image") || decide (cs = [])) = true := by simpa using hc
    rw [hb] at hcond
    refine frzP_lst (G := [.lst (cs.map fun c => .fro (c.im :: sums kp c.df))]) (p := M.length) ?_ (Nat.le_refl _) (by unfold porL; rw [if_pos hc, List.map_map]; simp) plow
    exact St.fn (St.seq s3 (seq_rt' (St.ifT hcond (St.ret rfl))))
  · have hb : (decide (wh = "image") || decide (cs = [])) = false := by simpa using hc
    rw [hb] at hcond
    obtain ⟨y7, lp⟩ := por_loop (st := st) (cs := cs) hN hk (x3 := some (.ref M.length)) (x4 := none) (x5 := none) cs [.tup [.str "statement", st]] none hd (by simp; omega)
    refine frzP_low (G := [.lst (cs.map fun c => .fro (c.im :: sums kp c.df))]) (d := .fro ((porL wh kp st cs).map D.fro)) ?_ (low_fro plow)
    refine St.fn (St.seq s3 (St.seq (St.ifF hcond y_nil) (St.seq (St.set (St.fro (St.cons (St.tup (St.cons rfl (St.cons rfl St.nil))) St.nil))) (St.seq (for_nx (M0 := N) (ds := cs.map Ch.d) rfl lp) (St.ret ?_)))))
    unfold porL
    rw [if_neg hc]
    exact St.fro (St.cons rfl St.nil)
/-! ### as the law says -/
theorem lpor_loop1 (hk : PyData.strOk kp = true) {x0 x2 x10 : Option D} {p : Nat} : ∀ (ds : List Ch) (acc : List D) (T : MH) (x5 x6 x7 : Option D), (∀ c ∈ ds, ChOk c) → acc.length + ds.length ≤ 500 → T[p]? = some (.lst acc) →
    ∃ y5 y6 y7 T', forV (tgTup [5, 6]) lp_law_portions_1 (ds.map Ch.d) [x0, some (.str kp), x2, some (.fro (cs.map Ch.d)), some (.ref p), x5, x6, x7, none, none, x10] T = .nx [x0, some (.str kp), x2, some (.fro (cs.map Ch.d)), some (.ref p), y5, y6, y7, none, none, x10] T' ∧ T'[p]? = some (.lst (acc ++ ds.map fun c => .fro (c.im :: (if kp = "logged" then c.df.map smD else [])))) ∧ Fr [p] T T'
  | [], acc, T, x5, x6, x7, _, _, hT => ⟨x5, x6, x7, T, by rw [List.map_nil, z_fv0], by rw [List.map_nil, List.append_nil]; exact hT, Fr.refl⟩
  | c :: ds, acc, T, x5, x6, x7, hd, hl, hT => by
    have hc := hd c List.mem_cons_self
    rw [List.length_cons] at hl
    have e3 := eqS hk (show PyData.strOk ("logged" : Str) = true by decide +kernel) (M := T)
    have key : ∃ T1, lp_law_portions_1 [x0, some (.str kp), x2, some (.fro (cs.map Ch.d)), some (.ref p), some c.im, some (.fro (c.df.map dfD)), x7, none, none, x10] T = .nx [x0, some (.str kp), x2, some (.fro (cs.map Ch.d)), some (.ref p), some c.im, some (.fro (c.df.map dfD)), some (.fro (c.im :: (if kp = "logged" then c.df.map smD else []))), none, none, x10] T1 ∧ T1[p]? = some (.lst (acc ++ [.fro (c.im :: (if kp = "logged" then c.df.map smD else []))])) ∧ Fr [p] T T1 := by
      have s1 : sSet 7 (eFro (eCons (eVar 5) (eNil))) [x0, some (.str kp), x2, some (.fro (cs.map Ch.d)), some (.ref p), some c.im, some (.fro (c.df.map dfD)), x7, none, none, x10] T = .nx [x0, some (.str kp), x2, some (.fro (cs.map Ch.d)), some (.ref p), some c.im, some (.fro (c.df.map dfD)), some (.fro [c.im]), none, none, x10] T := St.set (St.fro (St.cons rfl St.nil))
      by_cases hw : kp = "logged"
      · rw [decide_eq_true hw] at e3
        rw [if_pos hw]
        have lc := lc_each (mo := eVar 6) (tg := tgTup [8, 9]) (m := eTup (eCons (eC (.str "summary")) (eCons (eVar 8) (eCons (eVar 9) (eNil))))) (vs := [8, 9]) (e := [x0, some (.str kp), x2, some (.fro (cs.map Ch.d)), some (.ref p), some c.im, some (.fro (c.df.map dfD)), some (.fro [c.im]), none, none, x10]) (M0 := T) (M := T) (l := .fro (c.df.map dfD)) (f := dfD) (g := smD) (xs := c.df) rfl rfl (fun x hx acc => by
          rw [u_step]
          rfl) (by have := hc.l; omega)
        let T0 : MH := T ++ [.lst (c.df.map smD)]
        have hT0 : T0[p]? = some (.lst acc) := at_app hT
        have hcat : dCat mkF (.fro [c.im]) (.ref T.length) T0 = .ok (.fro ([c.im] ++ c.df.map smD)) T0 := cat_F rfl (by rw [o_li]; simp [T0]) (by have := hc.l; simp; omega)
        refine ⟨T0.set p (.lst (acc ++ [.fro (c.im :: c.df.map smD)])), ?_, at_set hT0, Fr.trans Fr.app (Fr.set (by simp))⟩
        refine St.seq s1 (St.seq (St.ifT (St.val (St.bin (f := dEq) rfl rfl e3)) (St.set (St.bin (f := dCat mkF) rfl lc hcat))) ?_)
        exact St.sdo (St.app rfl ⟨_, hT0⟩ rfl hT0 (by omega))
      · rw [decide_eq_false hw] at e3
        rw [if_neg hw]
        refine ⟨T.set p (.lst (acc ++ [.fro [c.im]])), ?_, at_set hT, Fr.set (by simp)⟩
        refine St.seq s1 (St.seq (St.ifF (St.val (St.bin (f := dEq) rfl rfl e3)) y_nil) ?_)
        exact St.sdo (St.app rfl ⟨_, hT⟩ rfl hT (by omega))
    obtain ⟨T1, hb, h1, f1⟩ := key
    obtain ⟨y5, y6, y7, T', ih, h2, f2⟩ := lpor_loop1 hk (x0 := x0) (x2 := x2) (x10 := x10) ds (acc ++ [.fro (c.im :: (if kp = "logged" then c.df.map smD else []))]) T1 (some c.im) (some (.fro (c.df.map dfD))) (some (.fro (c.im :: (if kp = "logged" then c.df.map smD else [])))) (fun d hd' => hd d (List.mem_cons_of_mem _ hd')) (by simp; omega) h1
    refine ⟨y5, y6, y7, T', ?_, by rw [h2, List.map_cons, List.append_assoc]; rfl, f1.trans f2⟩
    rw [List.map_cons]
    exact St.fvN (tg := tgTup [5, 6]) rfl hb ih
theorem lpor_run {s : Bx} {T : MH} (hs : BxOk s) (hkp : kp = "own" ∨ kp = "logged") (hw : PyData.strOk wh = true) (hst : Pd 4 st) (hd : ∀ c ∈ cs, ChOk c) (hl : cs.length ≤ 6) : m_law_portions [.str wh, .str kp, st, .fro (cs.map Ch.d)] (s.obj :: T) = .ok (.fro ((porL wh kp st cs).map D.fro)) (s.obj :: T) := by
  have hk : PyData.strOk kp = true := by rcases hkp with rfl | rfl <;> decide +kernel
  have pp := por_pd (wh := wh) (kp := kp) hst hd
  have plow : ∀ a ∈ (porL wh kp st cs).map D.fro, D.low 0 a := fun a ha => by
    obtain ⟨l, hl, rfl⟩ := List.mem_map.mp ha
    exact low_fro fun b hb => low_pd (pp l hl b hb)
  have hsum : ∀ c : Ch, (if kp = "logged" then c.df.map smD else []) = sums kp c.df := fun c => by
    unfold sums
    rcases hkp with rfl | rfl
    · rw [if_neg (by decide), if_pos rfl]
    · rw [if_pos rfl, if_neg (by decide)]
  let M : MH := s.obj :: T
  let N : MH := M ++ [.lst []]
  have hN : N[M.length]? = some (.lst []) := by simp [N]
  obtain ⟨y5, y6, y7, N', lp1, h1, f1⟩ := lpor_loop1 (cs := cs) hk (x0 := some (.str wh)) (x2 := some st) (x10 := none) (p := M.length) cs [] N none none none hd (by simp; omega) hN
  rw [List.nil_append] at h1
  have h1' : N'[M.length]? = some (.lst (cs.map fun c => .fro (c.im :: sums kp c.df))) := by rw [h1]; congr 2; exact List.map_congr_left fun c _ => by rw [hsum]
  have f2 : Fr [] M N' := ((Fr.app (S := [M.length]) (M := M) (G := [.lst []])).trans f1).new (by simp)
  obtain ⟨G, hG⟩ := f2.ext
  have hG' : N' = s.obj :: (T ++ G) := hG
  have hcond : bOr (bVal (eBin dEq (eVar 0) (eC (.str "image")))) (bVal (eBin dEq (eArgs dLen (eCons (eVar 3) (eNil))) (eC (.int 0)))) [some (.str wh), some (.str kp), some st, some (.fro (cs.map Ch.d)), some (.ref M.length), y5, y6, y7, none, none, none] N' = .ok (decide (wh = "image") || decide (cs = [])) N' := by
    refine St.bor (St.val (St.bin (f := dEq) rfl rfl (eqS hw img_ok))) (St.val (St.bin (f := dEq) (St.args (St.cons rfl St.nil) o_lenF) rfl ?_))
    rw [o_eqi]
    congr 2
    rw [List.length_map]
    cases cs with
    | nil => rfl
    | cons c cs => rw [decide_eq_false (by rw [List.length_cons]; omega), decide_eq_false (by simp)]
  have s4 : sSet 4 (eLst (eNil)) (env0 11 [.str wh, .str kp, st, .fro (cs.map Ch.d)]) M = .nx [some (.str wh), some (.str kp), some st, some (.fro (cs.map Ch.d)), some (.ref M.length), none, none, none, none, none, none] N := St.set (St.lst St.nil)
  have s5 : sForI (iSeq (eVar 3)) (tgTup [5, 6]) lp_law_portions_1 [some (.str wh), some (.str kp), some st, some (.fro (cs.map Ch.d)), some (.ref M.length), none, none, none, none, none, none] N = _ := for_nx (M0 := N) (ds := cs.map Ch.d) rfl lp1
  by_cases hc : wh = "image" ∨ cs = []
  · have hb : (decide (wh = "image") || decide (cs = [])) = true := by simpa using hc
    rw [hb] at hcond
    refine frzB_lst (G := G) (p := M.length) ?_ (by simp [M]) (by rw [← hG', h1']; unfold porL; rw [if_pos hc, List.map_map]; rfl) plow
    rw [← hG']
    exact St.fn (St.seq s4 (St.seq s5 (seq_rt' (St.ifT hcond (St.ret rfl)))))
  · have hb : (decide (wh = "image") || decide (cs = [])) = false := by simpa using hc
    rw [hb] at hcond
    let E (acc : List D) (y10 : Option D) : Env2 := [some (.str wh), some (.str kp), some st, some (.fro (cs.map Ch.d)), some (.ref M.length), y5, y6, some (.fro acc), none, none, y10]
    let A (i : Nat) : List D := .tup [.str "statement", st] :: ((cs.take i).map fun c => sums kp c.df).flatten
    have hA : ∀ i, i ≤ cs.length → (A i).length ≤ 13 := fun i hi => by
      have := flat_len (f := fun c : Ch => sums kp c.df) (k := 2) (l := cs.take i) fun c hc => sums_len (hd c (List.mem_of_mem_take hc))
      rw [List.length_take] at this
      show (_ :: _ : List D).length ≤ 13
      rw [List.length_cons]; omega
    obtain ⟨e7, M7, s7, rfl, y10, rfl⟩ := for_inv (tg := tgName 10) (body := lp_law_portions_2) (m := eVar 4) (l := .ref M.length) (ds := cs.map fun c => .fro (c.im :: sums kp c.df)) (I := fun i e M' => N' = M' ∧ ∃ y10, E (A i) y10 = e) (e := E (A 0) none) (M := N') (M0 := N') rfl (fun i e M' h => by rw [← h.1, o_li, h1']) ⟨rfl, none, rfl⟩ (fun i x e M' hx h => by
      obtain ⟨rfl, y10, rfl⟩ := h
      rw [List.getElem?_map] at hx
      obtain ⟨c, hc, rfl⟩ := Option.map_eq_some_iff.mp hx
      have hi : i < cs.length := (List.getElem?_eq_some_iff.mp hc).1
      have hcm := hd c (List.mem_of_getElem? hc)
      have sl := sums_len (kp := kp) hcm
      refine ⟨_, E (A (i + 1)) (some (.fro (c.im :: sums kp c.df))), N', rfl, ?_, rfl, _, rfl⟩
      have hsl : eSl mkF (eVar 10) (oSome (eC (.int 1))) oNone (E (A i) (some (.fro (c.im :: sums kp c.df)))) N' = .ok (.fro (sums kp c.df)) N' := by
        have : cutD (c.im :: sums kp c.df) (some 1) none = sums kp c.df := cut_from (ds := c.im :: sums kp c.df) (j := 1) (by simp)
        simp only [E, y_seq, y_seq_nx, y_seq_rt, y_seq_ex, y_seq_bk, y_seq_ct, y_if, y_if_t, y_if_f, y_if_x, y_set, y_set_ok, y_set_x, y_ret, y_ret_ok, y_ret_x, y_retN, y_do, y_do_ok, y_do_x, y_nil, y_raise0, y_raise_ok, y_toR_rt, y_toR_nx, y_toR_ex, y_fn, y_c, y_var, y_var_ok, y_un, y_un_ok, y_un_x, y_bin, y_bin_ok, y_bin_x, y_anil, y_cons, y_cons1, y_cons1x, y_cons2, y_cons2x, y_args, y_args_ok, y_args_x, y_tup, y_tup_ok, y_fro, y_fro_ok, y_lst, y_lst_ok, y_call, y_stat, y_call_ok, y_callk, y_callk1, y_callk2, y_mkF, y_mkF_ok, y_own1, y_own1_ok, y_prop, y_own2, y_val, y_val_ok, y_val_x, y_and, y_and_t, y_and_f, y_or, y_or_t, y_or_f, y_not, y_not_ok, y_yes, y_eand_t, y_eand_f, y_eor_t, y_eor_f, y_enot_ok, y_eif, y_eif_t, y_eif_f, y_for_v, y_iseq, y_iseq_t, y_iseq_f, y_iseq_r, y_rng, y_env0, y_try, y_try_nx, y_try_rt, y_try0, y_try0_nx, y_try0_rt, y_fv0, y_fv_nx, y_fv_ct, y_fv_rt, y_lc_v, y_step, y_step_ok, y_istr, y_istr_ok, y_eApp, y_eSl, y_ePopAt, y_eIns, y_eChain, y_eMake, y_eMeth, y_eMakeRK, y_eMakeK, y_eMakeD, y_eStar, y_eXFld, y_eXIsF, y_sPutF, y_sSetIx, y_sIncF, y_sUnp, y_sUnpL, y_sDelD, y_oNone, y_oSome, y_iRange2, y_iZip2, y_eDNew, y_eLenO, y_eOwnIn, y_eDGet1, y_eDGet2, y_eDPop2, y_sForItems, y_eCallRK, y_eCallR, y_eLenSet, y_bind_ok, y_bind_x, y_toS_ok, y_toS_x, y_eRem, y_eExt, y_sAug, z_raise, z_own2_ok, z_eand, z_eor, z_enot, z_rng_ok, z_for_l, o_add, o_sub, o_lt, o_le, o_gt, o_ge, o_neg, o_eqi, o_nei, o_is0, o_is1, o_is2, o_is3, o_is4, o_is5, o_is6, o_is7, o_nt0, o_nt1, o_nt2, o_nt3, o_nt4, o_nt5, o_nt6, o_ix0, o_ix1, o_ix2, o_ix3, o_ix4, o_ix5, o_fx0, o_fx1, o_fx2, o_fx3, o_fx4, o_lenT, o_lenF, o_asB, o_tupF, o_tupT, o_listF, o_listFT, o_listL, o_listLT, o_tg1, o_tg2, o_wipe1, o_wipe2, o_yes, o_slT, o_slF, o_putF, o_li, o_liF, o_lenR, o_tupR, o_lstFR, o_lstLR, o_try_x, o_try0_x, o_unb_rt, o_unb_nx, o_rev, o_mkF, o_mkL, o_itF, o_itT, z_env0, fcal1, fcal2, fcal3, fcal4, List.map_cons, List.map_nil, List.replicate, List.append_nil, Nat.reduceSub, List.cons_append, List.nil_append, List.length_cons, List.length_nil, Nat.reduceAdd, Nat.reduceLeDiff, List.getElem?_cons_zero, List.getElem?_cons_succ, List.set_cons_zero, List.set_cons_succ, Bool.not_true, Bool.not_false, decide_true, decide_false, ite_true, ite_false, reduceCtorEq, eq_self, and_self, true_and, and_true, false_and, and_false, Nat.reduceLT, Nat.reduceEqDiff, Nat.zero_add, Int.reduceLT, Int.ofNat_zero, Int.reduceGT, this]
      have hcat := cat_F (M := N') (x := .fro (A i)) (y := .fro (sums kp c.df)) rfl rfl (by have := hA i (Nat.le_of_lt hi); omega)
      have hnx : A (i + 1) = A i ++ sums kp c.df := by
        show _ :: _ = (_ :: _) ++ _
        rw [List.take_add_one, hc]
        simp
      rw [hnx]
      exact St.set (St.bin (f := dCat mkF) rfl hsl hcat))
    rw [List.length_map] at s7
    have hA0 : A 0 = [.tup [.str "statement", st]] := rfl
    have hAn : A cs.length = .tup [.str "statement", st] :: (cs.map fun c => sums kp c.df).flatten := by
      show _ :: _ = _
      rw [List.take_length]
    rw [hAn] at s7
    refine frzB_low (G := G) (d := .fro ((porL wh kp st cs).map D.fro)) ?_ (low_fro plow)
    rw [← hG']
    refine St.fn (St.seq s4 (St.seq s5 (St.seq (St.ifF hcond y_nil) (St.seq (St.set (St.fro (St.cons (St.tup (St.cons rfl (St.cons rfl St.nil))) St.nil))) (St.seq s7 (St.ret ?_))))))
    unfold porL
    rw [if_neg hc]
    exact St.fro (St.cons rfl St.nil)
end
end K80
-- T19a
namespace K80
open PySem L2 T2
/-! ### a log in the memory -/
def foot (q : Lp) (pl : Int → Nat) (L : List Br) : List Nat := q.a :: q.u :: q.d :: q.o :: q.w :: q.l :: L.map fun b => pl b.n
def dnd (pl : Int → Nat) (L : List Br) : List Nd := L.map fun b => ⟨b.n, .ref (pl b.n)⟩
def lasts : Nat → List Br → List Nd
  | _, [] => []
  | i, b :: r => ⟨b.n, .int ((i + 1 : Nat) : Int)⟩ :: lasts (i + 1) r
theorem lasts_app (b : Br) : ∀ (U : List Br) (i : Nat), lasts i (U ++ [b]) = lasts i U ++ [⟨b.n, .int ((i + U.length + 1 : Nat) : Int)⟩]
  | [], i => rfl
  | u :: U, i => by
    rw [List.cons_append, lasts, lasts_app b U (i + 1), lasts, List.length_cons, List.cons_append]
    rw [show i + 1 + U.length + 1 = i + (U.length + 1) + 1 by omega]
theorem lasts_n : ∀ (U : List Br) (i : Nat), (lasts i U).map Nd.n = U.map Br.n
  | [], _ => rfl
  | u :: U, i => by rw [lasts, List.map_cons, List.map_cons, lasts_n U (i + 1)]
theorem lasts_len : ∀ (U : List Br) (i : Nat), (lasts i U).length = U.length
  | [], _ => rfl
  | u :: U, i => by rw [lasts, List.length_cons, List.length_cons, lasts_len U (i + 1)]
structure LgAt (M : MH) (bk : D) (q : Lp) (pl : Int → Nat) (op : Int → Bool) (k : Nat) (L U : List Br) (W : List Int) : Prop where
  ob : M[q.a]? = some (lgO bk q)
  un : M[q.u]? = some (.lst (U.map Br.u))
  dr : M[q.d]? = some (ndO (dnd pl L))
  ov : ∃ es, M[q.o]? = some (ndO es) ∧ es.length ≤ k ∧ ∀ n, decide (n ∈ es.map Nd.n) = op n
  wr : M[q.w]? = some (.lst (W.map D.int))
  la : M[q.l]? = some (ndO (lasts 0 U))
  ps : ∀ b ∈ L, M[pl b.n]? = some (.lst b.ps)
  nd : (foot q pl L).Nodup
structure Ne6 (q : Lp) : Prop where
  au : q.a ≠ q.u
  ad : q.a ≠ q.d
  ao : q.a ≠ q.o
  aw : q.a ≠ q.w
  al : q.a ≠ q.l
  ud : q.u ≠ q.d
  uo : q.u ≠ q.o
  uw : q.u ≠ q.w
  ul : q.u ≠ q.l
  do_ : q.d ≠ q.o
  dw : q.d ≠ q.w
  dl : q.d ≠ q.l
  ow : q.o ≠ q.w
  ol : q.o ≠ q.l
  wl : q.w ≠ q.l
structure NeP (q : Lp) (p : Nat) : Prop where
  a : q.a ≠ p
  u : q.u ≠ p
  d : q.d ≠ p
  o : q.o ≠ p
  w : q.w ≠ p
  l : q.l ≠ p
theorem ne6 {q : Lp} {pl : Int → Nat} {L : List Br} (h : (foot q pl L).Nodup) : Ne6 q ∧ (∀ b ∈ L, NeP q (pl b.n)) ∧ (L.map fun b => pl b.n).Nodup := by
  simp only [foot, List.nodup_cons, List.mem_cons, not_or, List.mem_map, not_exists, not_and] at h
  obtain ⟨⟨h1, h2, h3, h4, h5, h6⟩, ⟨h7, h8, h9, h10, h11⟩, ⟨h12, h13, h14, h15⟩, ⟨h16, h17, h18⟩, ⟨h19, h20⟩, h21, h22⟩ := h
  exact ⟨⟨h1, h2, h3, h4, h5, h7, h8, h9, h10, h12, h13, h14, h16, h17, h19⟩, fun b hb => ⟨fun z => h6 b hb z.symm, fun z => h11 b hb z.symm, fun z => h15 b hb z.symm, fun z => h18 b hb z.symm, fun z => h20 b hb z.symm, fun z => h21 b hb z.symm⟩, h22⟩
theorem foot_nd {q : Lp} {pl : Int → Nat} {L : List Br} (h1 : Ne6 q) (h2 : ∀ b ∈ L, NeP q (pl b.n)) (h3 : (L.map fun b => pl b.n).Nodup) : (foot q pl L).Nodup := by
  simp only [foot, List.nodup_cons, List.mem_cons, not_or, List.mem_map, not_exists, not_and]
  exact ⟨⟨h1.au, h1.ad, h1.ao, h1.aw, h1.al, fun b hb z => (h2 b hb).a z.symm⟩, ⟨h1.ud, h1.uo, h1.uw, h1.ul, fun b hb z => (h2 b hb).u z.symm⟩, ⟨h1.do_, h1.dw, h1.dl, fun b hb z => (h2 b hb).d z.symm⟩, ⟨h1.ow, h1.ol, fun b hb z => (h2 b hb).o z.symm⟩, ⟨h1.wl, fun b hb z => (h2 b hb).w z.symm⟩, fun b hb z => (h2 b hb).l z.symm, h3⟩
theorem in_foot {q : Lp} {pl : Int → Nat} {L : List Br} : q.a ∈ foot q pl L ∧ q.u ∈ foot q pl L ∧ q.d ∈ foot q pl L ∧ q.o ∈ foot q pl L ∧ q.w ∈ foot q pl L ∧ q.l ∈ foot q pl L ∧ ∀ b ∈ L, pl b.n ∈ foot q pl L := by
  refine ⟨?_, ?_, ?_, ?_, ?_, ?_, fun b hb => ?_⟩ <;> unfold foot
  all_goals first
    | (have : pl b.n ∈ L.map fun b => pl b.n := List.mem_map.mpr ⟨b, hb, rfl⟩
       simp only [List.mem_cons]
       exact .inr (.inr (.inr (.inr (.inr (.inr this))))))
    | simp
/-- elsewhere something happens -/
theorem LgAt.keep {M M' : MH} {S : List Nat} {bk : D} {q : Lp} {pl : Int → Nat} {op : Int → Bool} {k : Nat} {L U : List Br} {W : List Int} (A : LgAt M bk q pl op k L U W) (f : Fr S M M') (h : ∀ i ∈ S, i ∉ foot q pl L) : LgAt M' bk q pl op k L U W := by
  obtain ⟨i1, i2, i3, i4, i5, i6, i7⟩ := in_foot (q := q) (pl := pl) (L := L)
  have g : ∀ {i : Nat} {o : MO}, i ∈ foot q pl L → M[i]? = some o → M'[i]? = some o := fun hi ho => f.keep _ _ ho fun z => h _ z hi
  obtain ⟨es, e1, e2, e3⟩ := A.ov
  exact ⟨g i1 A.ob, g i2 A.un, g i3 A.dr, ⟨es, g i4 e1, e2, e3⟩, g i5 A.wr, g i6 A.la, fun b hb => g (i7 b hb) (A.ps b hb), A.nd⟩
theorem LgAt.up {M : MH} {bk : D} {q : Lp} {pl : Int → Nat} {op : Int → Bool} {k k' : Nat} {L U : List Br} {W : List Int} (A : LgAt M bk q pl op k L U W) (h : k ≤ k') : LgAt M bk q pl op k' L U W := by
  obtain ⟨es, e1, e2, e3⟩ := A.ov
  exact ⟨A.ob, A.un, A.dr, ⟨es, e1, Nat.le_trans e2 h, e3⟩, A.wr, A.la, A.ps, A.nd⟩
theorem nPut_new {es : List Nd} {e : Nd} (h : e.n ∉ es.map Nd.n) : nPut es e = es ++ [e] := by
  unfold nPut
  rw [if_neg h]
theorem dnd_n {pl : Int → Nat} {L : List Br} : (dnd pl L).map Nd.n = L.map Br.n := by
  unfold dnd
  rw [List.map_map]
  rfl
section
variable {M : MH} {bk : D} {q : Lp} {pl : Int → Nat} {op : Int → Bool} {k : Nat} {L U : List Br} {W : List Int} {n : Int}
/-! begin -/
theorem begin_run (A : LgAt M bk q pl op k L U W) (hn : n ∉ L.map Br.n) (hl : L.length ≤ 500) :
    ∃ M' pl', m_Log_begin [.ref q.a, .int n] M = .ok .non M' ∧ LgAt M' bk q pl' op k (L ++ [⟨n, [], false, false⟩]) U W ∧ Fr (foot q pl L) M M' ∧ (∀ i ∈ foot q pl' (L ++ [⟨n, [], false, false⟩]), i ∈ foot q pl L ∨ M.length ≤ i) := by
  obtain ⟨n6, np, nn⟩ := ne6 A.nd
  let N : MH := M ++ [.lst []]
  let pl' : Int → Nat := fun m => if m = n then M.length else pl m
  have hp : ∀ b ∈ L, pl' b.n = pl b.n := fun b hb => if_neg fun z => hn (List.mem_map.mpr ⟨b, hb, z⟩)
  have hL : dnd pl' L = dnd pl L := List.map_congr_left fun b hb => by rw [hp b hb]
  have hm : (L.map fun b => pl' b.n) = L.map fun b => pl b.n := List.map_congr_left fun b hb => hp b hb
  have hpn : pl' n = M.length := if_pos rfl
  have e1 := f_dr (M := N) (at_app A.ob)
  have e2 := nd_set (M := N) (p := q.d) (e := ⟨n, .ref M.length⟩) (at_app A.dr) (by unfold dnd; rw [List.length_map]; omega)
  rw [nPut_new (by rw [dnd_n]; exact hn)] at e2
  have hd : dnd pl L ++ [⟨n, .ref M.length⟩] = dnd pl' (L ++ [⟨n, [], false, false⟩]) := by
    rw [← hL]
    unfold dnd
    rw [List.map_append, List.map_cons, List.map_nil, hpn]
  have ed : M[q.d]? = some _ := A.dr
  have hdl := at_lt A.dr
  refine ⟨N.set q.d (ndO (dnd pl' (L ++ [⟨n, [], false, false⟩]))), pl', ?_, ?_, Fr.trans Fr.app (Fr.set in_foot.2.2.1), ?_⟩
  · rw [← hd]
    exact St.fnN (e1 := [some (.ref q.a), some (.int n)]) (St.setIx (f := dSetD) (St.lst St.nil) (St.un rfl e1) rfl e2)
  · have o : ∀ {i : Nat} {u : MO}, M[i]? = some u → q.d ≠ i → (N.set q.d (ndO (dnd pl' (L ++ [⟨n, [], false, false⟩]))))[i]? = some u := fun h1 h2 => at_off (at_app h1) h2
    obtain ⟨es, g1, g2, g3⟩ := A.ov
    refine ⟨o A.ob n6.ad.symm, o A.un n6.ud.symm, at_set (at_app A.dr), ⟨es, o g1 n6.do_, g2, g3⟩, o A.wr n6.dw, o A.la n6.dl, fun b hb => ?_, foot_nd n6 (fun b hb => ?_) ?_⟩
    · rcases List.mem_append.mp hb with hb | hb
      · rw [hp b hb]; exact o (A.ps b hb) (np b hb).d
      · obtain rfl := List.mem_singleton.mp hb
        show _[pl' n]? = _
        rw [hpn]
        exact at_off (by simp [N]) (Nat.ne_of_lt hdl)
    · rcases List.mem_append.mp hb with hb | hb
      · rw [hp b hb]; exact np b hb
      · obtain rfl := List.mem_singleton.mp hb
        show NeP q (pl' n)
        rw [hpn]
        exact ⟨at_new A.ob, at_new A.un, at_new A.dr, at_new g1, at_new A.wr, at_new A.la⟩
    · rw [List.map_append, hm, List.nodup_append]
      refine ⟨nn, by simp, fun x hx y hy => ?_⟩
      have hy : y = pl' n := by simpa using hy
      obtain ⟨b, hb, rfl⟩ := List.mem_map.mp hx
      rw [hy, hpn]
      exact at_new (A.ps b hb)
  · intro i hi
    unfold foot at hi ⊢
    rw [List.map_append, hm] at hi
    simp only [List.mem_cons, List.mem_append, List.map_cons, List.map_nil, List.mem_singleton, List.not_mem_nil, or_false] at hi ⊢
    rcases hi with h | h | h | h | h | h | h | h
    · exact .inl (.inl h)
    · exact .inl (.inr (.inl h))
    · exact .inl (.inr (.inr (.inl h)))
    · exact .inl (.inr (.inr (.inr (.inl h))))
    · exact .inl (.inr (.inr (.inr (.inr (.inl h)))))
    · exact .inl (.inr (.inr (.inr (.inr (.inr (.inl h))))))
    · exact .inl (.inr (.inr (.inr (.inr (.inr (.inr h))))))
    · right; rw [h, hpn]; exact Nat.le_refl _
end
end K80
-- T19a
namespace K80
open PySem L2 T2
section
variable {M : MH} {wn wh kp cf ct : Str} {q : Lp} {pl : Int → Nat} {op : Int → Bool} {k : Nat} {L U : List Br} {W : List Int} {n : Int}
/-! a unit goes behind the units -/
theorem unit_run {b : Br} {bk : D} (A : LgAt M bk q pl op k L U W) (hp : M[pl b.n]? = some (.lst b.ps)) (hn : b.n ∉ U.map Br.n) (hl : U.length ≤ 500) :
    ∃ M', m_Log_append_unit [.ref q.a, .int b.n, .ref (pl b.n)] M = .ok .non M' ∧ LgAt M' bk q pl op k L (U ++ [b]) W ∧ Fr [q.u, q.l] M M' := by
  obtain ⟨n6, np, nn⟩ := ne6 A.nd
  let N : MH := M.set q.u (.lst (U.map Br.u ++ [b.u]))
  have e1 := f_us A.ob
  have s1 : sDo (eApp (eUn (dFld [6] "units") (eVar 0)) (eTup (eCons (eVar 1) (eCons (eArgs dTupF (eCons (eVar 2) (eNil))) (eNil))))) [some (.ref q.a), some (.int b.n), some (.ref (pl b.n))] M = .nx [some (.ref q.a), some (.int b.n), some (.ref (pl b.n))] N := by
    have et : dTupF [.ref (pl b.n)] M = .ok (.tup b.ps) M := by rw [o_tupR, hp]
    exact St.sdo (St.app (St.un rfl e1) ⟨_, A.un⟩ (St.tup (St.cons rfl (St.cons (St.args (St.cons rfl St.nil) et) St.nil))) A.un (by rw [List.length_map]; omega))
  have ob2 : N[q.a]? = some (lgO bk q) := at_off A.ob n6.au.symm
  have la2 : N[q.l]? = some (ndO (lasts 0 U)) := at_off A.la n6.ul
  have un2 : N[q.u]? = some (.lst (U.map Br.u ++ [b.u])) := at_set A.un
  have elen : dLen [.ref q.u] N = .ok (.int ((0 + U.length + 1 : Nat) : Int)) N := by
    rw [o_lenR, un2]
    show Res.ok (D.int ((U.map Br.u ++ [b.u]).length : Nat)) N = _
    rw [List.length_append, List.length_map, List.length_singleton, Nat.zero_add]
  have e2 := nd_set (M := N) (p := q.l) (e := ⟨b.n, .int ((0 + U.length + 1 : Nat) : Int)⟩) la2 (by rw [lasts_len]; omega)
  rw [nPut_new (by rw [lasts_n]; exact hn), ← lasts_app] at e2
  have s2 : sSetIx dSetD (eUn (dFld [6] "lasts") (eVar 0)) (eVar 1) (eArgs dLen (eCons (eUn (dFld [6] "units") (eVar 0)) (eNil))) [some (.ref q.a), some (.int b.n), some (.ref (pl b.n))] N = .nx [some (.ref q.a), some (.int b.n), some (.ref (pl b.n))] (N.set q.l (ndO (lasts 0 (U ++ [b])))) :=
    St.setIx (f := dSetD) (St.args (St.cons (St.un rfl (f_us ob2)) St.nil) elen) (St.un rfl (f_ls ob2)) rfl e2
  refine ⟨N.set q.l (ndO (lasts 0 (U ++ [b]))), St.fnN (St.seq s1 s2), ?_, (Fr.set (by simp)).trans (Fr.set (by simp))⟩
  have o : ∀ {i : Nat} {u : MO}, M[i]? = some u → q.u ≠ i → q.l ≠ i → (N.set q.l (ndO (lasts 0 (U ++ [b]))))[i]? = some u := fun h1 h2 h3 => at_off (at_off h1 h2) h3
  obtain ⟨es, g1, g2, g3⟩ := A.ov
  refine ⟨o A.ob n6.au.symm n6.al.symm, ?_, o A.dr n6.ud n6.dl.symm, ⟨es, o g1 n6.uo n6.ol.symm, g2, g3⟩, o A.wr n6.uw n6.wl.symm, at_set la2, fun c hc => o (A.ps c hc) (np c hc).u (np c hc).l, A.nd⟩
  rw [List.map_append]
  exact at_off un2 n6.ul.symm
/-! what is passed on -/
def flD (stop : Bool) (p : Int → Bool) : List Br → List Br
  | [] => []
  | b :: r => if p b.n = true then flD stop p r else if stop = true then b :: r else b :: flD stop p r
def flU (stop : Bool) (p : Int → Bool) : List Br → List Br
  | [] => []
  | b :: r => if p b.n = true then (if b.ne = true then b :: flU stop p r else flU stop p r) else if stop = true then [] else flU stop p r
theorem flD_sub {stop : Bool} {p : Int → Bool} : ∀ {r : List Br}, ∀ b ∈ flD stop p r, b ∈ r
  | [], b, h => h
  | x :: r, b, h => by
    unfold flD at h
    split at h
    · exact List.mem_cons_of_mem _ (flD_sub b h)
    · split at h
      · exact h
      · rcases List.mem_cons.mp h with rfl | h
        · exact List.mem_cons_self
        · exact List.mem_cons_of_mem _ (flD_sub b h)
theorem LgAt.less {bk : D} {L' : List Br} (A : LgAt M bk q pl op k L U W) (h : L'.Sublist L) (M' : MH) (hM : M' = M.set q.d (ndO (dnd pl L'))) : LgAt M' bk q pl op k L' U W := by
  subst hM
  obtain ⟨n6, np, nn⟩ := ne6 A.nd
  have o : ∀ {i : Nat} {u : MO}, M[i]? = some u → q.d ≠ i → (M.set q.d (ndO (dnd pl L')))[i]? = some u := fun h1 h2 => at_off h1 h2
  obtain ⟨es, g1, g2, g3⟩ := A.ov
  exact ⟨o A.ob n6.ad.symm, o A.un n6.ud.symm, at_set A.dr, ⟨es, o g1 n6.do_, g2, g3⟩, o A.wr n6.dw, o A.la n6.dl, fun b hb => o (A.ps b (h.subset hb)) (np b (h.subset hb)).d, foot_nd n6 (fun b hb => np b (h.subset hb)) ((h.map _).nodup nn)⟩
theorem nDel_dnd {L0 r : List Br} {b : Br} (hnd : ((L0 ++ b :: r).map Br.n).Nodup) : nDel (dnd pl (L0 ++ b :: r)) b.n = dnd pl (L0 ++ r) := by
  rw [List.map_append, List.map_cons, List.nodup_append] at hnd
  obtain ⟨_, h2, h3⟩ := hnd
  rw [List.nodup_cons] at h2
  unfold nDel dnd
  rw [List.map_append, List.map_cons, List.filter_append, List.filter_cons, List.map_append]
  have e1 : (L0.map fun c => (⟨c.n, .ref (pl c.n)⟩ : Nd)).filter (fun e => decide (e.n ≠ b.n)) = L0.map fun c => (⟨c.n, .ref (pl c.n)⟩ : Nd) := by
    rw [List.filter_eq_self]
    intro e he
    obtain ⟨c, hc, rfl⟩ := List.mem_map.mp he
    rw [decide_eq_true_eq]
    exact h3 c.n (List.mem_map.mpr ⟨c, hc, rfl⟩) b.n List.mem_cons_self
  have e2 : (r.map fun c => (⟨c.n, .ref (pl c.n)⟩ : Nd)).filter (fun e => decide (e.n ≠ b.n)) = r.map fun c => (⟨c.n, .ref (pl c.n)⟩ : Nd) := by
    rw [List.filter_eq_self]
    intro e he
    obtain ⟨c, hc, rfl⟩ := List.mem_map.mp he
    rw [decide_eq_true_eq]
    exact fun z => h2.1 (List.mem_map.mpr ⟨c, hc, z⟩)
  rw [e1, e2, if_neg (by simp)]
theorem pass_loop (hw : PyData.strOk wn = true) : ∀ (r L0 U : List Br) (M : MH) (x2 x3 : Option D), LgAt M (bkO wn wh kp cf ct) q pl op k (L0 ++ r) U W → ((L0 ++ r).map Br.n).Nodup → (∀ b ∈ r, b.n ∉ U.map Br.n) → U.length + r.length ≤ 400 →
    ∃ M', toR (forV (tgTup [2, 3]) lp_Log_pass_on_1 (r.map fun b => .tup [.int b.n, .ref (pl b.n)]) [some (.ref q.a), some (.int n), x2, x3] M) = .ok .non M' ∧ LgAt M' (bkO wn wh kp cf ct) q pl op k (L0 ++ flD (decide (wn = "begin")) op r) (U ++ flU (decide (wn = "begin")) op r) W ∧ Fr (foot q pl (L0 ++ r)) M M'
  | [], L0, U, M, x2, x3, A, _, _, _ => ⟨M, by rw [List.map_nil, z_fv0]; rfl, by unfold flD flU; rw [List.append_nil, List.append_nil]; rw [List.append_nil] at A; exact A, Fr.refl⟩
  | b :: r, L0, U, M, x2, x3, A, hnd, hU, hl => by
    rw [List.length_cons] at hl
    obtain ⟨n6, np, nn⟩ := ne6 A.nd
    have hb : b ∈ L0 ++ b :: r := by simp
    obtain ⟨es, g1, g2, g3⟩ := A.ov
    have ein := nd_in (n := b.n) g1
    rw [g3] at ein
    have ft : foot q pl (L0 ++ r) ⊆ foot q pl (L0 ++ b :: r) := fun i hi => by
      unfold foot at hi ⊢
      simp only [List.mem_cons, List.map_append, List.mem_append, List.map_cons] at hi ⊢
      rcases hi with h | h | h | h | h | h | h | h
      · exact .inl h
      · exact .inr (.inl h)
      · exact .inr (.inr (.inl h))
      · exact .inr (.inr (.inr (.inl h)))
      · exact .inr (.inr (.inr (.inr (.inl h))))
      · exact .inr (.inr (.inr (.inr (.inr (.inl h)))))
      · exact .inr (.inr (.inr (.inr (.inr (.inr (.inl h))))))
      · exact .inr (.inr (.inr (.inr (.inr (.inr (.inr (.inr h)))))))
    have sub : (L0 ++ r).Sublist (L0 ++ b :: r) := List.Sublist.append (List.Sublist.refl _) (List.sublist_cons_self _ _)
    have c1 : bVal (eBin dInA (eVar 2) (eUn (dFld [6] "over") (eVar 0))) [some (.ref q.a), some (.int n), some (.int b.n), some (.ref (pl b.n))] M = .ok (op b.n) M := St.val (St.bin (f := dInA) rfl (St.un rfl (f_ov A.ob)) ein)
    rw [List.map_cons]
    cases ho : op b.n with
    | true =>
      rw [ho] at c1
      let N : MH := M.set q.d (ndO (dnd pl (L0 ++ r)))
      have edel := nd_del (n := b.n) A.dr (by rw [dnd_n]; exact List.mem_map.mpr ⟨b, hb, rfl⟩)
      rw [nDel_dnd hnd] at edel
      have s1 : sDelD (eUn (dFld [6] "drafts") (eVar 0)) (eVar 2) [some (.ref q.a), some (.int n), some (.int b.n), some (.ref (pl b.n))] M = .nx [some (.ref q.a), some (.int n), some (.int b.n), some (.ref (pl b.n))] N := St.delD (St.un rfl (f_dr A.ob)) rfl edel
      have AN : LgAt N (bkO wn wh kp cf ct) q pl op k (L0 ++ r) U W := A.less sub N rfl
      have fN : Fr (foot q pl (L0 ++ b :: r)) M N := Fr.set in_foot.2.2.1
      have hp : N[pl b.n]? = some (.lst b.ps) := at_off (A.ps b hb) (np b hb).d
      have hnd' : ((L0 ++ r).map Br.n).Nodup := (sub.map _).nodup hnd
      have c2 : bVal (eBin dGt (eArgs dLen (eCons (eVar 3) (eNil))) (eC (.int 0))) [some (.ref q.a), some (.int n), some (.int b.n), some (.ref (pl b.n))] N = .ok b.ne N := by
        have : dLen [.ref (pl b.n)] N = .ok (.int b.ps.length) N := by rw [o_lenR, hp]
        refine St.val (St.bin (f := dGt) (St.args (St.cons rfl St.nil) this) rfl ?_)
        rw [o_gt]
        congr 2
        unfold Br.ne
        cases b.ps with
        | nil => rfl
        | cons a l => rw [decide_eq_true (by rw [List.length_cons]; omega)]; rfl
      cases he : b.ne with
      | true =>
        rw [he] at c2
        obtain ⟨M2, u1, u2, u3⟩ := unit_run AN hp (hU b List.mem_cons_self) (by omega)
        obtain ⟨M', l1, l2, l3⟩ := pass_loop hw r L0 (U ++ [b]) M2 (some (.int b.n)) (some (.ref (pl b.n))) u2 hnd' (fun c hc z => by
          rw [List.map_append, List.mem_append] at z
          rcases z with z | z
          · exact hU c (List.mem_cons_of_mem _ hc) z
          · have z : c.n = b.n := by simpa using z
            rw [List.map_append, List.map_cons, List.nodup_append] at hnd
            exact (List.nodup_cons.mp hnd.2.1).1 (List.mem_map.mpr ⟨c, hc, z⟩)) (by rw [List.length_append, List.length_singleton]; omega)
        refine ⟨M', ?_, ?_, (fN.trans (u3.mono fun i hi => ?_)).trans (l3.mono fun i hi => .inl (ft hi))⟩
        · have bb : lp_Log_pass_on_1 [some (.ref q.a), some (.int n), some (.int b.n), some (.ref (pl b.n))] M = .nx [some (.ref q.a), some (.int n), some (.int b.n), some (.ref (pl b.n))] M2 :=
            St.ifT c1 (St.seq s1 (St.ifT c2 (St.sdo (St.meth (o := .ref q.a) (ds := [.int b.n, .ref (pl b.n)]) rfl (ins_lg AN.ob) (by decide +kernel) (St.cons rfl (St.cons rfl St.nil)) rfl u1))))
          rw [St.fvN (tg := tgTup [2, 3]) (e1 := [some (.ref q.a), some (.int n), some (.int b.n), some (.ref (pl b.n))]) rfl bb rfl]
          exact l1
        · unfold flD flU
          rw [if_pos ho, if_pos ho, if_pos he]
          rw [List.append_assoc] at l2
          exact l2
        · left
          have := in_foot (q := q) (pl := pl) (L := L0 ++ b :: r)
          rcases List.mem_cons.mp hi with rfl | hi
          · exact this.2.1
          · obtain rfl := List.mem_singleton.mp hi
            exact this.2.2.2.2.2.1
      | false =>
        rw [he] at c2
        obtain ⟨M', l1, l2, l3⟩ := pass_loop hw r L0 U N (some (.int b.n)) (some (.ref (pl b.n))) AN hnd' (fun c hc => hU c (List.mem_cons_of_mem _ hc)) (by omega)
        refine ⟨M', ?_, ?_, fN.trans (l3.mono fun i hi => .inl (ft hi))⟩
        · have bb : lp_Log_pass_on_1 [some (.ref q.a), some (.int n), some (.int b.n), some (.ref (pl b.n))] M = .nx [some (.ref q.a), some (.int n), some (.int b.n), some (.ref (pl b.n))] N :=
            St.ifT c1 (St.seq s1 (St.ifF c2 y_nil))
          rw [St.fvN (tg := tgTup [2, 3]) (e1 := [some (.ref q.a), some (.int n), some (.int b.n), some (.ref (pl b.n))]) rfl bb rfl]
          exact l1
        · unfold flD flU
          rw [if_pos ho, if_pos ho, if_neg (by rw [he]; simp)]
          exact l2
    | false =>
      rw [ho] at c1
      have c2 : bVal (eBin dEq (eUn (dFld [22] "when") (eUn (dFld [6] "book") (eVar 0))) (eC (.str "begin"))) [some (.ref q.a), some (.int n), some (.int b.n), some (.ref (pl b.n))] M = .ok (decide (wn = "begin")) M :=
        St.val (St.bin (f := dEq) (St.un (St.un rfl (f_bk A.ob)) b_wn) rfl (eqS hw (by decide +kernel)))
      by_cases hs : wn = "begin"
      · rw [decide_eq_true hs] at c2 ⊢
        refine ⟨M, ?_, ?_, Fr.refl⟩
        · have bb : lp_Log_pass_on_1 [some (.ref q.a), some (.int n), some (.int b.n), some (.ref (pl b.n))] M = .rt .non M := St.ifF c1 (St.ifT c2 y_retN)
          rw [St.fvR (tg := tgTup [2, 3]) (e1 := [some (.ref q.a), some (.int n), some (.int b.n), some (.ref (pl b.n))]) rfl bb]
          rfl
        · unfold flD flU
          rw [if_neg (show ¬ op b.n = true by rw [ho]; simp), if_neg (show ¬ op b.n = true by rw [ho]; simp), if_pos rfl, if_pos rfl, List.append_nil]
          exact A
      · rw [decide_eq_false hs] at c2
        have A' : LgAt M (bkO wn wh kp cf ct) q pl op k ((L0 ++ [b]) ++ r) U W := by rw [List.append_assoc]; exact A
        obtain ⟨M', l1, l2, l3⟩ := pass_loop hw r (L0 ++ [b]) U M (some (.int b.n)) (some (.ref (pl b.n))) A' (by rw [List.append_assoc]; exact hnd) (fun c hc => hU c (List.mem_cons_of_mem _ hc)) (by omega)
        refine ⟨M', ?_, ?_, by rw [List.append_assoc] at l3; exact l3⟩
        · have bb : lp_Log_pass_on_1 [some (.ref q.a), some (.int n), some (.int b.n), some (.ref (pl b.n))] M = .nx [some (.ref q.a), some (.int n), some (.int b.n), some (.ref (pl b.n))] M := St.ifF c1 (St.ifF c2 y_nil)
          rw [St.fvN (tg := tgTup [2, 3]) (e1 := [some (.ref q.a), some (.int n), some (.int b.n), some (.ref (pl b.n))]) rfl bb rfl]
          exact l1
        · rw [decide_eq_false hs] at l2 ⊢
          unfold flD flU
          rw [if_neg (show ¬ op b.n = true by rw [ho]; simp), if_neg (show ¬ op b.n = true by rw [ho]; simp), if_neg (by simp), if_neg (by simp)]
          rw [List.append_assoc] at l2
          exact l2
def opx (op : Int → Bool) (n : Int) : Int → Bool := fun m => decide (m = n) || op m
theorem pass_run (hw : PyData.strOk wn = true) (A : LgAt M (bkO wn wh kp cf ct) q pl op k L U W) (hnd : (L.map Br.n).Nodup) (hU : ∀ b ∈ L, b.n ∉ U.map Br.n) (hl : U.length + L.length ≤ 400) (hk : k ≤ 400) :
    ∃ M', m_Log_pass_on [.ref q.a, .int n] M = .ok .non M' ∧ LgAt M' (bkO wn wh kp cf ct) q pl (opx op n) (k + 1) (flD (decide (wn = "begin")) (opx op n) L) (U ++ flU (decide (wn = "begin")) (opx op n) L) W ∧ Fr (foot q pl L) M M' := by
  obtain ⟨n6, np, nn⟩ := ne6 A.nd
  obtain ⟨es, g1, g2, g3⟩ := A.ov
  have e1 := nd_set (M := M) (p := q.o) (e := ⟨n, .bl true⟩) g1 (by omega)
  let es' := nPut es ⟨n, .bl true⟩
  let N : MH := M.set q.o (ndO es')
  have hes : es'.length ≤ k + 1 ∧ ∀ m, decide (m ∈ es'.map Nd.n) = opx op n m := by
    have hmem : ∀ m, m ∈ es'.map Nd.n ↔ m = n ∨ m ∈ es.map Nd.n := fun m => by
      show m ∈ (nPut es ⟨n, .bl true⟩).map Nd.n ↔ _
      unfold nPut
      split
      · rename_i hin
        have : (es.map fun x => if x.n = n then (⟨n, .bl true⟩ : Nd) else x).map Nd.n = es.map Nd.n := by
          rw [List.map_map]
          refine List.map_congr_left fun x _ => ?_
          show (if x.n = n then (⟨n, .bl true⟩ : Nd) else x).n = x.n
          split
          · rename_i hx; exact hx.symm
          · rfl
        rw [this]
        constructor
        · exact .inr
        · rintro (rfl | h)
          · exact hin
          · exact h
      · rw [List.map_append, List.mem_append]
        simp only [List.map_cons, List.map_nil, List.mem_singleton]
        exact Or.comm
    refine ⟨?_, fun m => ?_⟩
    · show (nPut es ⟨n, .bl true⟩).length ≤ k + 1
      unfold nPut
      split
      · rw [List.length_map]; omega
      · rw [List.length_append, List.length_singleton]; omega
    · unfold opx
      rw [← g3, ← Bool.decide_or]
      exact decide_eq_decide.mpr (hmem m)
  have o : ∀ {i : Nat} {u : MO}, M[i]? = some u → q.o ≠ i → N[i]? = some u := fun h1 h2 => at_off h1 h2
  have AN : LgAt N (bkO wn wh kp cf ct) q pl (opx op n) (k + 1) L U W := ⟨o A.ob n6.ao.symm, o A.un n6.uo.symm, o A.dr n6.do_.symm, ⟨es', at_set g1, hes.1, hes.2⟩, o A.wr n6.ow, o A.la n6.ol, fun b hb => o (A.ps b hb) (np b hb).o, A.nd⟩
  obtain ⟨M', l1, l2, l3⟩ := pass_loop (n := n) hw L [] U N none none AN hnd hU hl
  refine ⟨M', ?_, by rw [List.nil_append] at l2; exact l2, (Fr.set in_foot.2.2.2.1).trans (by rw [List.nil_append] at l3; exact l3)⟩
  have s1 : sSetIx dSetD (eUn (dFld [6] "over") (eVar 0)) (eVar 1) (eC (.bl true)) [some (.ref q.a), some (.int n), none, none] M = .nx [some (.ref q.a), some (.int n), none, none] N := St.setIx (f := dSetD) rfl (St.un rfl (f_ov A.ob)) rfl e1
  have hit : (iSeq (eUn (fItems mkF) (eUn (dFld [6] "drafts") (eVar 0)))) [some (.ref q.a), some (.int n), none, none] N = .ok (.vals (L.map fun b => .tup [.int b.n, .ref (pl b.n)])) N := by
    have := nd_items AN.dr
    rw [y_iseq, St.un (St.un rfl (f_dr AN.ob)) this, y_iseq_f]
    unfold dnd
    rw [List.map_map]
    rfl
  unfold m_Log_pass_on b_Log_pass_on
  rw [y_fn, St.seq (a := sSetIx dSetD (eUn (dFld [6] "over") (eVar 0)) (eVar 1) (eC (.bl true))) (e := env0 4 [.ref q.a, .int n]) s1 rfl, z_for, hit, y_for_v]
  exact l1
end
end K80
-- T19a
namespace K80
open PySem L2 T2
/-! ### what is passed on, in plain -/
def key (b : Br) : Int × List D := (b.n, b.ps)
theorem key_n {L L' : List Br} (h : L.map key = L'.map key) : L.map Br.n = L'.map Br.n := by
  have := congrArg (fun l => l.map Prod.fst) h
  simpa [List.map_map, Function.comp_def, key] using this
theorem key_u {L L' : List Br} (h : L.map key = L'.map key) : L.map Br.u = L'.map Br.u := by
  have e : ∀ l : List Br, l.map Br.u = (l.map key).map fun x : Int × List D => D.tup [.int x.1, .tup x.2] := fun l => by rw [List.map_map]; rfl
  rw [e, e, h]
theorem lasts_key : ∀ {U U' : List Br} {i : Nat}, U.map Br.n = U'.map Br.n → lasts i U = lasts i U'
  | [], [], _, _ => rfl
  | [], _ :: _, _, h => by simp at h
  | _ :: _, [], _, h => by simp at h
  | u :: U, v :: V, i, h => by
    rw [List.map_cons, List.map_cons] at h
    have h1 := (List.cons.inj h).1
    rw [lasts, lasts, h1, lasts_key (List.cons.inj h).2]
theorem LgAt.congr {M : MH} {bk : D} {q : Lp} {pl : Int → Nat} {op op' : Int → Bool} {k : Nat} {L L' U U' : List Br} {W : List Int} (A : LgAt M bk q pl op k L U W) (hL : L.map key = L'.map key) (hU : U.map key = U'.map key) (ho : op = op') : LgAt M bk q pl op' k L' U' W ∧ foot q pl L' = foot q pl L := by
  subst ho
  have hd : dnd pl L' = dnd pl L := by
    have := congrArg (fun l => l.map fun x : Int × List D => (⟨x.1, .ref (pl x.1)⟩ : Nd)) hL
    symm
    simpa [List.map_map, Function.comp_def, key, dnd] using this
  have hf : foot q pl L' = foot q pl L := by
    have := congrArg (fun l => l.map fun x : Int × List D => pl x.1) hL
    unfold foot
    have e : (L'.map fun b => pl b.n) = L.map fun b => pl b.n := by
      symm
      simpa [List.map_map, Function.comp_def, key] using this
    rw [e]
  refine ⟨⟨A.ob, by rw [← key_u hU]; exact A.un, by rw [hd]; exact A.dr, A.ov, A.wr, by rw [← lasts_key (key_n hU)]; exact A.la, fun b hb => ?_, by rw [hf]; exact A.nd⟩, hf⟩
  have : key b ∈ L.map key := by rw [hL]; exact List.mem_map.mpr ⟨b, hb, rfl⟩
  obtain ⟨c, hc, e⟩ := List.mem_map.mp this
  have e1 : c.n = b.n := congrArg Prod.fst e
  have e2 : c.ps = b.ps := congrArg Prod.snd e
  rw [← e1, ← e2]
  exact A.ps c hc
theorem key_ne {b c : Br} (h : key b = key c) : b.ne = c.ne := by
  have : b.ps = c.ps := congrArg Prod.snd h
  unfold Br.ne
  rw [this]
section
variable {p : Int → Bool} {f g : Br → Br}
theorem fl_all (hg : ∀ b, (g b).n = b.n) (hk : ∀ b, key (g b) = key (f b)) : ∀ {l : List Br}, (∀ b ∈ l, p b.n = (f b).ov) →
    (flD true p (l.map g)).map key = ((l.map f).dropWhile fun b => b.ov).map key ∧ (flU true p (l.map g)).map key = (((l.map f).takeWhile fun b => b.ov).filter fun b => b.ne).map key
  | [], _ => ⟨rfl, rfl⟩
  | b :: l, h => by
    have h1 := h b List.mem_cons_self
    obtain ⟨i1, i2⟩ := fl_all hg hk (l := l) fun c hc => h c (List.mem_cons_of_mem _ hc)
    rw [List.map_cons, List.map_cons, List.dropWhile_cons, List.takeWhile_cons]
    unfold flD flU
    rw [hg, h1, key_ne (hk b)]
    cases ho : (f b).ov with
    | true =>
      simp only [if_true]
      refine ⟨i1, ?_⟩
      rw [List.filter_cons]
      cases (f b).ne with
      | true => simp only [if_true, List.map_cons]; rw [i2, hk]
      | false => simp only [Bool.false_eq_true, if_false]; exact i2
    | false =>
      simp only [Bool.false_eq_true, if_false, if_true, List.map_cons, List.filter_nil, List.map_nil]
      refine ⟨?_, trivial⟩
      rw [hk, List.map_map, List.map_map]
      congr 1
      exact List.map_congr_left fun c _ => hk c
theorem fl_early (hg : ∀ b, (g b).n = b.n) (hk : ∀ b, key (g b) = key (f b)) : ∀ {B : List Br}, (∀ b ∈ B, p b.n = (f b).ov) → (∀ b ∈ B, b.ov = true → f b = b) →
    (flD true p ((eD B).map g)).map key = (eD (B.map f)).map key ∧ (eU B ++ flU true p ((eD B).map g)).map key = (eU (B.map f)).map key
  | [], _, _ => ⟨rfl, rfl⟩
  | b :: B, h, hf => by
    obtain ⟨i1, i2⟩ := fl_early hg hk (B := B) (fun c hc => h c (List.mem_cons_of_mem _ hc)) (fun c hc => hf c (List.mem_cons_of_mem _ hc))
    cases ho : b.ov with
    | true =>
      have e := hf b List.mem_cons_self ho
      have d1 : eD (b :: B) = eD B := by unfold eD; rw [List.dropWhile_cons, ho, if_pos rfl]
      have d2 : eD ((b :: B).map f) = eD (B.map f) := by unfold eD; rw [List.map_cons, List.dropWhile_cons, e, ho, if_pos rfl]
      have u1 : eU (b :: B) = (if b.ne = true then [b] else []) ++ eU B := by unfold eU; rw [List.takeWhile_cons, ho, if_pos rfl, List.filter_cons]; split <;> rfl
      have u2 : eU ((b :: B).map f) = (if b.ne = true then [b] else []) ++ eU (B.map f) := by unfold eU; rw [List.map_cons, List.takeWhile_cons, e, ho, if_pos rfl, List.filter_cons]; split <;> rfl
      rw [d1, d2, u1, u2]
      refine ⟨i1, ?_⟩
      rw [List.append_assoc, List.map_append, i2, ← List.map_append]
    | false =>
      have d1 : eD (b :: B) = b :: B := by unfold eD; rw [List.dropWhile_cons, ho, if_neg (by simp)]
      have u1 : eU (b :: B) = [] := by unfold eU; rw [List.takeWhile_cons, ho, if_neg (by simp)]; rfl
      rw [d1, u1, List.nil_append]
      exact fl_all hg hk (l := b :: B) h
theorem fl_late (hg : ∀ b, (g b).n = b.n) (hk : ∀ b, key (g b) = key (f b)) : ∀ {B : List Br}, (∀ b ∈ B, p b.n = (f b).ov) → (∀ b ∈ B, b.ov = true → f b = b) →
    (flD false p ((opn B).map g)).map key = (opn (B.map f)).map key ∧ (flU false p ((opn B).map g)).map key = (((opn B).map f).filter fun b => b.ov && b.ne).map key
  | [], _, _ => ⟨rfl, rfl⟩
  | b :: B, h, hf => by
    obtain ⟨i1, i2⟩ := fl_late hg hk (B := B) (fun c hc => h c (List.mem_cons_of_mem _ hc)) (fun c hc => hf c (List.mem_cons_of_mem _ hc))
    have h1 := h b List.mem_cons_self
    cases ho : b.ov with
    | true =>
      have e := hf b List.mem_cons_self ho
      have d1 : opn (b :: B) = opn B := by unfold opn; rw [List.filter_cons, ho, if_neg (by simp)]
      have d2 : opn ((b :: B).map f) = opn (B.map f) := by unfold opn; rw [List.map_cons, List.filter_cons, e, ho, if_neg (by simp)]
      rw [d1, d2]
      exact ⟨i1, i2⟩
    | false =>
      have d1 : opn (b :: B) = b :: opn B := by unfold opn; rw [List.filter_cons, ho, if_pos (by simp)]
      have d2 : opn ((b :: B).map f) = (if (f b).ov = true then [] else [f b]) ++ opn (B.map f) := by unfold opn; rw [List.map_cons, List.filter_cons]; cases (f b).ov <;> rfl
      rw [d1, d2, List.map_cons, List.map_cons, List.filter_cons]
      unfold flD flU
      rw [hg, h1, key_ne (hk b)]
      cases hv : (f b).ov with
      | true =>
        simp only [if_true, Bool.true_and, List.nil_append]
        refine ⟨i1, ?_⟩
        cases (f b).ne with
        | true => simp only [if_true, List.map_cons]; rw [i2, hk]
        | false => simp only [Bool.false_eq_true, if_false]; exact i2
      | false =>
        simp only [Bool.false_eq_true, if_false, Bool.false_and, List.map_cons, List.cons_append, List.nil_append]
        exact ⟨by rw [i1, hk], i2⟩
end
/-! the log's lists, by the book's word -/
def LB (wn : Str) (B : List Br) : List Br := if wn = "begin" then eD B else opn B
def UB (wn : Str) (B : List Br) : List Br := if wn = "begin" then eU B else dn B
def ovB (B : List Br) (n : Int) : Bool := B.any fun b => decide (b.n = n) && b.ov
theorem ovB_at {B : List Br} (I : Inv B) {b : Br} (hb : b ∈ B) : ovB B b.n = b.ov := by
  unfold ovB
  cases ho : b.ov with
  | true => exact List.any_eq_true.mpr ⟨b, hb, by rw [ho]; simp⟩
  | false =>
    rw [List.any_eq_false]
    intro c hc z
    simp only [Bool.and_eq_true, decide_eq_true_eq] at z
    rw [I.same hc hb z.1, ho] at z
    exact absurd z.2 (by simp)
theorem LB_mem {wn : Str} {B : List Br} {b : Br} (h : b ∈ LB wn B) : b ∈ B := by
  unfold LB at h
  split at h
  · exact (List.dropWhile_sublist _).subset h
  · exact (opn_mem.mp h).1
theorem LB_sub {wn : Str} {B : List Br} : (LB wn B).Sublist B := by
  unfold LB
  split
  · exact List.dropWhile_sublist _
  · exact List.filter_sublist
theorem UB_sub {wn : Str} {B : List Br} : (UB wn B).Sublist B := by
  unfold UB
  split
  · exact List.Sublist.trans List.filter_sublist (List.takeWhile_sublist _)
  · exact List.filter_sublist
theorem LB_open {wn : Str} {B : List Br} {b : Br} (h : b ∈ B) (ho : b.ov = false) : b ∈ LB wn B := by
  unfold LB
  split
  · have : ∀ {B : List Br}, b ∈ B → b ∈ eD B := by
      intro B
      induction B with
      | nil => intro h; cases h
      | cons x B ih =>
        intro h
        unfold eD at ih ⊢
        rw [List.dropWhile_cons]
        split
        · rename_i hx
          rcases List.mem_cons.mp h with rfl | h
          · rw [ho] at hx; cases hx
          · exact ih h
        · exact h
    exact this h
  · exact opn_mem.mpr ⟨h, ho⟩
theorem UB_over {wn : Str} {B : List Br} {b : Br} (h : b ∈ UB wn B) : b.ov = true := by
  unfold UB at h
  split at h
  · have : ∀ {B : List Br}, b ∈ B.takeWhile (fun b => b.ov) → b.ov = true := by
      intro B
      induction B with
      | nil => intro h; cases h
      | cons x B ih =>
        intro h
        rw [List.takeWhile_cons] at h
        split at h
        · rcases List.mem_cons.mp h with rfl | h
          · assumption
          · exact ih h
        · cases h
    exact this (List.mem_filter.mp h).1
  · exact (dn_mem.mp h).2.1
/-- what is in the drafts is no unit -/
theorem LB_UB {wn : Str} {B : List Br} (I : Inv B) : ∀ b ∈ LB wn B, b.n ∉ (UB wn B).map Br.n := by
  intro b hb z
  obtain ⟨c, hc, e⟩ := List.mem_map.mp z
  have hcB := UB_sub.subset hc
  have := I.same hcB (LB_mem hb) e
  subst this
  unfold LB at hb
  unfold UB at hc
  split at hb
  · rename_i hw
    rw [if_pos hw] at hc
    have hc' := (List.mem_filter.mp hc).1
    have nd : (B.map Br.n).Nodup := I.nd
    rw [← List.takeWhile_append_dropWhile (p := fun b => b.ov) (l := B), List.map_append, List.nodup_append] at nd
    exact nd.2.2 c.n (List.mem_map.mpr ⟨c, hc', rfl⟩) c.n (List.mem_map.mpr ⟨c, hb, rfl⟩) rfl
  · rename_i hw
    rw [if_neg hw] at hc
    have h1 := (opn_mem.mp hb).2
    have h2 := (dn_mem.mp hc).2.1
    rw [h1] at h2; cases h2
/-- an end or a taking back, passed on -/
theorem fl_next {wn : Str} {B : List Br} (I : Inv B) {b0 : Br} (hb : b0 ∈ B) (ho : b0.ov = false) {f g : Br → Br} (hg : ∀ b, (g b).n = b.n) (hk : ∀ b, key (g b) = key (f b)) (hf : ∀ b, f b = if b.n = b0.n then f b else b) (hv : ∀ b, b.n = b0.n → (f b).ov = true) (hd : (dn (B.map f)).map key = (dn B ++ ((opn B).map f).filter fun b => b.ov && b.ne).map key) :
    (flD (decide (wn = "begin")) (opx (ovB B) b0.n) ((LB wn B).map g)).map key = (LB wn (B.map f)).map key ∧ (UB wn B ++ flU (decide (wn = "begin")) (opx (ovB B) b0.n) ((LB wn B).map g)).map key = (UB wn (B.map f)).map key := by
  have hp : ∀ b ∈ B, opx (ovB B) b0.n b.n = (f b).ov := fun b hb' => by
    unfold opx
    by_cases e : b.n = b0.n
    · rw [hv b e, decide_eq_true e]; rfl
    · rw [decide_eq_false e, ovB_at I hb', Bool.false_or, hf b, if_neg e]
  have hf2 : ∀ b ∈ B, b.ov = true → f b = b := fun b hb' h => by
    rw [hf b, if_neg]
    intro e
    rw [I.same hb' hb e, ho] at h
    cases h
  unfold LB UB
  by_cases hw : wn = "begin"
  · rw [decide_eq_true hw, if_pos hw, if_pos hw, if_pos hw, if_pos hw]
    exact fl_early hg hk hp hf2
  · rw [decide_eq_false hw, if_neg hw, if_neg hw, if_neg hw, if_neg hw]
    obtain ⟨h1, h2⟩ := fl_late hg hk hp hf2
    exact ⟨h1, by rw [List.map_append, h2, hd, List.map_append]⟩
end K80
-- T19a
namespace K80
open PySem L2 T2
/-! ### the calls at a log -/
structure LogB (M : MH) (wn wh kp cf ct : Str) (q : Lp) (S : List Nat) (k : Nat) (B : List Br) : Prop where
  ex : ∃ pl, S = foot q pl (LB wn B) ∧ LgAt M (bkO wn wh kp cf ct) q pl (ovB B) k (LB wn B) (UB wn B) ((dn B).map Br.n)
structure Bd (k : Nat) (B : List Br) : Prop where
  l : B.length ≤ k
  ps : ∀ b ∈ B, b.ps.length ≤ 9 * k
  k : k ≤ 100
def ClOk : Cl → Prop
  | .wr _ st cs => Pd 4 st ∧ (∀ c ∈ cs, ChOk c) ∧ cs.length ≤ 3
  | .un _ cs => (∀ c ∈ cs, ChOk c) ∧ cs.length ≤ 6
  | _ => True
theorem por_len3 {wh kp : Str} {st : D} {cs : List Ch} (h : ∀ c ∈ cs, ChOk c) (hl : cs.length ≤ 3) : (porL wh kp st cs).flatten.length ≤ 9 := by
  unfold porL
  split
  · have := flat_len (f := fun c : Ch => c.im :: sums kp c.df) (k := 3) (l := cs) fun c hc => by
      have := sums_len (kp := kp) (h c hc)
      rw [List.length_cons]; omega
    omega
  · have := flat_len (f := fun c : Ch => sums kp c.df) (k := 2) (l := cs) fun c hc => sums_len (h c hc)
    rw [List.flatten_cons, List.length_append, List.length_cons, List.flatten_nil, List.length_nil]; omega
theorem Bd.next {k : Nat} {wh kp : Str} {B : List Br} {c : Cl} (b : Bd k B) (co : ClOk c) (hk : k + 1 ≤ 100) : Bd (k + 1) (next wh kp B c) := by
  have bl := b.l
  cases c with
  | beg n => exact ⟨by show (B ++ [_]).length ≤ k + 1; rw [List.length_append, List.length_singleton]; omega, fun x hx => by
      rcases List.mem_append.mp hx with hx | hx
      · have := b.ps x hx; omega
      · obtain rfl := List.mem_singleton.mp hx; simp, hk⟩
  | wr n st cs => exact ⟨by show (B.map _).length ≤ k + 1; rw [List.length_map]; omega, fun x hx => by
      obtain ⟨y, hy, rfl⟩ := List.mem_map.mp hx
      have h1 := b.ps y hy
      have h2 := por_len3 (wh := wh) (kp := kp) (st := st) co.2.1 co.2.2
      unfold bWr
      split
      · rw [List.length_append]; omega
      · omega, hk⟩
  | un n cs => exact ⟨by show B.length ≤ k + 1; omega, fun x hx => by have := b.ps x hx; omega, hk⟩
  | en n => exact ⟨by show (B.map _).length ≤ k + 1; rw [List.length_map]; omega, fun x hx => by
      obtain ⟨y, hy, rfl⟩ := List.mem_map.mp hx
      have h1 := b.ps y hy
      unfold bEn
      split <;> (show y.ps.length ≤ _; omega), hk⟩
  | bk n => exact ⟨by show (B.map _).length ≤ k + 1; rw [List.length_map]; omega, fun x hx => by
      obtain ⟨y, hy, rfl⟩ := List.mem_map.mp hx
      have h1 := b.ps y hy
      unfold bBk
      split
      · simp
      · omega, hk⟩
theorem nget_dnd {pl : Int → Nat} {n : Int} : ∀ {L : List Br}, n ∈ L.map Br.n → nGet (dnd pl L) n = some ⟨n, .ref (pl n)⟩
  | [], h => by cases h
  | b :: L, h => by
    unfold dnd nGet
    rw [List.map_cons, List.find?_cons]
    by_cases e : b.n = n
    · rw [e]
      simp
    · rw [List.map_cons] at h
      have h := (List.mem_cons.mp h).resolve_left (Ne.symm e)
      rw [decide_eq_false e]
      exact nget_dnd h
theorem one_of {f : Br → Br} {P : Br → Bool} {b0 : Br} : ∀ {l : List Br}, (l.map Br.n).Nodup → b0 ∈ l → (∀ b ∈ l, b.n ≠ b0.n → P (f b) = false) → (l.map f).filter P = if P (f b0) = true then [f b0] else []
  | [], _, h, _ => by cases h
  | x :: l, nd, h, hp => by
    rw [List.map_cons, List.nodup_cons] at nd
    rw [List.map_cons, List.filter_cons]
    rcases List.mem_cons.mp h with rfl | h
    · have : (l.map f).filter P = [] := by
        rw [List.filter_eq_nil_iff]
        intro y hy
        obtain ⟨b, hb, rfl⟩ := List.mem_map.mp hy
        rw [hp b (List.mem_cons_of_mem _ hb) (fun z => nd.1 (List.mem_map.mpr ⟨b, hb, z⟩))]
        simp
      rw [this]
    · have hx := hp x List.mem_cons_self (fun z => nd.1 (List.mem_map.mpr ⟨b0, h, z.symm⟩))
      rw [hx, if_neg (by simp)]
      exact one_of nd.2 h fun b hb => hp b (List.mem_cons_of_mem _ hb)
theorem any_map_ov {f : Br → Br} (hn : ∀ b, (f b).n = b.n) (ho : ∀ b, (f b).ov = b.ov) (B : List Br) : ovB (B.map f) = ovB B := by
  funext m
  unfold ovB
  rw [List.any_map]
  congr 1
  funext b
  show (decide ((f b).n = m) && (f b).ov) = _
  rw [hn, ho]
theorem LB_map {f : Br → Br} (ho : ∀ b, (f b).ov = b.ov) (wn : Str) (B : List Br) : LB wn (B.map f) = (LB wn B).map f := by
  have e : (fun b : Br => b.ov) ∘ f = fun b => b.ov := funext ho
  unfold LB
  split
  · unfold eD
    induction B with
    | nil => rfl
    | cons x B ih =>
      rw [List.map_cons, List.dropWhile_cons, List.dropWhile_cons, ho]
      split
      · exact ih
      · rfl
  · unfold opn
    rw [List.filter_map]
    congr 1
    exact List.filter_congr fun b _ => by show (!(f b).ov) = _; rw [ho]
theorem UB_map {f : Br → Br} (ho : ∀ b, (f b).ov = b.ov) (hf : ∀ b, b.ov = true → f b = b) (wn : Str) (B : List Br) : UB wn (B.map f) = UB wn B := by
  unfold UB
  split
  · unfold eU
    induction B with
    | nil => rfl
    | cons x B ih =>
      rw [List.map_cons, List.takeWhile_cons, List.takeWhile_cons, ho]
      split
      · rename_i h
        rw [hf x h, List.filter_cons, List.filter_cons, ih]
      · rfl
  · unfold dn
    induction B with
    | nil => rfl
    | cons x B ih =>
      rw [List.map_cons, List.filter_cons, List.filter_cons, ih]
      cases h : x.ov with
      | true => rw [hf x h, h]
      | false => rw [ho, h]; simp
section
variable {M : MH} {wn wh kp cf ct : Str} {q : Lp} {pl : Int → Nat} {op : Int → Bool} {k : Nat} {L U B : List Br} {W : List Int} {n : Int} {S : List Nat}
theorem qF {x y : Str} (hx : PyData.strOk x = true) (hy : PyData.strOk y = true) (h : x ≠ y) {M : MH} : dEq (.str x) (.str y) M = .ok (.bl false) M := by rw [eqS hx hy, decide_eq_false h]
theorem qT {x : Str} (hx : PyData.strOk x = true) {M : MH} : dEq (.str x) (.str x) M = .ok (.bl true) M := by rw [eqS hx hx, decide_eq_true rfl]
theorem wok_b : PyData.strOk ("begin" : Str) = true := by decide +kernel
theorem wok_w : PyData.strOk ("wrote" : Str) = true := by decide +kernel
theorem wok_u : PyData.strOk ("undone" : Str) = true := by decide +kernel
theorem wok_e : PyData.strOk ("end" : Str) = true := by decide +kernel
theorem wok_k : PyData.strOk ("back" : Str) = true := by decide +kernel
theorem wok_r : PyData.strOk ("write" : Str) = true := by decide +kernel
/-! wrote -/
theorem wr_loop (hw : PyData.strOk wn = true) (hne : wn ≠ "write") {p : Nat} {st : D} {csd : D} (hg : nGet (dnd pl L) n = some ⟨n, .ref p⟩) (h1 : p ≠ q.a) (h2 : p ≠ q.d) : ∀ (ls : List (List D)) (ps : List D) (M : MH) (x4 : Option D), M[q.a]? = some (lgO (bkO wn wh kp cf ct) q) → M[q.d]? = some (ndO (dnd pl L)) → M[p]? = some (.lst ps) → ps.length + ls.flatten.length ≤ 1000 →
    ∃ M' y4, forV (tgName 4) lp_Log_wrote_1 (ls.map D.fro) [some (.ref q.a), some (.int n), some st, some csd, x4] M = .nx [some (.ref q.a), some (.int n), some st, some csd, y4] M' ∧ M'[p]? = some (.lst (ps ++ ls.flatten)) ∧ Fr [p] M M'
  | [], ps, M, x4, _, _, hp, _ => ⟨M, x4, by rw [List.map_nil, z_fv0], by rw [List.flatten_nil, List.append_nil]; exact hp, Fr.refl⟩
  | l :: ls, ps, M, x4, ho, hd, hp, hl => by
    rw [List.flatten_cons, List.length_append] at hl
    have ix := nd_ix hd hg
    have b : lp_Log_wrote_1 [some (.ref q.a), some (.int n), some st, some csd, some (.fro l)] M = .nx [some (.ref q.a), some (.int n), some st, some csd, some (.fro l)] (M.set p (.lst (ps ++ l))) :=
      St.ifF (St.val (St.bin (f := dEq) (St.un (St.un rfl (f_bk ho)) b_wn) rfl (qF hw wok_r hne))) (St.sdo (St.ext (St.bin (f := dIxA) (St.un rfl (f_dr ho)) rfl ix) hp rfl hp rfl (by omega)))
    obtain ⟨M', y4, i1, i2, i3⟩ := wr_loop hw hne hg h1 h2 ls (ps ++ l) (M.set p (.lst (ps ++ l))) (some (.fro l)) (at_off ho h1) (at_off hd h2) (at_set hp) (by rw [List.length_append]; omega)
    refine ⟨M', y4, ?_, by rw [i2, List.flatten_cons, List.append_assoc], (Fr.set (by simp)).trans i3⟩
    rw [List.map_cons]
    exact St.fvN (tg := tgName 4) rfl b i1
theorem wrote_run (hw : PyData.strOk wn = true) (hne : wn ≠ "write") (hk : PyData.strOk kp = true) (hwh : PyData.strOk wh = true) {st : D} {cs : List Ch} (hs : Pd 4 st) (hd : ∀ c ∈ cs, ChOk c) (hl : cs.length ≤ 6) (A : LgAt M (bkO wn wh kp cf ct) q pl op k L U W) (hnd : (L.map Br.n).Nodup) {b0 : Br} (hb : b0 ∈ L) (hps : b0.ps.length ≤ 900) :
    ∃ M', m_Log_wrote [.ref q.a, .int b0.n, st, .fro (cs.map Ch.d)] M = .ok .non M' ∧ LgAt M' (bkO wn wh kp cf ct) q pl op k (L.map (bWr wh kp b0.n st cs)) U W ∧ Fr (foot q pl L) M M' ∧ foot q pl (L.map (bWr wh kp b0.n st cs)) = foot q pl L := by
  obtain ⟨n6, np, nn⟩ := ne6 A.nd
  have hg := nget_dnd (pl := pl) (L := L) (n := b0.n) (List.mem_map.mpr ⟨b0, hb, rfl⟩)
  have pr := por_run (cs := cs) A.ob hk hwh hs hd hl
  have pln := (por_len (wh := wh) (kp := kp) (st := st) hd hl).2.2
  obtain ⟨M', y4, l1, l2, l3⟩ := wr_loop (wh := wh) (kp := kp) (cf := cf) (ct := ct) (q := q) (st := st) (csd := .fro (cs.map Ch.d)) hw hne hg (np b0 hb).a.symm (np b0 hb).d.symm (porL wh kp st cs) b0.ps M none A.ob A.dr (A.ps b0 hb) (by omega)
  have hdn : dnd pl (L.map (bWr wh kp b0.n st cs)) = dnd pl L := by
    unfold dnd
    rw [List.map_map]
    exact List.map_congr_left fun b _ => by show (⟨(bWr wh kp b0.n st cs b).n, _⟩ : Nd) = _; rw [bWr_n]
  have hft : foot q pl (L.map (bWr wh kp b0.n st cs)) = foot q pl L := by
    unfold foot
    rw [List.map_map]
    congr 6
    exact List.map_congr_left fun b _ => by show pl (bWr wh kp b0.n st cs b).n = _; rw [bWr_n]
  have o : ∀ {i : Nat} {u : MO}, M[i]? = some u → i ≠ pl b0.n → M'[i]? = some u := fun h1 h2 => l3.keep _ _ h1 (by simpa using h2)
  obtain ⟨es, g1, g2, g3⟩ := A.ov
  refine ⟨M', ?_, ⟨o A.ob (np b0 hb).a, o A.un (np b0 hb).u, by rw [hdn]; exact o A.dr (np b0 hb).d, ⟨es, o g1 (np b0 hb).o, g2, g3⟩, o A.wr (np b0 hb).w, o A.la (np b0 hb).l, fun b' hb' => ?_, by rw [hft]; exact A.nd⟩, l3.mono fun i hi => .inl (by obtain rfl := List.mem_singleton.mp hi; exact in_foot.2.2.2.2.2.2 b0 hb), hft⟩
  · refine St.fnN ?_ (e1 := [some (.ref q.a), some (.int b0.n), some st, some (.fro (cs.map Ch.d)), y4])
    exact for_nx (M0 := M) (ds := (porL wh kp st cs).map D.fro) (St.itF (St.meth (o := .ref q.a) (ds := [st, .fro (cs.map Ch.d)]) (M1 := M) rfl (ins_lg A.ob) (by decide +kernel) (St.cons rfl (St.cons rfl St.nil)) rfl pr)) l1
  · obtain ⟨b, hbL, rfl⟩ := List.mem_map.mp hb'
    rw [bWr_n]
    by_cases e : b.n = b0.n
    · have : b = b0 := by
        have h : ∀ {l : List Br}, (l.map Br.n).Nodup → b ∈ l → b0 ∈ l → b = b0 := by
          intro l
          induction l with
          | nil => intro _ h; cases h
          | cons x l ih =>
            intro nd h1 h2
            rw [List.map_cons, List.nodup_cons] at nd
            rcases List.mem_cons.mp h1 with a1 | a1
            · rcases List.mem_cons.mp h2 with a2 | a2
              · rw [a1, a2]
              · exact absurd (List.mem_map.mpr ⟨b0, a2, by rw [← e, a1]⟩) nd.1
            · rcases List.mem_cons.mp h2 with a2 | a2
              · exact absurd (List.mem_map.mpr ⟨b, a1, by rw [e, a2]⟩) nd.1
              · exact ih nd.2 a1 a2
        exact h hnd hbL hb
      subst this
      rw [l2]
      unfold bWr
      rw [if_pos rfl]
    · have : bWr wh kp b0.n st cs b = b := by unfold bWr; rw [if_neg e]
      rw [this]
      refine o (A.ps b hbL) fun z => ?_
      have h : ∀ {l : List Br}, (l.map fun b => pl b.n).Nodup → b ∈ l → b0 ∈ l → b = b0 := by
        intro l
        induction l with
        | nil => intro _ h; cases h
        | cons x l ih =>
          intro nd h1 h2
          rw [List.map_cons, List.nodup_cons] at nd
          rcases List.mem_cons.mp h1 with a1 | a1
          · rcases List.mem_cons.mp h2 with a2 | a2
            · rw [a1, a2]
            · exact absurd (List.mem_map.mpr ⟨b0, a2, by rw [← z, a1]⟩) nd.1
          · rcases List.mem_cons.mp h2 with a2 | a2
            · exact absurd (List.mem_map.mpr ⟨b, a1, by rw [z, a2]⟩) nd.1
            · exact ih nd.2 a1 a2
      exact e (by rw [h nn hbL hb])
end
end K80
-- T19a
namespace K80
open PySem L2 T2
section
variable {M : MH} {wn wh kp cf ct : Str} {q : Lp} {pl : Int → Nat} {op : Int → Bool} {k : Nat} {L U B : List Br} {W : List Int} {n : Int} {S : List Nat}
def clr (n : Int) (b : Br) : Br := if b.n = n then { b with ps := [] } else b
theorem clr_n {n : Int} {b : Br} : (clr n b).n = b.n := by unfold clr; split <;> rfl
theorem meth_in {S : List Nat} {bk : D} {nm : Str} {m : Nat} {f : List D → MH → Res D} {M M' : MH} {e : Env2} {ma : AM} {ds : List D} (h : M[q.a]? = some (lgO bk q)) (h0 : e[0]? = some (some (.ref q.a))) (hn : nm ∉ lgN) (hm : ma e M = .ok ds M) (hl : ds.length + 1 = m) (hr : f (.ref q.a :: ds) M = .ok .non M') : sDo (eMeth 6 nm m f (eVar 0) ma) e M = .nx e M' :=
  St.sdo (St.meth (o := .ref q.a) (var_ok h0) (ins_lg h) hn hm hl hr)
theorem meth_in' {bk : D} {nm : Str} {m : Nat} {f : List D → MH → Res D} {M M' : MH} {e : Env2} {ma : AM} {ds : List D} (h : M[q.a]? = some (lgO bk q)) (h0 : e[0]? = some (some (.ref q.a))) (hn : nm ∉ lgN) (hm : ma e M = .ok ds M) (hl : ds.length + 1 = m) (hr : f (.ref q.a :: ds) M = .ok .non M') : sDo (eMeth 6 nm m f (eVar 0) ma) e M = .nx e M' :=
  St.sdo (St.meth (o := .ref q.a) (var_ok h0) (ins_lg h) hn hm hl hr)
/-- the drafts of a script are emptied -/
theorem clear_run (A : LgAt M (bkO wn wh kp cf ct) q pl op k L U W) (hnd : (L.map Br.n).Nodup) {b0 : Br} (hb : b0 ∈ L) (hl : L.length ≤ 500) :
    ∃ M' pl', (∀ e : Env2, e[0]? = some (some (.ref q.a)) → e[1]? = some (some (.int b0.n)) → sSetIx dSetD (eUn (dFld [6] "drafts") (eVar 0)) (eVar 1) (eLst (eNil)) e M = .nx e M') ∧ LgAt M' (bkO wn wh kp cf ct) q pl' op k (L.map (clr b0.n)) U W ∧ Fr (foot q pl L) M M' ∧ ∀ i ∈ foot q pl' (L.map (clr b0.n)), i ∈ foot q pl L ∨ M.length ≤ i := by
  obtain ⟨n6, np, nn⟩ := ne6 A.nd
  let N : MH := M ++ [.lst []]
  let pl' : Int → Nat := fun m => if m = b0.n then M.length else pl m
  have e2 := nd_set (M := N) (p := q.d) (e := ⟨b0.n, .ref M.length⟩) (at_app A.dr) (by unfold dnd; rw [List.length_map]; omega)
  have hput : nPut (dnd pl L) ⟨b0.n, .ref M.length⟩ = dnd pl' (L.map (clr b0.n)) := by
    unfold nPut
    rw [if_pos (by rw [dnd_n]; exact List.mem_map.mpr ⟨b0, hb, rfl⟩)]
    unfold dnd
    rw [List.map_map, List.map_map]
    refine List.map_congr_left fun b _ => ?_
    show (if b.n = b0.n then (⟨b0.n, .ref M.length⟩ : Nd) else ⟨b.n, .ref (pl b.n)⟩) = ⟨(clr b0.n b).n, .ref (pl' (clr b0.n b).n)⟩
    rw [clr_n]
    by_cases e : b.n = b0.n
    · rw [if_pos e, e]
      show _ = (⟨b0.n, .ref (if b0.n = b0.n then M.length else pl b0.n)⟩ : Nd)
      rw [if_pos rfl]
    · rw [if_neg e]
      show _ = (⟨b.n, .ref (if b.n = b0.n then M.length else pl b.n)⟩ : Nd)
      rw [if_neg e]
  rw [hput] at e2
  have hm : (L.map (clr b0.n)).map (fun b => pl' b.n) = L.map fun b => pl' b.n := by
    rw [List.map_map]
    exact List.map_congr_left fun b _ => by show pl' (clr b0.n b).n = _; rw [clr_n]
  have hpn : ∀ b ∈ L, NeP q (pl' b.n) := fun b hb' => by
    show NeP q (if b.n = b0.n then M.length else pl b.n)
    split
    · obtain ⟨es, g1, _⟩ := A.ov
      exact ⟨at_new A.ob, at_new A.un, at_new A.dr, at_new g1, at_new A.wr, at_new A.la⟩
    · exact np b hb'
  have hnn : (L.map fun b => pl' b.n).Nodup := by
    have : ∀ {l : List Br}, (l.map Br.n).Nodup → (l.map fun b => pl b.n).Nodup → (∀ b ∈ l, pl b.n ≠ M.length) → (l.map fun b => pl' b.n).Nodup := by
      intro l
      induction l with
      | nil => intro _ _ _; exact List.nodup_nil
      | cons x l ih =>
        intro h1 h2 h3
        rw [List.map_cons, List.nodup_cons] at h1 h2 ⊢
        refine ⟨fun z => ?_, ih h1.2 h2.2 fun b hb => h3 b (List.mem_cons_of_mem _ hb)⟩
        obtain ⟨c, hc, e⟩ := List.mem_map.mp z
        have e : (if c.n = b0.n then M.length else pl c.n) = (if x.n = b0.n then M.length else pl x.n) := e
        by_cases a1 : c.n = b0.n
        · by_cases a2 : x.n = b0.n
          · exact h1.1 (List.mem_map.mpr ⟨c, hc, by rw [a1, a2]⟩)
          · rw [if_pos a1, if_neg a2] at e
            exact h3 x List.mem_cons_self e.symm
        · by_cases a2 : x.n = b0.n
          · rw [if_neg a1, if_pos a2] at e
            exact h3 c (List.mem_cons_of_mem _ hc) e
          · rw [if_neg a1, if_neg a2] at e
            exact h2.1 (List.mem_map.mpr ⟨c, hc, e⟩)
    exact this hnd nn fun b hb' => at_new (A.ps b hb')
  have hdl := at_lt A.dr
  refine ⟨N.set q.d (ndO (dnd pl' (L.map (clr b0.n)))), pl', fun e h0 h1 => St.setIx (f := dSetD) (St.lst St.nil) (St.un (var_ok h0) (f_dr (at_app A.ob))) (var_ok h1) e2, ?_, Fr.trans Fr.app (Fr.set in_foot.2.2.1), ?_⟩
  · have o : ∀ {i : Nat} {u : MO}, M[i]? = some u → q.d ≠ i → (N.set q.d (ndO (dnd pl' (L.map (clr b0.n)))))[i]? = some u := fun h1 h2 => at_off (at_app h1) h2
    obtain ⟨es, g1, g2, g3⟩ := A.ov
    refine ⟨o A.ob n6.ad.symm, o A.un n6.ud.symm, at_set (at_app A.dr), ⟨es, o g1 n6.do_, g2, g3⟩, o A.wr n6.dw, o A.la n6.dl, fun b' hb' => ?_, foot_nd n6 (fun b' hb' => ?_) (by rw [hm]; exact hnn)⟩
    · obtain ⟨b, hbL, rfl⟩ := List.mem_map.mp hb'
      rw [clr_n]
      by_cases e : b.n = b0.n
      · have e1 : pl' b.n = M.length := if_pos e
        have e3 : (clr b0.n b).ps = [] := by unfold clr; rw [if_pos e]
        rw [e1, e3]
        exact at_off (by simp [N]) (Nat.ne_of_lt hdl)
      · have e1 : pl' b.n = pl b.n := if_neg e
        have e3 : clr b0.n b = b := by unfold clr; rw [if_neg e]
        rw [e1, e3]
        exact o (A.ps b hbL) (np b hbL).d
    · obtain ⟨b, hbL, rfl⟩ := List.mem_map.mp hb'
      rw [clr_n]
      exact hpn b hbL
  · intro i hi
    unfold foot at hi ⊢
    rw [hm] at hi
    simp only [List.mem_cons] at hi ⊢
    rcases hi with h | h | h | h | h | h | h
    · exact .inl (.inl h)
    · exact .inl (.inr (.inl h))
    · exact .inl (.inr (.inr (.inl h)))
    · exact .inl (.inr (.inr (.inr (.inl h))))
    · exact .inl (.inr (.inr (.inr (.inr (.inl h)))))
    · exact .inl (.inr (.inr (.inr (.inr (.inr (.inl h))))))
    · obtain ⟨b, hbL, e⟩ := List.mem_map.mp h
      have e : (if b.n = b0.n then M.length else pl b.n) = i := e
      split at e
      · right; omega
      · left
        exact .inr (.inr (.inr (.inr (.inr (.inr (List.mem_map.mpr ⟨b, hbL, e⟩))))))
theorem ovB_next {B : List Br} (I : Inv B) {b0 : Br} (hb : b0 ∈ B) {f : Br → Br} (hf : ∀ b, f b = if b.n = b0.n then f b else b) (hn : ∀ b, (f b).n = b.n) (hv : ∀ b, b.n = b0.n → (f b).ov = true) : opx (ovB B) b0.n = ovB (B.map f) := by
  funext m
  unfold opx
  by_cases e : m = b0.n
  · rw [decide_eq_true e, Bool.true_or]
    symm
    unfold ovB
    rw [List.any_eq_true]
    exact ⟨f b0, List.mem_map.mpr ⟨b0, hb, rfl⟩, by rw [hn, hv b0 rfl, e]; simp⟩
  · rw [decide_eq_false e, Bool.false_or]
    unfold ovB
    rw [List.any_map]
    congr 1
    funext b
    show _ = (decide ((f b).n = m) && (f b).ov)
    rw [hn]
    by_cases e2 : b.n = b0.n
    · rw [e2, decide_eq_false (Ne.symm e), Bool.false_and, Bool.false_and]
    · rw [hf b, if_neg e2]
theorem foot_sub {pl : Int → Nat} {L L' : List Br} (h : ∀ b ∈ L', b ∈ L) : ∀ i ∈ foot q pl L', i ∈ foot q pl L := fun i hi => by
  unfold foot at hi ⊢
  simp only [List.mem_cons] at hi ⊢
  rcases hi with h' | h' | h' | h' | h' | h' | h'
  · exact .inl h'
  · exact .inr (.inl h')
  · exact .inr (.inr (.inl h'))
  · exact .inr (.inr (.inr (.inl h')))
  · exact .inr (.inr (.inr (.inr (.inl h'))))
  · exact .inr (.inr (.inr (.inr (.inr (.inl h')))))
  · obtain ⟨b, hb, e⟩ := List.mem_map.mp h'
    exact .inr (.inr (.inr (.inr (.inr (.inr (List.mem_map.mpr ⟨b, h b hb, e⟩))))))
theorem LB_nd {wn : Str} (I : Inv B) : ((LB wn B).map Br.n).Nodup := (LB_sub.map _).nodup I.nd
theorem LU_len {wn : Str} : (UB wn B).length ≤ B.length ∧ (LB wn B).length ≤ B.length := ⟨UB_sub.length_le, LB_sub.length_le⟩
theorem back_run (hw : PyData.strOk wn = true) (I : Inv B) (bd : Bd k B) {b0 : Br} (hb : b0 ∈ B) (ho : b0.ov = false) (AB : LogB M wn wh kp cf ct q S k B) :
    ∃ M' S', m_Log_back [.ref q.a, .int b0.n] M = .ok .non M' ∧ LogB M' wn wh kp cf ct q S' (k + 1) (B.map (bBk b0.n)) ∧ Fr S M M' ∧ ∀ i ∈ S', i ∈ S ∨ M.length ≤ i := by
  obtain ⟨pl, rfl, A⟩ := AB.ex
  have hk : k ≤ 100 := by have := bd.k; omega
  have ll := LU_len (B := B) (wn := wn)
  have bl := bd.l
  obtain ⟨M1, pl1, c1, A1, f1, g1⟩ := clear_run A (LB_nd I) (LB_open (wn := wn) hb ho) (by omega)
  have hnd1 : (((LB wn B).map (clr b0.n)).map Br.n).Nodup := by rw [map_n fun b => clr_n]; exact LB_nd I
  obtain ⟨M2, p1, A2, f2⟩ := pass_run (n := b0.n) hw A1 hnd1 (fun b hb' => by
    obtain ⟨c, hc, rfl⟩ := List.mem_map.mp hb'
    rw [clr_n]
    exact LB_UB I c hc) (by rw [List.length_map]; omega) (by omega)
  have hkey : ∀ b, key (clr b0.n b) = key (bBk b0.n b) := fun b => by unfold clr bBk key; split <;> rfl
  obtain ⟨k1, k2⟩ := fl_next (wn := wn) I hb ho (f := bBk b0.n) (g := clr b0.n) (fun b => clr_n) hkey (fun b => bBk_if _ _) (fun b e => by unfold bBk; rw [if_pos e]) (by
    rw [dn_bk I hb ho]
    have : ((opn B).map (bBk b0.n)).filter (fun b => b.ov && b.ne) = [] := by
      rw [List.filter_eq_nil_iff]
      intro y hy
      obtain ⟨b, hb', rfl⟩ := List.mem_map.mp hy
      unfold bBk
      split
      · simp [Br.ne]
      · rw [(opn_mem.mp hb').2]; simp
    rw [this, List.append_nil])
  obtain ⟨A3, hft⟩ := A2.congr k1 k2 (ovB_next I hb (fun b => bBk_if _ _) (fun b => bBk_n) (fun b e => by unfold bBk; rw [if_pos e]))
  refine ⟨M2, _, ?_, ⟨⟨pl1, rfl, by rw [dn_bk I hb ho]; exact A3⟩⟩, f1.seq f2 g1, fun i hi => ?_⟩
  · exact St.fnN (e1 := [some (.ref q.a), some (.int b0.n)]) (St.seq (c1 _ rfl rfl) (meth_in' A1.ob rfl (by decide +kernel) (St.cons rfl St.nil) rfl p1))
  · rw [hft] at hi
    exact g1 i (foot_sub flD_sub i hi)
theorem end_run (hw : PyData.strOk wn = true) (I : Inv B) (bd : Bd k B) {b0 : Br} (hb : b0 ∈ B) (ho : b0.ov = false) (AB : LogB M wn wh kp cf ct q S k B) :
    ∃ M' S', m_Log_end [.ref q.a, .int b0.n] M = .ok .non M' ∧ LogB M' wn wh kp cf ct q S' (k + 1) (B.map (bEn b0.n)) ∧ Fr S M M' ∧ ∀ i ∈ S', i ∈ S ∨ M.length ≤ i := by
  obtain ⟨pl, rfl, A⟩ := AB.ex
  have hk : k ≤ 100 := by have := bd.k; omega
  have ll := LU_len (B := B) (wn := wn)
  have bl := bd.l
  have hbL := LB_open (wn := wn) hb ho
  obtain ⟨n6, np, nn⟩ := ne6 A.nd
  have i1 := nd_in (n := b0.n) A.la
  rw [lasts_n, decide_eq_false (LB_UB I b0 hbL)] at i1
  have i2 := nd_ix A.dr (nget_dnd (pl := pl) (List.mem_map.mpr ⟨b0, hbL, rfl⟩))
  have i3 : dLen [.ref (pl b0.n)] M = .ok (.int b0.ps.length) M := by rw [o_lenR, A.ps b0 hbL]
  have c1 : bOr (bVal (eBin dInA (eVar 1) (eUn (dFld [6] "lasts") (eVar 0)))) (bVal (eBin dGt (eArgs dLen (eCons (eBin dIxA (eUn (dFld [6] "drafts") (eVar 0)) (eVar 1)) (eNil))) (eC (.int 0)))) [some (.ref q.a), some (.int b0.n)] M = .ok (false || b0.ne) M := by
    refine St.bor (St.val (St.bin (f := dInA) rfl (St.un rfl (f_ls A.ob)) i1)) (St.val (St.bin (f := dGt) (St.args (St.cons (St.bin (f := dIxA) (St.un rfl (f_dr A.ob)) rfl i2) St.nil) i3) rfl ?_))
    rw [o_gt]
    congr 2
    unfold Br.ne
    cases b0.ps with
    | nil => rfl
    | cons a l => rw [decide_eq_true (by rw [List.length_cons]; omega)]; rfl
  rw [Bool.false_or] at c1
  have wl : ((dn B).map Br.n).length ≤ B.length := by rw [List.length_map]; exact List.length_filter_le _ _
  have hdn := dn_en I hb ho
  -- the list of those that have written
  have key1 : ∃ M1, (sIf (bOr (bVal (eBin dInA (eVar 1) (eUn (dFld [6] "lasts") (eVar 0)))) (bVal (eBin dGt (eArgs dLen (eCons (eBin dIxA (eUn (dFld [6] "drafts") (eVar 0)) (eVar 1)) (eNil))) (eC (.int 0))))) (sDo (eApp (eUn (dFld [6] "written") (eVar 0)) (eVar 1))) (sNil)) [some (.ref q.a), some (.int b0.n)] M = .nx [some (.ref q.a), some (.int b0.n)] M1 ∧ LgAt M1 (bkO wn wh kp cf ct) q pl (ovB B) k (LB wn B) (UB wn B) ((dn (B.map (bEn b0.n))).map Br.n) ∧ Fr [q.w] M M1 := by
    rw [hdn]
    cases hne : b0.ne with
    | true =>
      rw [hne] at c1
      have o : ∀ {i : Nat} {u : MO}, M[i]? = some u → q.w ≠ i → (M.set q.w (.lst (((dn B).map Br.n).map D.int ++ [.int b0.n])))[i]? = some u := fun h1 h2 => at_off h1 h2
      obtain ⟨es, g1, g2, g3⟩ := A.ov
      refine ⟨M.set q.w (.lst (((dn B).map Br.n).map D.int ++ [.int b0.n])), St.ifT c1 (St.sdo (St.app (St.un rfl (f_wr A.ob)) ⟨_, A.wr⟩ rfl A.wr (by rw [List.length_map]; omega))), ⟨o A.ob n6.aw.symm, o A.un n6.uw.symm, o A.dr n6.dw.symm, ⟨es, o g1 n6.ow.symm, g2, g3⟩, ?_, o A.la n6.wl, fun b hb' => o (A.ps b hb') (np b hb').w, A.nd⟩, Fr.set (by simp)⟩
      rw [if_pos rfl, List.map_append, List.map_append]
      exact at_set A.wr
    | false =>
      rw [hne] at c1
      refine ⟨M, St.ifF c1 y_nil, ?_, Fr.refl⟩
      rw [if_neg (by simp)]
      exact A
  obtain ⟨M1, s1, A1, f1⟩ := key1
  obtain ⟨M2, p1, A2, f2⟩ := pass_run (n := b0.n) hw A1 (LB_nd I) (fun b hb' => LB_UB I b hb') (by omega) (by omega)
  have hkey : ∀ b, key ((fun b => b) b) = key (bEn b0.n b) := fun b => by unfold bEn key; split <;> rfl
  obtain ⟨k1, k2⟩ := fl_next (wn := wn) I hb ho (f := bEn b0.n) (g := fun b => b) (fun b => rfl) hkey (fun b => bEn_if _ _) (fun b e => by unfold bEn; rw [if_pos e]) (by
    have hone := one_of (f := bEn b0.n) (P := fun b => b.ov && b.ne) (b0 := b0) (l := opn B) ((List.filter_sublist.map _).nodup I.nd) (opn_mem.mpr ⟨hb, ho⟩) (fun b hb' e => by
      unfold bEn
      rw [if_neg e, (opn_mem.mp hb').2]
      rfl)
    have e1 : bEn b0.n b0 = { b0 with ov := true } := by unfold bEn; rw [if_pos rfl]
    rw [hone, hdn, e1]
    have e2 : (({ b0 with ov := true } : Br).ov && ({ b0 with ov := true } : Br).ne) = b0.ne := rfl
    rw [e2]
    split
    · rfl
    · rw [List.append_nil])
  rw [List.map_id'] at k1 k2
  obtain ⟨A3, hft⟩ := A2.congr k1 k2 (ovB_next I hb (fun b => bEn_if _ _) (fun b => bEn_n) (fun b e => by unfold bEn; rw [if_pos e]))
  refine ⟨M2, _, ?_, ⟨⟨pl, rfl, A3⟩⟩, (f1.mono fun i hi => .inl (by obtain rfl := List.mem_singleton.mp hi; exact in_foot.2.2.2.2.1)).trans f2, fun i hi => ?_⟩
  · exact St.fnN (e1 := [some (.ref q.a), some (.int b0.n)]) (St.seq s1 (meth_in' A1.ob rfl (by decide +kernel) (St.cons rfl St.nil) rfl p1))
  · rw [hft] at hi
    exact .inl (foot_sub flD_sub i hi)
end
end K80
-- T19a
namespace K80
open PySem L2 T2
section
variable {M : MH} {wn wh kp cf ct : Str} {q : Lp} {k : Nat} {B : List Br} {S : List Nat}
theorem drop_snoc {p : Br → Bool} {x : Br} (hx : p x = false) : ∀ {B : List Br}, (B ++ [x]).dropWhile p = B.dropWhile p ++ [x] ∧ (B ++ [x]).takeWhile p = B.takeWhile p
  | [] => by rw [List.nil_append, List.dropWhile_cons, List.takeWhile_cons, hx]; exact ⟨rfl, rfl⟩
  | b :: B => by
    obtain ⟨i1, i2⟩ := drop_snoc (p := p) hx (B := B)
    rw [List.cons_append, List.dropWhile_cons, List.dropWhile_cons, List.takeWhile_cons, List.takeWhile_cons]
    split
    · exact ⟨i1, by rw [i2]⟩
    · exact ⟨rfl, rfl⟩
theorem LB_snoc (wn : Str) (n : Int) : LB wn (B ++ [⟨n, [], false, false⟩]) = LB wn B ++ [⟨n, [], false, false⟩] := by
  unfold LB
  split
  · exact (drop_snoc rfl).1
  · unfold opn
    rw [List.filter_append]
    rfl
theorem dn_snoc (n : Int) : dn (B ++ [⟨n, [], false, false⟩]) = dn B := by
  unfold dn
  rw [List.filter_append]
  exact List.append_nil _
theorem UB_snoc (wn : Str) (n : Int) : UB wn (B ++ [⟨n, [], false, false⟩]) = UB wn B := by
  unfold UB
  split
  · unfold eU
    rw [(drop_snoc rfl).2]
  · exact dn_snoc n
theorem ovB_snoc (n : Int) : ovB (B ++ [⟨n, [], false, false⟩]) = ovB B := by
  funext m
  unfold ovB
  rw [List.any_append]
  simp
theorem bWr_ov {wh kp : Str} {n : Int} {st : D} {cs : List Ch} (b : Br) : (bWr wh kp n st cs b).ov = b.ov := by unfold bWr; split <;> rfl
theorem dn_map {f : Br → Br} (ho : ∀ b, (f b).ov = b.ov) (hf : ∀ b ∈ B, b.ov = true → f b = b) : dn (B.map f) = dn B := by
  unfold dn
  induction B with
  | nil => rfl
  | cons x B ih =>
    rw [List.map_cons, List.filter_cons, List.filter_cons, ih fun b hb => hf b (List.mem_cons_of_mem _ hb)]
    cases h : x.ov with
    | true => rw [hf x List.mem_cons_self h, h]
    | false => rw [ho, h]; simp
theorem UB_map' {f : Br → Br} (ho : ∀ b, (f b).ov = b.ov) (hf : ∀ b ∈ B, b.ov = true → f b = b) (wn : Str) : UB wn (B.map f) = UB wn B := by
  unfold UB
  split
  · unfold eU
    induction B with
    | nil => rfl
    | cons x B ih =>
      rw [List.map_cons, List.takeWhile_cons, List.takeWhile_cons, ho]
      split
      · rename_i h
        rw [hf x List.mem_cons_self h, List.filter_cons, List.filter_cons, ih fun b hb => hf b (List.mem_cons_of_mem _ hb)]
      · rfl
  · exact dn_map ho hf
theorem ixn {c : Cl} {M : MH} : dIxA c.d (.int 1) M = .ok (.int c.n) M := by cases c <;> exact ixT1
theorem ixw {c : Cl} {M : MH} : dIxA c.d (.int 0) M = .ok (.str c.w) M := by cases c <;> exact ixT0
theorem call_run (hw : wn = "begin" ∨ wn = "end") (hk : kp = "own" ∨ kp = "logged") (hh : wh = "image" ∨ wh = "statement") (I : Inv B) (bd : Bd k B) {c : Cl} (m : May B c) (co : ClOk c) (AB : LogB M wn wh kp cf ct q S k B) :
    ∃ M' S', m_law_run_calls [.ref q.a, .fro [c.d]] M = .ok .non M' ∧ LogB M' wn wh kp cf ct q S' (k + 1) (next wh kp B c) ∧ Fr S M M' ∧ ∀ i ∈ S', i ∈ S ∨ M.length ≤ i := by
  have hw1 : PyData.strOk wn = true := by rcases hw with rfl | rfl <;> decide +kernel
  have hw2 : wn ≠ "write" := by rcases hw with rfl | rfl <;> decide
  have hk1 : PyData.strOk kp = true := by rcases hk with rfl | rfl <;> decide +kernel
  have hh1 : PyData.strOk wh = true := by rcases hh with rfl | rfl <;> decide +kernel
  obtain ⟨pl, hS, A⟩ := AB.ex
  have kk : k ≤ 100 := by have := bd.k; omega
  have ll := LU_len (B := B) (wn := wn)
  have bl := bd.l
  have fin : ∀ {M' : MH} (hb : lp_law_run_calls_1 [some (.ref q.a), some (.fro [c.d]), some c.d] M = .nx [some (.ref q.a), some (.fro [c.d]), some c.d] M'), m_law_run_calls [.ref q.a, .fro [c.d]] M = .ok .non M' := fun hb => by
    refine St.fnN (e1 := [some (.ref q.a), some (.fro [c.d]), some c.d]) ?_
    exact for_nx (M0 := M) (ds := [c.d]) rfl (St.fvN (tg := tgName 2) rfl hb z_fv0)
  have cw : ∀ {x : Str} {b : Bool}, dEq (.str c.w) (.str x) M = .ok (.bl b) M → bVal (eBin dEq (eBin dIxA (eVar 2) (eC (.int 0))) (eC (.str x))) [some (.ref q.a), some (.fro [c.d]), some c.d] M = .ok b M := fun h => St.val (St.bin (f := dEq) (St.bin (f := dIxA) rfl rfl ixw) rfl h)
  have an : eBin dIxA (eVar 2) (eC (.int 1)) [some (.ref q.a), some (.fro [c.d]), some c.d] M = .ok (.int c.n) M := St.bin (f := dIxA) rfl rfl ixn
  cases c with
  | beg n =>
    have m : ∀ b ∈ B, b.n < n := m
    obtain ⟨M', pl', r1, A1, f1, g1⟩ := begin_run (n := n) A (fun z => by
      obtain ⟨b, hb, e⟩ := List.mem_map.mp z
      have := m b (LB_mem hb)
      omega) (by omega)
    refine ⟨M', _, fin (St.ifT (cw (qT wok_b)) (meth_in' A.ob rfl (by decide +kernel) (St.cons an St.nil) rfl r1)), ⟨pl', rfl, ?_⟩, by rw [hS]; exact f1, fun i hi => ?_⟩
    · show LgAt M' _ q pl' (ovB (B ++ [_])) (k + 1) (LB wn (B ++ [_])) (UB wn (B ++ [_])) ((dn (B ++ [_])).map Br.n)
      rw [LB_snoc, UB_snoc, dn_snoc, ovB_snoc]
      exact A1.up (by omega)
    · have hi : i ∈ foot q pl' (LB wn (B ++ [_])) := hi
      rw [LB_snoc] at hi
      rw [hS]
      exact g1 i hi
  | wr n st cs =>
    obtain ⟨⟨b0, hb, rfl, ho⟩, hc0, h1, h2⟩ : (∃ b ∈ B, b.n = n ∧ b.ov = false) ∧ cs ≠ [] ∧ (∀ b ∈ B, b.n ≠ n → b.ov = false → b.ps = []) ∧ (∀ b ∈ B, n < b.n → b.ps = []) := m
    obtain ⟨o1, o2, o3⟩ : Pd 4 st ∧ (∀ c ∈ cs, ChOk c) ∧ cs.length ≤ 3 := co
    have pb := bd.ps b0 hb
    have hps : b0.ps.length ≤ 900 := by omega
    obtain ⟨M', r1, A1, f1, e1⟩ := wrote_run hw1 hw2 hk1 hh1 o1 o2 (Nat.le_trans o3 (by decide)) A (LB_nd I) (LB_open (wn := wn) hb ho) hps
    have hf : ∀ b ∈ B, b.ov = true → bWr wh kp b0.n st cs b = b := fun b hb' h => by
      unfold bWr
      rw [if_neg]
      intro e
      rw [I.same hb' hb e, ho] at h
      cases h
    refine ⟨M', S, fin (St.ifF (cw (qF wok_w wok_b (by decide))) (St.ifT (cw (qT wok_w)) (meth_in' A.ob rfl (by decide +kernel) (St.cons an (St.cons (St.bin (f := dIxA) rfl rfl ixT2) (St.cons (St.args (St.cons (St.bin (f := dIxA) rfl rfl ixT3) St.nil) o_listF) St.nil))) rfl r1))), ⟨pl, ?_, ?_⟩, by rw [hS]; exact f1, fun i hi => .inl hi⟩
    · show S = foot q pl (LB wn (B.map _))
      rw [LB_map bWr_ov, e1, hS]
    · show LgAt M' _ q pl (ovB (B.map _)) (k + 1) (LB wn (B.map _)) (UB wn (B.map _)) ((dn (B.map _)).map Br.n)
      rw [LB_map bWr_ov, UB_map' bWr_ov hf, dn_map bWr_ov hf, any_map_ov (fun b => bWr_n) bWr_ov]
      exact A1.up (by omega)
  | un n cs =>
    refine ⟨M, S, fin (St.ifF (cw (qF wok_u wok_b (by decide))) (St.ifF (cw (qF wok_u wok_w (by decide))) (St.ifT (cw (qT wok_u)) (meth_in' A.ob rfl (by decide +kernel) (St.cons an (St.cons (St.args (St.cons (St.bin (f := dIxA) rfl rfl ixT2) St.nil) o_listF) St.nil)) rfl ?_)))), ⟨pl, hS, A.up (by omega)⟩, Fr.refl, fun i hi => .inl hi⟩
    refine St.fnN (e1 := [some (.ref q.a), some (.int n), some (.fro (cs.map Ch.d))]) (St.ifF ?_ y_nil)
    show bAnd _ _ _ M = _
    rw [y_and, St.val (St.bin (f := dEq) (St.un (St.un rfl (f_bk A.ob)) b_wn) rfl (qF hw1 wok_r hw2)), y_and_f]
  | en n =>
    obtain ⟨b0, hb, rfl, ho⟩ : ∃ b ∈ B, b.n = n ∧ b.ov = false := m
    obtain ⟨M', S', r1, r2, r3, r4⟩ := end_run hw1 I bd hb ho AB
    exact ⟨M', S', fin (St.ifF (cw (qF wok_e wok_b (by decide))) (St.ifF (cw (qF wok_e wok_w (by decide))) (St.ifF (cw (qF wok_e wok_u (by decide))) (St.ifT (cw (qT wok_e)) (meth_in' A.ob rfl (by decide +kernel) (St.cons an St.nil) rfl r1))))), r2, r3, r4⟩
  | bk n =>
    obtain ⟨b0, hb, rfl, ho⟩ : ∃ b ∈ B, b.n = n ∧ b.ov = false := m
    obtain ⟨M', S', r1, r2, r3, r4⟩ := back_run hw1 I bd hb ho AB
    exact ⟨M', S', fin (St.ifF (cw (qF wok_k wok_b (by decide))) (St.ifF (cw (qF wok_k wok_w (by decide))) (St.ifF (cw (qF wok_k wok_u (by decide))) (St.ifF (cw (qF wok_k wok_e (by decide))) (meth_in' A.ob rfl (by decide +kernel) (St.cons an St.nil) rfl r1))))), r2, r3, r4⟩
/-! what is read -/
theorem len_run (AB : LogB M wn wh kp cf ct q S k B) : m_Log___len__ [.ref q.a] M = .ok (.int (UB wn B).length) M := by
  obtain ⟨pl, hS, A⟩ := AB.ex
  refine St.fn (St.ret (St.args (St.cons (St.un rfl (f_us A.ob)) St.nil) ?_))
  rw [o_lenR, A.un]
  show Res.ok (D.int (((UB wn B).map Br.u).length : Nat)) M = _
  rw [List.length_map]
theorem u_pd {b : Br} (h : ∀ a ∈ b.ps, Pd 5 a) (hl : b.ps.length ≤ 1000) : Pd 7 b.u := pd_2 pd_int (pd_tup hl h)
theorem unit_at (AB : LogB M wn wh kp cf ct q S k B) {i : Nat} {b : Br} (hi : (UB wn B)[i]? = some b) {G : MH} : m_Log_unit [.ref q.a, .int (i : Nat)] (M ++ G) = .ok b.u (M ++ G) := by
  obtain ⟨pl, hS, A⟩ := AB.ex
  have hl := (List.getElem?_eq_some_iff.mp hi).1
  have ob := at_app (G := G) A.ob
  have un := at_app (G := G) A.un
  have elen : dLen [.ref q.u] (M ++ G) = .ok (.int (UB wn B).length) (M ++ G) := by
    rw [o_lenR, un]
    show Res.ok (D.int (((UB wn B).map Br.u).length : Nat)) (M ++ G) = _
    rw [List.length_map]
  have c1 : bOr (bVal (eBin dLt (eVar 1) (eUn (dFld [6] "start") (eVar 0)))) (bVal (eBin dGe (eVar 1) (eArgs dLen (eCons (eUn (dFld [6] "units") (eVar 0)) (eNil))))) [some (.ref q.a), some (.int (i : Nat))] (M ++ G) = .ok (false || false) (M ++ G) := by
    refine St.bor (St.val (St.bin (f := dLt) rfl (St.un rfl (f_st ob)) ?_)) (St.val (St.bin (f := dGe) rfl (St.args (St.cons (St.un rfl (f_us ob)) St.nil) elen) ?_))
    · rw [o_lt, decide_eq_false (by omega)]
    · rw [o_ge, decide_eq_false (by omega)]
  exact St.fn (St.seq (St.ifF c1 y_nil) (St.ret (St.bin (f := dIxA) (St.un rfl (f_us ob)) rfl (SeqOf.ix (t := "list") (xs := (UB wn B).map Br.u) (.inr ⟨rfl, by rw [o_li, un]⟩) (by rw [List.getElem?_map, hi]; rfl)))))
theorem listed_run {s : Bx} {T : MH} (AB : LogB (s.obj :: T) wn wh kp cf ct q S k B) (hp : ∀ b ∈ UB wn B, Pd 7 b.u) (hl : (UB wn B).length ≤ 500) : m_law_listed [.ref q.a] (s.obj :: T) = .ok (.fro ((UB wn B).map Br.u)) (s.obj :: T) := by
  obtain ⟨pl, hS, A⟩ := AB.ex
  have e1 : eLenO 6 m_Log___len__ (eCons (eVar 0) (eNil)) [some (.ref q.a), none] (s.obj :: T) = .ok (.int (UB wn B).length) (s.obj :: T) := by
    exact St.lenO (St.cons rfl St.nil) (ins_lg A.ob) (len_run AB) (by omega)
  let xs := (List.range (UB wn B).length)
  have hr : rangeD 0 (UB wn B).length = xs.map fun i => D.int (i : Nat) := rng_map
  have lc : eLc (iRange1 (eLenO 6 m_Log___len__ (eCons (eVar 0) (eNil)))) (tgName 1) bYes (eMeth 6 "unit" 2 m_Log_unit (eVar 0) (eCons (eVar 1) (eNil))) [1] [some (.ref q.a), none] (s.obj :: T) = .ok (.ref (s.obj :: T).length) ((s.obj :: T) ++ [.lst ((UB wn B).map Br.u)]) := by
    have hi := St.itR e1 (by omega) (by omega)
    rw [Int.toNat_natCast, hr] at hi
    have := lcV_all (tg := tgName 1) (tt := bYes) (m := eMeth 6 "unit" 2 m_Log_unit (eVar 0) (eCons (eVar 1) (eNil))) (e := [some (.ref q.a), none]) (M0 := s.obj :: T) (f := fun i : Nat => D.int (i : Nat)) (g := fun i => (UB wn B)[i]?.map Br.u) xs [] (fun i hi' acc => by
      have hi2 : i < (UB wn B).length := List.mem_range.mp hi'
      have hb := List.getElem?_eq_getElem hi2
      rw [hb]
      have := unit_at AB hb (G := [.lst acc])
      have mm := St.meth (c := 6) (nm := "unit") (o := .ref q.a) (ds := [.int (i : Nat)]) (e := [some (.ref q.a), some (.int (i : Nat))]) (mo := eVar 0) (ma := eCons (eVar 1) (eNil)) (M := (s.obj :: T) ++ [.lst acc]) rfl (ins_lg (at_app A.ob)) (by decide +kernel) (St.cons rfl St.nil) rfl this
      rw [u_step]
      show (noX (bYes _ _)).bind _ = _
      rw [o_yes, u_nox, y_bind_ok, if_pos rfl]
      exact (congrArg (fun r => (noX r).bind fun y M2 => Res.ok (some y) M2) mm).trans rfl) (by simp [xs]; omega)
    rw [z_lc, hi, y_lc_v]
    refine this.trans ?_
    rw [List.nil_append]
    congr 4
    exact fm_get (UB wn B) Br.u
  refine frzB_lst (s' := s) (G := [.lst ((UB wn B).map Br.u)]) (p := (s.obj :: T).length) ?_ (by simp) (by
    show ((s.obj :: T) ++ [_])[_]? = _
    simp) (fun a ha => by
    obtain ⟨b, hb, rfl⟩ := List.mem_map.mp ha
    exact low_pd (hp b hb))
  exact St.fn (St.ret lc)
end
end K80
-- T19a
namespace K80
open PySem L2 T2
section
variable {M : MH} {wn wh kp cf ct : Str} {q : Lp} {k : Nat} {B : List Br} {S : List Nat}
/-! a log is made -/
def qAt (n : Nat) : Lp := ⟨n, n + 1, n + 2, n + 3, n + 4, n + 5⟩
theorem linit_run {bk : D} : m_Log___init__ [.ref M.length, bk] (M ++ [.ob 6 [] []]) = .ok .non (M ++ [lgO bk (qAt M.length), .lst [], .dk [] [], .dk [] [], .lst [], .dk [] []]) := by
  refine St.fnN (e1 := [some (.ref M.length), some bk]) ?_
  refine St.seq (St.putG (G := []) (G' := []) (ns := []) (ds := []) (ns' := ["book"]) (ds' := [bk]) rfl rfl (by kernel_rfl)) ?_
  refine St.seq (St.putG (G := []) (G' := []) (ns' := ["book", "start"]) (ds' := [bk, .int 0]) rfl rfl (by kernel_rfl)) ?_
  refine St.seq (St.putG (G := []) (ns' := ["book", "start", "units"]) (ds' := [bk, .int 0, .ref (M.length + 1)]) rfl St.lstG (by kernel_rfl)) ?_
  refine St.seq (St.putG (ns' := ["book", "start", "units", "drafts"]) (ds' := [bk, .int 0, .ref (M.length + 1), .ref (M.length + 2)]) rfl St.dnG (by kernel_rfl)) ?_
  refine St.seq (St.putG (ns' := ["book", "start", "units", "drafts", "over"]) (ds' := [bk, .int 0, .ref (M.length + 1), .ref (M.length + 2), .ref (M.length + 3)]) rfl St.dnG (by kernel_rfl)) ?_
  refine St.seq (St.putG (ns' := ["book", "start", "units", "drafts", "over", "written"]) (ds' := [bk, .int 0, .ref (M.length + 1), .ref (M.length + 2), .ref (M.length + 3), .ref (M.length + 4)]) rfl St.lstG (by kernel_rfl)) ?_
  exact St.putG (ns' := lgN) (ds' := lgV bk (qAt M.length)) rfl St.dnG (by kernel_rfl)
theorem lmake_run {bk : D} {e : Env2} {ma : AM} (h : ma e M = .ok [bk] M) : eMake 6 2 m_Log___init__ ma e M = .ok (.ref M.length) (M ++ [lgO bk (qAt M.length), .lst [], .dk [] [], .dk [] [], .lst [], .dk [] []]) :=
  St.mk h rfl linit_run
theorem LB_nil {wn : Str} : LB wn [] = [] := by unfold LB eD opn; split <;> rfl
theorem UB_nil {wn : Str} : UB wn [] = [] := by unfold UB eU dn; split <;> rfl
theorem log_new : LogB (M ++ [lgO (bkO wn wh kp cf ct) (qAt M.length), .lst [], .dk [] [], .dk [] [], .lst [], .dk [] []]) wn wh kp cf ct (qAt M.length) [M.length, M.length + 1, M.length + 2, M.length + 3, M.length + 4, M.length + 5] 0 [] := by
  refine ⟨fun _ => 0, ?_, ?_⟩
  · rw [LB_nil]; rfl
  · rw [LB_nil, UB_nil]
    refine ⟨g_0, g_1, g_2, ⟨[], g_3, by simp, fun n => rfl⟩, g_4, g_5, fun b hb => (by cases hb), ?_⟩
    show [M.length, M.length + 1, M.length + 2, M.length + 3, M.length + 4, M.length + 5].Nodup
    simp
/-! how many scripts are behind so many units -/
theorem lasts_get {b : Br} : ∀ {U1 U2 : List Br} {j : Nat}, ((U1 ++ b :: U2).map Br.n).Nodup → nGet (lasts j (U1 ++ b :: U2)) b.n = some ⟨b.n, .int ((j + U1.length + 1 : Nat) : Int)⟩
  | [], U2, j, _ => by
    unfold nGet
    rw [List.nil_append, lasts, List.find?_cons]
    simp
  | u :: U1, U2, j, nd => by
    rw [List.cons_append, List.map_cons, List.nodup_cons] at nd
    have hne : u.n ≠ b.n := fun z => nd.1 (List.mem_map.mpr ⟨b, by simp, z.symm⟩)
    unfold nGet
    rw [List.cons_append, lasts, List.find?_cons]
    rw [decide_eq_false hne]
    have := lasts_get (U1 := U1) (U2 := U2) (j := j + 1) nd.2
    unfold nGet at this
    rw [List.length_cons, show j + (U1.length + 1) + 1 = j + 1 + U1.length + 1 by omega]
    exact this
theorem sc_body {U1 U2 : List Br} {b : Br} {ob : D} (ho : M[q.a]? = some (lgO ob q)) (hl : M[q.l]? = some (ndO (lasts 0 (U1 ++ b :: U2)))) (nd : ((U1 ++ b :: U2).map Br.n).Nodup) {m : Nat} {c : Int} :
    lp_Log_script_count_1 [some (.ref q.a), some (.int (m : Nat)), some (.int c), some (.int b.n)] M = if m ≤ U1.length then .bk [some (.ref q.a), some (.int (m : Nat)), some (.int c), some (.int b.n)] M else .nx [some (.ref q.a), some (.int (m : Nat)), some (.int (c + 1)), some (.int b.n)] M := by
  have i1 := nd_notin (n := b.n) hl
  rw [lasts_n, decide_eq_true (List.mem_map.mpr ⟨b, by simp, rfl⟩)] at i1
  have i2 := nd_ix hl (lasts_get nd)
  have c1 : bOr (bVal (eBin dNotInA (eVar 3) (eUn (dFld [6] "lasts") (eVar 0)))) (bVal (eBin dGt (eBin dIxA (eUn (dFld [6] "lasts") (eVar 0)) (eVar 3)) (eVar 1))) [some (.ref q.a), some (.int (m : Nat)), some (.int c), some (.int b.n)] M = .ok (false || decide (m ≤ U1.length)) M := by
    refine St.bor (St.val (St.bin (f := dNotInA) rfl (St.un rfl (f_ls ho)) i1)) (St.val (St.bin (f := dGt) (St.bin (f := dIxA) (St.un rfl (f_ls ho)) rfl i2) rfl ?_))
    rw [o_gt]
    congr 2
    exact decide_eq_decide.mpr (by omega)
  rw [Bool.false_or] at c1
  by_cases h : m ≤ U1.length
  · rw [if_pos h]
    rw [decide_eq_true h] at c1
    unfold lp_Log_script_count_1
    rw [y_seq, St.ifT c1 rfl]
    rfl
  · rw [if_neg h]
    rw [decide_eq_false h] at c1
    exact St.seq (St.ifF c1 y_nil) (St.aug rfl rfl)
theorem sc_loop {ob : D} {U : List Br} (ho : M[q.a]? = some (lgO ob q)) (hl : M[q.l]? = some (ndO (lasts 0 U))) (nd : (U.map Br.n).Nodup) {m : Nat} : ∀ (U2 U1 : List Br) (x3 : Option D), U = U1 ++ U2 → U1.length ≤ m →
    ∃ y3, forV (tgName 3) lp_Log_script_count_1 (U2.map fun b => .int b.n) [some (.ref q.a), some (.int (m : Nat)), some (.int (U1.length : Nat)), x3] M = .nx [some (.ref q.a), some (.int (m : Nat)), some (.int ((min m U.length : Nat) : Int)), y3] M
  | [], U1, x3, hU, hm => ⟨x3, by rw [List.append_nil] at hU; rw [List.map_nil, z_fv0, hU, Nat.min_eq_right hm]⟩
  | b :: U2, U1, x3, hU, hm => by
    subst hU
    have hb := sc_body (m := m) (c := (U1.length : Nat)) ho hl nd
    rw [List.map_cons]
    by_cases h : m ≤ U1.length
    · rw [if_pos h] at hb
      refine ⟨some (.int b.n), ?_⟩
      rw [St.fvB (tg := tgName 3) rfl hb]
      have : min m (U1 ++ b :: U2).length = U1.length := by rw [List.length_append, List.length_cons]; omega
      rw [this]
    · rw [if_neg h] at hb
      obtain ⟨y3, ih⟩ := sc_loop ho hl nd (m := m) U2 (U1 ++ [b]) (some (.int b.n)) (by simp) (by rw [List.length_append, List.length_singleton]; omega)
      refine ⟨y3, St.fvN (tg := tgName 3) rfl hb ?_⟩
      rw [List.length_append, List.length_singleton] at ih
      exact ih
theorem count_run (AB : LogB M wn wh kp cf ct q S k B) (I : Inv B) (hU : UB wn B = dn B) {m : Nat} (hm : m ≤ (dn B).length) : m_Log_script_count [.ref q.a, .int (m : Nat)] M = .ok (.int (m : Nat)) M := by
  obtain ⟨pl, hS, A⟩ := AB.ex
  have la := A.la
  rw [hU] at la
  have nd : ((dn B).map Br.n).Nodup := (List.filter_sublist.map _).nodup I.nd
  obtain ⟨y3, lp⟩ := sc_loop A.ob la nd (m := m) (dn B) [] none rfl (Nat.zero_le _)
  have hwr : listItems M (.ref q.w) = some ((dn B).map fun b => .int b.n) := by
    rw [o_li, A.wr]
    show some (((dn B).map Br.n).map D.int) = _
    rw [List.map_map]
    rfl
  have s2 : sForI (iSeq (eUn (dFld [6] "written") (eVar 0))) (tgName 3) lp_Log_script_count_1 [some (.ref q.a), some (.int (m : Nat)), some (.int 0), none] M = .nx [some (.ref q.a), some (.int (m : Nat)), some (.int ((min m (dn B).length : Nat) : Int)), y3] M := by
    refine (for_items_I (I := fun e => ∃ c x3, e = [some (.ref q.a), some (.int (m : Nat)), some (.int c), x3]) (St.un rfl (f_wr A.ob)) hwr ⟨_, _, rfl⟩ (fun x hx e e1 hI ht e2 M2 hb => ?_)).trans lp
    obtain ⟨c, x3, rfl⟩ := hI
    obtain ⟨b, hb', rfl⟩ := List.mem_map.mp hx
    obtain ⟨U1, U2, hs⟩ := List.append_of_mem hb'
    have ht : some [some (.ref q.a), some (.int (m : Nat)), some (.int c), some (.int b.n)] = some e1 := ht
    cases ht
    rw [hs] at la nd
    rw [sc_body (m := m) (c := c) A.ob la nd] at hb
    split at hb
    · rcases hb with h | h <;> cases h
    · rcases hb with h | h
      · cases h; exact ⟨rfl, _, _, rfl⟩
      · cases h
  refine St.fn (St.seq (St.set rfl) (St.seq s2 ?_))
  rw [Nat.min_eq_left hm]
  exact St.ret rfl
end
end K80
-- T19a
namespace K80
open PySem L2 T2
/-! ### the units that the law expects -/
def rowL (b : Br) : List D := [.int b.n, .fro (if b.ov = true then [] else b.ps), .bl b.ov, .bl b.w]
structure LwAt (M : MH) (u dr en : Nat) (pl : Int → Nat) (B : List Br) (E : List Int) : Prop where
  hun : M[u]? = some (.lst ((dn B).map Br.u))
  hdr : M[dr]? = some (.lst (B.map fun b => .ref (pl b.n)))
  hen : M[en]? = some (.lst (E.map D.int))
  ps : ∀ b ∈ B, M[pl b.n]? = some (.lst (rowL b))
  ud : u ≠ dr
  ue : u ≠ en
  de : dr ≠ en
  pu : ∀ b ∈ B, pl b.n ≠ u ∧ pl b.n ≠ dr ∧ pl b.n ≠ en
  pp : ∀ b ∈ B, ∀ c ∈ B, pl b.n = pl c.n → b.n = c.n
section
variable {M : MH} {wh kp : Str} {u dr en : Nat} {pl : Int → Nat} {B : List Br} {E : List Int} {k : Nat}
def cE (wh kp : Str) (cl : D) (u dr en : Nat) (x7 x8 x9 x10 : Option D) : Env2 := [some (.str "end"), some (.str wh), some (.str kp), some cl, some (.ref u), some (.ref dr), some (.ref en), x7, x8, x9, x10]
/-- the one draft -/
theorem one_draft (A : LwAt M u dr en pl B E) (I : Inv B) {b0 : Br} (hb : b0 ∈ B) (hl : B.length ≤ 100) {cl c : D} {x8 x9 x10 : Option D} (hc : ∀ N, dIxA c (.int 1) N = .ok (.int b0.n) N) :
    eBin dIxA (eLc (iSeq (eVar 5)) (tgName 9) (bVal (eBin dEq (eBin dIxA (eVar 9) (eC (.int 0))) (eBin dIxA (eVar 7) (eC (.int 1))))) (eVar 9) [9]) (eC (.int 0)) (cE wh kp cl u dr en (some c) x8 x9 x10) M = .ok (.ref (pl b0.n)) (M ++ [.lst [.ref (pl b0.n)]]) := by
  have lc := lc_all (mo := eVar 5) (tg := tgName 9) (tt := bVal (eBin dEq (eBin dIxA (eVar 9) (eC (.int 0))) (eBin dIxA (eVar 7) (eC (.int 1))))) (m := eVar 9) (vs := [9]) (e := cE wh kp cl u dr en (some c) x8 x9 x10) (M0 := M) (M := M) (l := .ref dr) (f := fun b : Br => D.ref (pl b.n)) (g := fun b => if (decide (b.n = b0.n)) = true then some (D.ref (pl b.n)) else none) (xs := B) rfl (by unfold T2.items; dsimp only; rw [A.hdr]) (fun b hb' acc => by
    have r0 := row_ix (i := 0) (at_app (G := [.lst acc]) (A.ps b hb')) rfl
    have ht : bVal (eBin dEq (eBin dIxA (eVar 9) (eC (.int 0))) (eBin dIxA (eVar 7) (eC (.int 1)))) (cE wh kp cl u dr en (some c) x8 (some (.ref (pl b.n))) x10) (M ++ [.lst acc]) = .ok (decide (b.n = b0.n)) (M ++ [.lst acc]) :=
      St.val (St.bin (f := dEq) (St.bin (f := dIxA) rfl rfl r0) (St.bin (f := dIxA) rfl rfl (hc _)) o_eqi)
    rw [u_step]
    show (noX (bVal _ (cE wh kp cl u dr en (some c) x8 (some (.ref (pl b.n))) x10) _)).bind _ = _
    rw [ht, u_nox, y_bind_ok]
    cases decide (b.n = b0.n) <;> rfl) (by omega)
  have hf : B.filterMap (fun b => if (decide (b.n = b0.n)) = true then some (D.ref (pl b.n)) else none) = [D.ref (pl b0.n)] := by
    have h := fm_if (p := fun b : Br => decide (b.n = b0.n)) (g := fun b : Br => D.ref (pl b.n)) (xs := B)
    rw [h]
    have := one_of (f := fun b => b) (P := fun b => decide (b.n = b0.n)) (b0 := b0) (l := B) I.nd hb (fun b _ e => decide_eq_false e)
    rw [List.map_id', decide_eq_true rfl, if_pos rfl] at this
    rw [this]
    rfl
  rw [hf] at lc
  exact St.bin (f := dIxA) lc rfl (row_ix (i := 0) (M := M ++ [.lst [.ref (pl b0.n)]]) (ds := [.ref (pl b0.n)]) (by simp) rfl)
def clP (wh kp : Str) : Cl → List (List D)
  | .wr _ st cs => porL wh kp st cs
  | _ => []
theorem cp_run {s : Bx} {R : MH} (hs : BxOk s) (hk : kp = "own" ∨ kp = "logged") (hh : wh = "image" ∨ wh = "statement") {c : Cl} (co : ClOk c) :
    m_law_call_portions [.str "end", .str wh, .str kp, c.d] (s.obj :: R) = .ok (.fro ((clP wh kp c).map D.fro)) (s.obj :: R) := by
  have hh1 : PyData.strOk wh = true := by rcases hh with rfl | rfl <;> decide +kernel
  have cw : ∀ {x : Str} {b : Bool}, dEq (.str c.w) (.str x) (s.obj :: R) = .ok (.bl b) (s.obj :: R) → bVal (eBin dEq (eBin dIxA (eVar 3) (eC (.int 0))) (eC (.str x))) [some (.str "end"), some (.str wh), some (.str kp), some c.d] (s.obj :: R) = .ok b (s.obj :: R) := fun h => St.val (St.bin (f := dEq) (St.bin (f := dIxA) rfl rfl ixw) rfl h)
  have we : bAnd (bVal (eBin dEq (eVar 0) (eC (.str "write")))) (bVal (eBin dEq (eVar 1) (eC (.str "image")))) [some (.str "end"), some (.str wh), some (.str kp), some c.d] (s.obj :: R) = .ok false (s.obj :: R) := by
    rw [y_and, St.val (St.bin (f := dEq) rfl rfl (qF wok_e wok_r (by decide))), y_and_f]
  have fin : ∀ {b : Bool}, bVal (eBin dEq (eBin dIxA (eVar 3) (eC (.int 0))) (eC (.str "wrote"))) [some (.str "end"), some (.str wh), some (.str kp), some c.d] (s.obj :: R) = .ok false (s.obj :: R) → bVal (eBin dEq (eBin dIxA (eVar 3) (eC (.int 0))) (eC (.str "undone"))) [some (.str "end"), some (.str wh), some (.str kp), some c.d] (s.obj :: R) = .ok b (s.obj :: R) → m_law_call_portions [.str "end", .str wh, .str kp, c.d] (s.obj :: R) = .ok (.fro []) (s.obj :: R) := fun {b} h1 h2 => by
    refine frzB_low (s' := s) (G := []) (d := .fro []) ?_ trivial
    rw [List.append_nil]
    refine St.fn (St.seq (St.ifF h1 y_nil) (St.seq (St.ifF ?_ y_nil) (St.ret (St.fro St.nil))))
    show bAnd _ _ [some (.str "end"), some (.str wh), some (.str kp), some c.d] _ = _
    rw [y_and, h2]
    cases b
    · exact y_and_f
    · rw [y_and_t]; exact we
  cases c with
  | beg n => exact fin (cw (qF wok_b wok_w (by decide))) (cw (qF wok_b wok_u (by decide)))
  | un n cs => exact fin (cw (qF wok_u wok_w (by decide))) (cw (qT wok_u))
  | en n => exact fin (cw (qF wok_e wok_w (by decide))) (cw (qF wok_e wok_u (by decide)))
  | bk n => exact fin (cw (qF wok_k wok_w (by decide))) (cw (qF wok_k wok_u (by decide)))
  | wr n st cs =>
    obtain ⟨o1, o2, o3⟩ : Pd 4 st ∧ (∀ c ∈ cs, ChOk c) ∧ cs.length ≤ 3 := co
    have pr := lpor_run (T := R) hs hk hh1 o1 o2 (Nat.le_trans o3 (by decide))
    have pp := por_pd (wh := wh) (kp := kp) o1 o2
    refine frzB_low (s' := s) (G := []) (d := .fro ((porL wh kp st cs).map D.fro)) ?_ (low_fro fun a ha => by
      obtain ⟨l, hl, rfl⟩ := List.mem_map.mp ha
      exact low_fro fun b hb => low_pd (pp l hl b hb))
    rw [List.append_nil]
    exact St.fn (seq_rt' (St.ifT (cw (qT wok_w)) (St.ret (St.call (St.cons rfl (St.cons rfl (St.cons (St.bin (f := dIxA) rfl rfl ixT2) (St.cons (St.bin (f := dIxA) rfl rfl ixT3) St.nil)))) rfl pr))))
/-- the parts are laid behind the draft's parts -/
theorem parts_loop {p : Nat} {n : Int} {o w : Bool} {cl : D} {x7 x9 : Option D} : ∀ (ls : List (List D)) (ps : List D) (M : MH) (x10 : Option D), M[p]? = some (.lst [.int n, .fro ps, .bl o, .bl w]) → ps.length + ls.flatten.length ≤ 1000 →
    ∃ M' y10, forV (tgName 10) lp_law_units_due_1 (ls.map D.fro) (cE wh kp cl u dr en x7 (some (.ref p)) x9 x10) M = .nx (cE wh kp cl u dr en x7 (some (.ref p)) x9 y10) M' ∧ M'[p]? = some (.lst [.int n, .fro (ps ++ ls.flatten), .bl o, .bl w]) ∧ Fr [p] M M'
  | [], ps, M, x10, hp, _ => ⟨M, x10, by rw [List.map_nil, z_fv0], by rw [List.flatten_nil, List.append_nil]; exact hp, Fr.refl⟩
  | l :: ls, ps, M, x10, hp, hl => by
    rw [List.flatten_cons, List.length_append] at hl
    have r1 := row_ix (i := 1) hp rfl
    have b : lp_law_units_due_1 (cE wh kp cl u dr en x7 (some (.ref p)) x9 (some (.fro l))) M = .nx (cE wh kp cl u dr en x7 (some (.ref p)) x9 (some (.fro l))) (M.set p (.lst [.int n, .fro (ps ++ l), .bl o, .bl w])) :=
      St.ifF (St.val (St.bin (f := dEq) rfl rfl (qF wok_e wok_r (by decide)))) (St.setIx (f := dSetIx) (St.bin (f := dCat mkF) (St.bin (f := dIxA) rfl rfl r1) rfl (cat_F rfl rfl (by omega))) rfl rfl (row_set (i := 1) hp (by simp)))
    obtain ⟨M', y10, i1, i2, i3⟩ := parts_loop ls (ps ++ l) (M.set p (.lst [.int n, .fro (ps ++ l), .bl o, .bl w])) (some (.fro l)) (at_set hp) (by rw [List.length_append]; omega)
    refine ⟨M', y10, ?_, by rw [i2, List.flatten_cons, List.append_assoc], (Fr.set (by simp)).trans i3⟩
    rw [List.map_cons]
    exact St.fvN (tg := tgName 10) rfl b i1
/-- behind an end all drafts are looked at -/
theorem look_loop {cl : D} {x7 x8 x9 x10 : Option D} {f : Br → Br} {b0 : Br} (I : Inv B) (hb : b0 ∈ B) (hdr : M[dr]? = some (.lst (B.map fun b => .ref (pl b.n)))) (hun : M[u]? = some (.lst ((dn B).map Br.u)))
    (hrow : ∀ b ∈ B, b.n ≠ b0.n → M[pl b.n]? = some (.lst (rowL b))) {ps : List D} {w : Bool} (h0 : M[pl b0.n]? = some (.lst [.int b0.n, .fro ps, .bl true, .bl w]))
    (ud : u ≠ dr) (pu : ∀ b ∈ B, pl b.n ≠ u ∧ pl b.n ≠ dr) (pp : ∀ b ∈ B, ∀ c ∈ B, pl b.n = pl c.n → b.n = c.n) (hl : B.length ≤ 100) :
    ∃ y9 M', sForI (iSeq (eVar 5)) (tgName 9) lp_law_units_due_2 (cE wh kp cl u dr en x7 x8 x9 x10) M = .nx (cE wh kp cl u dr en x7 x8 y9 x10) M' ∧ M' = if ps = [] then M else (M.set u (.lst ((dn B).map Br.u ++ [.tup [.int b0.n, .tup ps]]))).set (pl b0.n) (.lst [.int b0.n, .fro [], .bl true, .bl w]) := by
  obtain ⟨Mq, hMq⟩ : ∃ Mq, Mq = if ps = [] then M else (M.set u (.lst ((dn B).map Br.u ++ [.tup [.int b0.n, .tup ps]]))).set (pl b0.n) (.lst [.int b0.n, .fro [], .bl true, .bl w]) := ⟨_, rfl⟩
  have hnd := I.nd
  have qo : ∀ {i : Nat} {o : MO}, M[i]? = some o → i ≠ u → i ≠ pl b0.n → Mq[i]? = some o := fun h1 h2 h3 => by
    rw [hMq]
    split
    · exact h1
    · exact at_off (at_off h1 h2.symm) h3.symm
  have q0 : Mq[pl b0.n]? = some (.lst [.int b0.n, .fro (if ps = [] then ps else []), .bl true, .bl w]) := by
    rw [hMq]
    split
    · exact h0
    · exact at_set (at_off h0 (pu b0 hb).1.symm)
  -- a draft that does not matter
  have quiet : ∀ {N : MH} {b : Br}, (N[pl b.n]? = some (.lst (rowL b)) ∨ ∃ w', N[pl b.n]? = some (.lst [.int b.n, .fro [], .bl true, .bl w'])) → lp_law_units_due_2 (cE wh kp cl u dr en x7 x8 (some (.ref (pl b.n))) x10) N = .nx (cE wh kp cl u dr en x7 x8 (some (.ref (pl b.n))) x10) N := fun {N b} h => by
    have hh : ∃ (o : Bool) (l : List D) (w' : Bool), N[pl b.n]? = some (.lst [.int b.n, .fro l, .bl o, .bl w']) ∧ (o = true → l = []) := by
      rcases h with h | ⟨w', h⟩
      · exact ⟨b.ov, _, b.w, h, fun e => if_pos e⟩
      · exact ⟨true, [], w', h, fun _ => rfl⟩
    obtain ⟨o, l, w', hr, ho⟩ := hh
    have r2 := row_ix (i := 2) hr rfl
    have r1 := row_ix (i := 1) hr rfl
    have c2 : bVal (eBin dIxA (eVar 9) (eC (.int 2))) (cE wh kp cl u dr en x7 x8 (some (.ref (pl b.n))) x10) N = .ok o N := St.val (St.bin (f := dIxA) rfl rfl r2)
    have c3 : bAnd (bNot (bVal (eBin dIxA (eVar 9) (eC (.int 2))))) (bVal (eBin dEq (eVar 0) (eC (.str "begin")))) (cE wh kp cl u dr en x7 x8 (some (.ref (pl b.n))) x10) N = .ok (!o && false) N := St.band (St.not c2) (St.val (St.bin (f := dEq) rfl rfl (qF wok_e wok_b (by decide))))
    rw [Bool.and_false] at c3
    cases o with
    | true =>
      rw [ho rfl] at r1
      exact St.ifF (St.band c2 (St.val (St.bin (f := dGt) (St.args (St.cons (St.bin (f := dIxA) rfl rfl r1) St.nil) o_lenF) rfl o_gt))) (St.ifF c3 y_nil)
    | false => exact St.ifF (by rw [y_and, c2, y_and_f]) (St.ifF c3 y_nil)
  obtain ⟨e', M', h1, y9, h2, h3⟩ := for_inv (tg := tgName 9) (body := lp_law_units_due_2) (m := eVar 5) (l := .ref dr) (ds := B.map fun b => .ref (pl b.n)) (I := fun i e N => ∃ y9, cE wh kp cl u dr en x7 x8 y9 x10 = e ∧ (((∀ b ∈ B.take i, b.n ≠ b0.n) ∧ M = N) ∨ ((∃ b ∈ B.take i, b.n = b0.n) ∧ Mq = N))) (e := cE wh kp cl u dr en x7 x8 x9 x10) (M := M) (M0 := M) rfl
    (fun i e N h => by
      obtain ⟨_, _, h | h⟩ := h
      · rw [← h.2]; exact row_li hdr
      · rw [← h.2]; exact row_li (qo hdr ud.symm (pu b0 hb).2.symm)) ⟨x9, rfl, .inl ⟨by simp, rfl⟩⟩
    (fun i x e N hx h => by
      rw [List.getElem?_map] at hx
      obtain ⟨b, hbi, rfl⟩ := Option.map_eq_some_iff.mp hx
      have hbB := List.mem_of_getElem? hbi
      have htk : B.take (i + 1) = B.take i ++ [b] := by rw [List.take_add_one, hbi]; rfl
      have hne : (∃ c ∈ B.take i, c.n = b0.n) → b.n ≠ b0.n := fun ⟨c, hc, e⟩ z => by
        have nd : ((B.take (i + 1)).map Br.n).Nodup := ((List.take_sublist _ _).map _).nodup hnd
        rw [htk, List.map_append, List.nodup_append] at nd
        exact nd.2.2 c.n (List.mem_map.mpr ⟨c, hc, rfl⟩) b.n (by simp) (by rw [e, z])
      obtain ⟨y9, rfl, h⟩ := h
      refine ⟨cE wh kp cl u dr en x7 x8 (some (.ref (pl b.n))) x10, cE wh kp cl u dr en x7 x8 (some (.ref (pl b.n))) x10, ?_⟩
      rcases h with ⟨h1, rfl⟩ | ⟨h1, rfl⟩
      · by_cases e : b.n = b0.n
        · have := I.same hbB hb e
          subst this
          refine ⟨Mq, rfl, ?_, _, rfl, .inr ⟨⟨b, by rw [htk]; simp, rfl⟩, rfl⟩⟩
          by_cases hp : ps = []
          · subst hp
            rw [hMq, if_pos rfl]
            exact quiet (.inr ⟨w, h0⟩)
          · rw [hMq, if_neg hp]
            have r2 := row_ix (i := 2) h0 rfl
            have r1 := row_ix (i := 1) h0 rfl
            have r0 := row_ix (i := 0) h0 rfl
            have hh0 : (M.set u (.lst ((dn B).map Br.u ++ [.tup [.int b.n, .tup ps]])))[pl b.n]? = some (.lst [.int b.n, .fro ps, .bl true, .bl w]) := at_off h0 (pu b hb).1.symm
            refine St.ifT (St.band (b2 := true) (St.val (St.bin (f := dIxA) rfl rfl r2)) (St.val (St.bin (f := dGt) (St.args (St.cons (St.bin (f := dIxA) rfl rfl r1) St.nil) o_lenF) rfl ?_))) ?_
            · rw [o_gt, decide_eq_true]
              cases ps with
              | nil => exact absurd rfl hp
              | cons a l => rw [List.length_cons]; omega
            · refine St.seq (St.sdo (St.app rfl ⟨_, hun⟩ (St.tup (St.cons (St.bin (f := dIxA) rfl rfl r0) (St.cons (St.args (St.cons (St.bin (f := dIxA) rfl rfl r1) St.nil) o_tupF) St.nil))) hun ?_)) ?_
              · rw [List.length_map]
                have : (dn B).length ≤ B.length := List.length_filter_le _ _
                omega
              · exact St.setIx (f := dSetIx) (St.fro St.nil) rfl rfl (row_set (i := 1) hh0 (by simp))
        · refine ⟨M, rfl, quiet (.inl (hrow b hbB e)), _, rfl, .inl ⟨fun c hc => ?_, rfl⟩⟩
          rw [htk] at hc
          rcases List.mem_append.mp hc with hc | hc
          · exact h1 c hc
          · obtain rfl := List.mem_singleton.mp hc; exact e
      · have e := hne h1
        obtain ⟨c, hc, hcn⟩ := h1
        exact ⟨Mq, rfl, quiet (.inl (qo (hrow b hbB e) (pu b hbB).1 fun z => e (pp b hbB b0 hb z))), _, rfl, .inr ⟨⟨c, by rw [htk]; simp [hc], hcn⟩, rfl⟩⟩)
  subst h2
  refine ⟨y9, M', h1, ?_⟩
  rw [← hMq]
  rw [List.length_map, List.take_length] at h3
  rcases h3 with ⟨h3, _⟩ | ⟨_, h3⟩
  · exact absurd rfl (h3 b0 hb)
  · exact h3.symm
end
end K80
-- T19a
namespace K80
open PySem L2 T2
section
variable {wh kp : Str} {u dr en : Nat} {pl : Int → Nat} {B : List Br} {E : List Int} {k : Nat} {M : MH}
def lft (u dr en : Nat) (pl : Int → Nat) (B : List Br) : List Nat := u :: dr :: en :: B.map fun b => pl b.n
theorem in_lft : u ∈ lft u dr en pl B ∧ dr ∈ lft u dr en pl B ∧ en ∈ lft u dr en pl B ∧ ∀ b ∈ B, pl b.n ∈ lft u dr en pl B := by
  unfold lft
  refine ⟨by simp, by simp, by simp, fun b hb => ?_⟩
  have : pl b.n ∈ B.map fun b => pl b.n := List.mem_map.mpr ⟨b, hb, rfl⟩
  simp only [List.mem_cons]
  exact .inr (.inr (.inr this))
theorem LwAt.re {f : Br → Br} {E' : List Int} {N : MH} (A : LwAt M u dr en pl B E) (hn : ∀ b, (f b).n = b.n) (h1 : N[u]? = some (.lst ((dn (B.map f)).map Br.u))) (h2 : N[dr]? = some (.lst (B.map fun b => .ref (pl b.n)))) (h3 : N[en]? = some (.lst (E'.map D.int))) (h4 : ∀ b ∈ B, N[pl b.n]? = some (.lst (rowL (f b)))) : LwAt N u dr en pl (B.map f) E' ∧ lft u dr en pl (B.map f) = lft u dr en pl B := by
  have hm : ((B.map f).map fun b => pl b.n) = B.map fun b => pl b.n := by
    rw [List.map_map]
    exact List.map_congr_left fun b _ => by show pl (f b).n = _; rw [hn]
  refine ⟨⟨h1, ?_, h3, fun b' hb' => ?_, A.ud, A.ue, A.de, fun b' hb' => ?_, fun b' hb' c' hc' e => ?_⟩, by unfold lft; rw [hm]⟩
  · rw [h2, List.map_map]
    congr 2
    exact List.map_congr_left fun b _ => by show D.ref (pl b.n) = .ref (pl (f b).n); rw [hn]
  · obtain ⟨b, hb, rfl⟩ := List.mem_map.mp hb'
    rw [hn]; exact h4 b hb
  · obtain ⟨b, hb, rfl⟩ := List.mem_map.mp hb'
    rw [hn]; exact A.pu b hb
  · obtain ⟨b, hb, rfl⟩ := List.mem_map.mp hb'
    obtain ⟨c, hc, rfl⟩ := List.mem_map.mp hc'
    rw [hn, hn] at e
    rw [hn, hn]
    exact A.pp b hb c hc e
theorem LwAt.app (A : LwAt M u dr en pl B E) (G : MH) : LwAt (M ++ G) u dr en pl B E := ⟨at_app A.hun, at_app A.hdr, at_app A.hen, fun b hb => at_app (A.ps b hb), A.ud, A.ue, A.de, A.pu, A.pp⟩
theorem row_open {b : Br} (h : b.ov = false) : rowL b = [.int b.n, .fro b.ps, .bl false, .bl b.w] := by
  unfold rowL
  rw [h, if_neg (by simp)]
def nx0 (wh kp : Str) (B : List Br) : Cl → List Br
  | .beg _ => B
  | c => next wh kp B c
/-- what follows when the draft is found -/
noncomputable def ud_rest : SM :=
    (sSeq (sForI (iSeq (eCall 4 m_law_call_portions (eCons (eVar 0) (eCons (eVar 1) (eCons (eVar 2) (eCons (eVar 7) (eNil))))))) (tgName 10) lp_law_units_due_1)
    (sSeq (sIf (bVal (eBin dEq (eBin dIxA (eVar 7) (eC (.int 0))) (eC (.str "wrote"))))
    (sSetIx dSetIx (eVar 8) (eC (.int 3)) (eC (.bl true)))
    (sNil))
    (sIf (bOr (bVal (eBin dEq (eBin dIxA (eVar 7) (eC (.int 0))) (eC (.str "end")))) (bVal (eBin dEq (eBin dIxA (eVar 7) (eC (.int 0))) (eC (.str "back")))))
    (sSeq (sSetIx dSetIx (eVar 8) (eC (.int 2)) (eC (.bl true)))
    (sSeq (sIf (bAnd (bVal (eBin dEq (eBin dIxA (eVar 7) (eC (.int 0))) (eC (.str "end")))) (bVal (eBin dIxA (eVar 8) (eC (.int 3)))))
    (sDo (eApp (eVar 6) (eBin dIxA (eVar 8) (eC (.int 0)))))
    (sNil))
    (sSeq (sIf (bVal (eBin dEq (eBin dIxA (eVar 7) (eC (.int 0))) (eC (.str "back"))))
    (sSetIx dSetIx (eVar 8) (eC (.int 1)) (eFro (eNil)))
    (sNil))
    (sForI (iSeq (eVar 5)) (tgName 9) lp_law_units_due_2))))
    (sNil))))
theorem ud_rest_run {s : Bx} {R : MH} (hs : BxOk s) (hk : kp = "own" ∨ kp = "logged") (hh : wh = "image" ∨ wh = "statement") (A : LwAt (s.obj :: R) u dr en pl B E) (I : Inv B) (bd : Bd k B) (hEl : E.length < 900) {c : Cl} (hc : (∃ n, c = .beg n) ∨ May B c) (co : ClOk c) {b0 : Br} (hb : b0 ∈ B) (ho : b0.ov = false) (hn : b0.n = c.n) {cl : D} {x9 x10 : Option D} :
    ∃ M' B' E' y9 y10, ud_rest (cE wh kp cl u dr en (some c.d) (some (.ref (pl c.n))) x9 x10) (s.obj :: R) = .nx (cE wh kp cl u dr en (some c.d) (some (.ref (pl c.n))) y9 y10) M' ∧ B' = nx0 wh kp B c ∧ LwAt M' u dr en pl B' E' ∧ lft u dr en pl B' = lft u dr en pl B ∧ Fr (lft u dr en pl B) (s.obj :: R) M' ∧ E'.length ≤ E.length + 1 := by
  have bk := bd.k
  have bl := bd.l
  have el : E.length ≤ E.length + 1 := Nat.le_succ _
  obtain ⟨i1, i2, i3, i4⟩ := in_lft (u := u) (dr := dr) (en := en) (pl := pl) (B := B)
  have cw : ∀ {N : MH} {y10 : Option D} {x : Str} {b : Bool}, dEq (.str c.w) (.str x) N = .ok (.bl b) N → bVal (eBin dEq (eBin dIxA (eVar 7) (eC (.int 0))) (eC (.str x))) (cE wh kp cl u dr en (some c.d) (some (.ref (pl c.n))) x9 y10) N = .ok b N := fun h => St.val (St.bin (f := dEq) (St.bin (f := dIxA) rfl rfl ixw) rfl h)
  have cp := cp_run (R := R) hs hk hh co
  have hcall : eCall 4 m_law_call_portions (eCons (eVar 0) (eCons (eVar 1) (eCons (eVar 2) (eCons (eVar 7) (eNil))))) (cE wh kp cl u dr en (some c.d) (some (.ref (pl c.n))) x9 x10) (s.obj :: R) = _ := St.call (St.cons rfl (St.cons rfl (St.cons rfl (St.cons rfl St.nil)))) rfl cp
  have hrow := A.ps b0 hb
  rw [row_open ho, hn] at hrow
  have fin0 : ∀ (_ : c.w ≠ "wrote") (_ : c.w ≠ "end") (_ : c.w ≠ "back") (_ : clP wh kp c = []), PyData.strOk c.w = true → ud_rest (cE wh kp cl u dr en (some c.d) (some (.ref (pl c.n))) x9 x10) (s.obj :: R) = .nx (cE wh kp cl u dr en (some c.d) (some (.ref (pl c.n))) x9 x10) (s.obj :: R) := fun h1 h2 h3 h4 h5 => by
    rw [h4] at hcall
    exact St.seq (for_nx (St.itF hcall) z_fv0) (St.seq (St.ifF (cw (qF h5 wok_w h1)) y_nil) (St.ifF (St.bor (cw (qF h5 wok_e h2)) (cw (qF h5 wok_k h3))) y_nil))
  cases c with
  | beg n => exact ⟨_, B, E, x9, x10, fin0 (show ("begin" : Str) ≠ "wrote" by decide) (show ("begin" : Str) ≠ "end" by decide) (show ("begin" : Str) ≠ "back" by decide) rfl wok_b, rfl, A, rfl, Fr.refl, el⟩
  | un n cs => exact ⟨_, B, E, x9, x10, fin0 (show ("undone" : Str) ≠ "wrote" by decide) (show ("undone" : Str) ≠ "end" by decide) (show ("undone" : Str) ≠ "back" by decide) rfl wok_u, rfl, A, rfl, Fr.refl, el⟩
  | wr n st cs =>
    have hn : b0.n = n := hn
    subst hn
    obtain ⟨o1, o2, o3⟩ : Pd 4 st ∧ (∀ c ∈ cs, ChOk c) ∧ cs.length ≤ 3 := co
    have pl3 := por_len3 (wh := wh) (kp := kp) (st := st) o2 o3
    have pb := bd.ps b0 hb
    obtain ⟨N, y10, p1, p2, p3⟩ := parts_loop (wh := wh) (kp := kp) (u := u) (dr := dr) (en := en) (cl := cl) (x7 := some (Cl.wr b0.n st cs).d) (x9 := x9) (porL wh kp st cs) b0.ps (s.obj :: R) x10 hrow (by omega)
    let N2 : MH := N.set (pl b0.n) (.lst [.int b0.n, .fro (b0.ps ++ (porL wh kp st cs).flatten), .bl false, .bl true])
    have o : ∀ {i : Nat} {o : MO}, (s.obj :: R)[i]? = some o → i ≠ pl b0.n → N2[i]? = some o := fun h1 h2 => at_off (p3.keep _ _ h1 (fun z => h2 (List.mem_singleton.mp z))) h2.symm
    have hf : ∀ b ∈ B, b.ov = true → bWr wh kp b0.n st cs b = b := fun b hb' h => by
      unfold bWr
      rw [if_neg]
      intro e
      rw [I.same hb' hb e, ho] at h
      cases h
    obtain ⟨A2, hl2⟩ := A.re (f := bWr wh kp b0.n st cs) (N := N2) (E' := E) (fun b => bWr_n) (by rw [dn_map bWr_ov hf]; exact o A.hun (A.pu b0 hb).1.symm) (o A.hdr (A.pu b0 hb).2.1.symm) (o A.hen (A.pu b0 hb).2.2.symm) (fun b hb' => by
      by_cases e : b.n = b0.n
      · have := I.same hb' hb e
        subst this
        have : rowL (bWr wh kp b.n st cs b) = [.int b.n, .fro (b.ps ++ (porL wh kp st cs).flatten), .bl false, .bl true] := by
          rw [row_open (by rw [bWr_ov]; exact ho), bWr_n]
          unfold bWr
          rw [if_pos rfl]
        rw [this]
        exact at_set p2
      · have : bWr wh kp b0.n st cs b = b := by unfold bWr; rw [if_neg e]
        rw [this]
        exact o (A.ps b hb') fun z => e (A.pp b hb' b0 hb z))
    refine ⟨N2, _, E, x9, y10, ?_, rfl, A2, hl2, (p3.mono fun i hi => .inl (by obtain rfl := List.mem_singleton.mp hi; exact i4 b0 hb)).trans (Fr.set (i4 b0 hb)), el⟩
    exact St.seq (for_nx (St.itF hcall) p1) (St.seq (St.ifT (cw (qT wok_w)) (St.setIx (f := dSetIx) rfl rfl rfl (row_set (i := 3) p2 (by simp)))) (St.ifF (St.bor (cw (qF wok_w wok_e (by decide))) (cw (qF wok_w wok_k (by decide)))) y_nil))
  | en n =>
    have hn : b0.n = n := hn
    subst hn
    let N1 : MH := (s.obj :: R).set (pl b0.n) (.lst [.int b0.n, .fro b0.ps, .bl true, .bl b0.w])
    have n1 : N1[pl b0.n]? = some (.lst [.int b0.n, .fro b0.ps, .bl true, .bl b0.w]) := at_set hrow
    have o1 : ∀ {i : Nat} {o : MO}, (s.obj :: R)[i]? = some o → i ≠ pl b0.n → N1[i]? = some o := fun h1 h2 => at_off h1 h2.symm
    have hen1 := o1 A.hen (A.pu b0 hb).2.2.symm
    have r3 := row_ix (i := 3) n1 rfl
    have r0 := row_ix (i := 0) n1 rfl
    have c3 : bAnd (bVal (eBin dEq (eBin dIxA (eVar 7) (eC (.int 0))) (eC (.str "end")))) (bVal (eBin dIxA (eVar 8) (eC (.int 3)))) (cE wh kp cl u dr en (some (Cl.en b0.n).d) (some (.ref (pl b0.n))) x9 x10) N1 = .ok (true && b0.w) N1 := St.band (cw (qT wok_e)) (St.val (St.bin (f := dIxA) rfl rfl r3))
    rw [Bool.true_and] at c3
    have key1 : ∃ (N2 : MH) (E' : List Int), (sIf (bAnd (bVal (eBin dEq (eBin dIxA (eVar 7) (eC (.int 0))) (eC (.str "end")))) (bVal (eBin dIxA (eVar 8) (eC (.int 3))))) (sDo (eApp (eVar 6) (eBin dIxA (eVar 8) (eC (.int 0))))) (sNil)) (cE wh kp cl u dr en (some (Cl.en b0.n).d) (some (.ref (pl b0.n))) x9 x10) N1 = .nx (cE wh kp cl u dr en (some (Cl.en b0.n).d) (some (.ref (pl b0.n))) x9 x10) N2 ∧ N2[en]? = some (.lst (E'.map D.int)) ∧ Fr [en] N1 N2 ∧ E'.length ≤ E.length + 1 := by
      by_cases hE : E.length < 900
      · cases hw : b0.w with
        | true =>
          rw [hw] at c3
          refine ⟨N1.set en (.lst (E.map D.int ++ [.int b0.n])), E ++ [b0.n], St.ifT c3 (St.sdo (St.app rfl ⟨_, hen1⟩ (St.bin (f := dIxA) rfl rfl r0) hen1 (by rw [List.length_map]; omega))), ?_, Fr.set (by simp), by simp⟩
          rw [List.map_append]
          exact at_set hen1
        | false =>
          rw [hw] at c3
          exact ⟨N1, E, St.ifF c3 y_nil, hen1, Fr.refl, el⟩
      · exact absurd hEl hE
    obtain ⟨N2, E', s3, hen2, f2, el2⟩ := key1
    have o2 : ∀ {i : Nat} {o : MO}, (s.obj :: R)[i]? = some o → i ≠ pl b0.n → i ≠ en → N2[i]? = some o := fun h1 h2 h3 => f2.keep _ _ (o1 h1 h2) (fun z => h3 (List.mem_singleton.mp z))
    have n2 : N2[pl b0.n]? = some (.lst [.int b0.n, .fro b0.ps, .bl true, .bl b0.w]) := f2.keep _ _ n1 (fun z => (A.pu b0 hb).2.2 (List.mem_singleton.mp z))
    obtain ⟨y9, N3, s5, h3⟩ := look_loop (wh := wh) (kp := kp) (u := u) (dr := dr) (en := en) (cl := cl) (x7 := some (Cl.en b0.n).d) (x8 := some (.ref (pl b0.n))) (x9 := x9) (x10 := x10) (f := bEn b0.n) I hb (o2 A.hdr (A.pu b0 hb).2.1.symm A.de) (o2 A.hun (A.pu b0 hb).1.symm A.ue) (fun b hb' e => o2 (A.ps b hb') (fun z => e (A.pp b hb' b0 hb z)) (A.pu b hb').2.2) n2 A.ud (fun b hb' => ⟨(A.pu b hb').1, (A.pu b hb').2.1⟩) A.pp (by omega)
    have o3 : ∀ {i : Nat} {o : MO}, N2[i]? = some o → i ≠ pl b0.n → i ≠ u → N3[i]? = some o := fun h1 h2 h4 => by
      rw [h3]
      split
      · exact h1
      · exact at_off (at_off h1 h4.symm) h2.symm
    have n3 : N3[pl b0.n]? = some (.lst [.int b0.n, .fro [], .bl true, .bl b0.w]) := by
      rw [h3]
      split
      · rename_i hp
        rw [hp] at n2; exact n2
      · exact at_set (at_off n2 (A.pu b0 hb).1.symm)
    have hbe : ∀ b, b.n = b0.n → b ∈ B → rowL (bEn b0.n b) = [.int b0.n, .fro [], .bl true, .bl b0.w] := fun b e hb' => by
      have := I.same hb' hb e
      subst this
      unfold bEn
      rw [if_pos rfl]
      rfl
    obtain ⟨A4, hl4⟩ := A.re (f := bEn b0.n) (N := N3) (E' := E') (fun b => bEn_n) (by
      rw [dn_en I hb ho, h3]
      have hne : b0.ne = !b0.ps.isEmpty := rfl
      by_cases hp : b0.ps = []
      · rw [if_pos hp, hne, hp, if_neg (by simp)]
        exact o2 A.hun (A.pu b0 hb).1.symm A.ue
      · rw [if_neg hp, hne, if_pos (by simpa using hp), List.map_append]
        exact at_off (at_set (o2 A.hun (A.pu b0 hb).1.symm A.ue)) (A.pu b0 hb).1) (o3 (o2 A.hdr (A.pu b0 hb).2.1.symm A.de) (A.pu b0 hb).2.1.symm A.ud.symm) (o3 hen2 (A.pu b0 hb).2.2.symm A.ue.symm) (fun b hb' => by
      by_cases e : b.n = b0.n
      · rw [hbe b e hb', e]; exact n3
      · have : bEn b0.n b = b := by unfold bEn; rw [if_neg e]
        rw [this]
        have hpb : pl b.n ≠ pl b0.n := fun z => e (A.pp b hb' b0 hb z)
        exact o3 (o2 (A.ps b hb') hpb (A.pu b hb').2.2) hpb (A.pu b hb').1)
    have f3 : Fr (lft u dr en pl B) N2 N3 := by
      rw [h3]
      split
      · exact Fr.refl
      · exact (Fr.set i1).trans (Fr.set (i4 b0 hb))
    refine ⟨N3, _, E', y9, x10, ?_, rfl, A4, hl4, ((Fr.set (i4 b0 hb)).trans (f2.mono fun i hi => .inl (by obtain rfl := List.mem_singleton.mp hi; exact i3))).trans f3, el2⟩
    exact St.seq (for_nx (St.itF hcall) z_fv0) (St.seq (St.ifF (cw (qF wok_e wok_w (by decide))) y_nil) (St.ifT (b := sNil) (St.bor (b2 := false) (cw (qT wok_e)) (cw (qF wok_e wok_k (by decide)))) (St.seq (St.setIx (f := dSetIx) rfl rfl rfl (row_set (i := 2) hrow (by simp))) (St.seq s3 (St.seq (St.ifF (cw (qF wok_e wok_k (by decide))) y_nil) s5)))))
  | bk n =>
    have hn : b0.n = n := hn
    subst hn
    let N1 : MH := (s.obj :: R).set (pl b0.n) (.lst [.int b0.n, .fro b0.ps, .bl true, .bl b0.w])
    have n1 : N1[pl b0.n]? = some (.lst [.int b0.n, .fro b0.ps, .bl true, .bl b0.w]) := at_set hrow
    let N2 : MH := N1.set (pl b0.n) (.lst [.int b0.n, .fro [], .bl true, .bl b0.w])
    have n2 : N2[pl b0.n]? = some (.lst [.int b0.n, .fro [], .bl true, .bl b0.w]) := at_set n1
    have o2 : ∀ {i : Nat} {o : MO}, (s.obj :: R)[i]? = some o → i ≠ pl b0.n → N2[i]? = some o := fun h1 h2 => at_off (at_off h1 h2.symm) h2.symm
    obtain ⟨y9, N3, s5, h3⟩ := look_loop (wh := wh) (kp := kp) (u := u) (dr := dr) (en := en) (cl := cl) (x7 := some (Cl.bk b0.n).d) (x8 := some (.ref (pl b0.n))) (x9 := x9) (x10 := x10) (f := bBk b0.n) I hb (o2 A.hdr (A.pu b0 hb).2.1.symm) (o2 A.hun (A.pu b0 hb).1.symm) (fun b hb' e => o2 (A.ps b hb') (fun z => e (A.pp b hb' b0 hb z))) n2 A.ud (fun b hb' => ⟨(A.pu b hb').1, (A.pu b hb').2.1⟩) A.pp (by omega)
    rw [if_pos rfl] at h3
    subst h3
    obtain ⟨A4, hl4⟩ := A.re (f := bBk b0.n) (N := N2) (E' := E) (fun b => bBk_n) (by rw [dn_bk I hb ho]; exact o2 A.hun (A.pu b0 hb).1.symm) (o2 A.hdr (A.pu b0 hb).2.1.symm) (o2 A.hen (A.pu b0 hb).2.2.symm) (fun b hb' => by
      by_cases e : b.n = b0.n
      · have := I.same hb' hb e
        subst this
        have : rowL (bBk b.n b) = [.int b.n, .fro [], .bl true, .bl b.w] := by unfold bBk; rw [if_pos rfl]; rfl
        rw [this]
        exact n2
      · have : bBk b0.n b = b := by unfold bBk; rw [if_neg e]
        rw [this]
        exact o2 (A.ps b hb') fun z => e (A.pp b hb' b0 hb z))
    refine ⟨N2, _, E, y9, x10, ?_, rfl, A4, hl4, (Fr.set (i4 b0 hb)).trans (Fr.set (i4 b0 hb)), el⟩
    have c3 : bAnd (bVal (eBin dEq (eBin dIxA (eVar 7) (eC (.int 0))) (eC (.str "end")))) (bVal (eBin dIxA (eVar 8) (eC (.int 3)))) (cE wh kp cl u dr en (some (Cl.bk b0.n).d) (some (.ref (pl b0.n))) x9 x10) N1 = .ok false N1 := St.bandF (cw (qF wok_k wok_e (by decide)))
    exact St.seq (for_nx (St.itF hcall) z_fv0) (St.seq (St.ifF (cw (qF wok_k wok_w (by decide))) y_nil) (St.ifT (b := sNil) (St.bor (b1 := false) (cw (qF wok_k wok_e (by decide))) (cw (qT wok_k))) (St.seq (St.setIx (f := dSetIx) rfl rfl rfl (row_set (i := 2) hrow (by simp))) (St.seq (St.ifF c3 y_nil) (St.seq (St.ifT (cw (qT wok_k)) (St.setIx (f := dSetIx) (St.fro St.nil) rfl rfl (row_set (i := 1) n1 (by simp)))) s5)))))
end
end K80
-- T19a
namespace K80
open PySem L2 T2
/-! ### the calls that may come, one behind another -/
inductive Go (wh kp : Str) : List Br → List Cl → Prop
  | nil {B : List Br} : Go wh kp B []
  | cons {B : List Br} {c : Cl} {cs : List Cl} (m : May B c) (co : ClOk c) (g : Go wh kp (next wh kp B c) cs) : Go wh kp B (c :: cs)
def runC (wh kp : Str) (B : List Br) (cs : List Cl) : List Br := cs.foldl (next wh kp) B
section
variable {wh kp : Str} {u dr en : Nat} {pl : Int → Nat} {B : List Br} {E : List Int} {k : Nat}
theorem head_box {s : Bx} {T M : MH} (f : Fr [] (s.obj :: T) M) : ∃ G, M = s.obj :: (T ++ G) := by
  obtain ⟨G, h⟩ := f.ext
  exact ⟨G, h⟩
theorem ud_turn {s : Bx} {T M : MH} (hs : BxOk s) (hk : kp = "own" ∨ kp = "logged") (hh : wh = "image" ∨ wh = "statement") (f0 : Fr [] (s.obj :: T) M) (A : LwAt M u dr en pl B E) (hf : ∀ i ∈ lft u dr en pl B, (s.obj :: T).length ≤ i) (I : Inv B) (bd : Bd k B) (hk2 : k + 1 ≤ 100) (hEl : E.length < 900) {c : Cl} (m : May B c) (co : ClOk c) {cl : D} {x8 x9 x10 : Option D} :
    ∃ M' pl' E' y8 y9 y10, lp_law_units_due_3 (cE wh kp cl u dr en (some c.d) x8 x9 x10) M = .nx (cE wh kp cl u dr en (some c.d) y8 y9 y10) M' ∧ Fr [] (s.obj :: T) M' ∧ LwAt M' u dr en pl' (next wh kp B c) E' ∧ (∀ i ∈ lft u dr en pl' (next wh kp B c), (s.obj :: T).length ≤ i) ∧ E'.length ≤ E.length + 1 := by
  have bl := bd.l
  have cw : ∀ {N : MH} {b : Bool}, dEq (.str c.w) (.str "begin") N = .ok (.bl b) N → bVal (eBin dEq (eBin dIxA (eVar 7) (eC (.int 0))) (eC (.str "begin"))) (cE wh kp cl u dr en (some c.d) x8 x9 x10) N = .ok b N := fun h => St.val (St.bin (f := dEq) (St.bin (f := dIxA) rfl rfl ixw) rfl h)
  -- a script begins, or nothing
  have first : ∃ M1 pl1 B1, sIf (bVal (eBin dEq (eBin dIxA (eVar 7) (eC (.int 0))) (eC (.str "begin")))) (sDo (eApp (eVar 5) (eLst (eCons (eBin dIxA (eVar 7) (eC (.int 1))) (eCons (eFro (eNil)) (eCons (eC (.bl false)) (eCons (eC (.bl false)) (eNil)))))))) (sNil) (cE wh kp cl u dr en (some c.d) x8 x9 x10) M = .nx (cE wh kp cl u dr en (some c.d) x8 x9 x10) M1 ∧ Fr [] (s.obj :: T) M1 ∧ LwAt M1 u dr en pl1 B1 E ∧ (∀ i ∈ lft u dr en pl1 B1, (s.obj :: T).length ≤ i) ∧ Inv B1 ∧ Bd (k + 1) B1 ∧ nx0 wh kp B1 c = next wh kp B c ∧ ((∃ n, c = .beg n) ∨ May B1 c) ∧ ∃ b0 ∈ B1, b0.ov = false ∧ b0.n = c.n := by
    have hcase : (∃ n, c = .beg n) ∨ (c.w ≠ "begin" ∧ PyData.strOk c.w = true ∧ nx0 wh kp B c = next wh kp B c ∧ ∃ b0 ∈ B, b0.n = c.n ∧ b0.ov = false) := by
      cases c with
      | beg n => exact .inl ⟨n, rfl⟩
      | wr n st cs => exact .inr ⟨show ("wrote" : Str) ≠ "begin" by decide, wok_w, rfl, m.1⟩
      | un n cs => exact .inr ⟨show ("undone" : Str) ≠ "begin" by decide, wok_u, rfl, m⟩
      | en n => exact .inr ⟨show ("end" : Str) ≠ "begin" by decide, wok_e, rfl, m⟩
      | bk n => exact .inr ⟨show ("back" : Str) ≠ "begin" by decide, wok_k, rfl, m⟩
    rcases hcase with ⟨n, rfl⟩ | ⟨h1, h2, h3, b0, h4, h5, h6⟩
    · have I1 := I.next (wh := wh) (kp := kp) m
      have m : ∀ b ∈ B, b.n < n := m
      let x : Br := ⟨n, [], false, false⟩
      let N : MH := M ++ [.lst (rowL x)]
      let pl1 : Int → Nat := fun z => if z = n then M.length else pl z
      have hp : ∀ b ∈ B, pl1 b.n = pl b.n := fun b hb => if_neg (by have := m b hb; omega)
      have hx : pl1 x.n = M.length := if_pos rfl
      let N1 : MH := N.set dr (.lst ((B.map fun b => D.ref (pl b.n)) ++ [.ref M.length]))
      have o : ∀ {i : Nat} {w : MO}, M[i]? = some w → i ≠ dr → N1[i]? = some w := fun h1 h2 => at_off (at_app h1) h2.symm
      have hrefs : ((B ++ [x]).map fun b => D.ref (pl1 b.n)) = (B.map fun b => D.ref (pl b.n)) ++ [.ref M.length] := by
        rw [List.map_append, List.map_cons, List.map_nil, hx]
        congr 1
        exact List.map_congr_left fun b hb => by rw [hp b hb]
      have hdl := at_lt A.hdr
      refine ⟨N1, pl1, B ++ [x], ?_, f0.seq (Fr.trans (S := [dr]) Fr.app (Fr.set (by simp))) (fun i hi => .inr (by obtain rfl := List.mem_singleton.mp hi; exact hf _ in_lft.2.1)), ⟨by rw [dn_snoc]; exact o A.hun A.ud, ?_, o A.hen A.de.symm, fun b hb => ?_, A.ud, A.ue, A.de, fun b hb => ?_, fun b hb c hc e => ?_⟩, fun i hi => ?_, I1, ?_, rfl, .inl ⟨n, rfl⟩, x, by simp, rfl, rfl⟩
      · refine St.ifT (cw (qT wok_b)) (St.sdo (St.app rfl ⟨_, A.hdr⟩ (St.lst (ds := [.int n, .fro [], .bl false, .bl false]) (St.cons (St.bin (f := dIxA) rfl rfl ixn) (St.cons (St.fro (ds := []) St.nil) (St.cons rfl (St.cons rfl St.nil))))) (at_app A.hdr) (by rw [List.length_map]; omega)))
      · rw [hrefs]; exact at_set (at_app A.hdr)
      · rcases List.mem_append.mp hb with hb | hb
        · rw [hp b hb]; exact o (A.ps b hb) (A.pu b hb).2.1
        · obtain rfl := List.mem_singleton.mp hb
          rw [hx]
          exact at_off (by simp [N]) (Nat.ne_of_lt hdl)
      · rcases List.mem_append.mp hb with hb | hb
        · rw [hp b hb]; exact A.pu b hb
        · obtain rfl := List.mem_singleton.mp hb
          rw [hx]
          exact ⟨(at_new A.hun).symm, (at_new A.hdr).symm, (at_new A.hen).symm⟩
      · rcases List.mem_append.mp hb with hb | hb
        · rcases List.mem_append.mp hc with hc | hc
          · rw [hp b hb, hp c hc] at e; exact A.pp b hb c hc e
          · obtain rfl := List.mem_singleton.mp hc
            rw [hp b hb, hx] at e
            exact absurd e (at_new (A.ps b hb))
        · obtain rfl := List.mem_singleton.mp hb
          rcases List.mem_append.mp hc with hc | hc
          · rw [hp c hc, hx] at e
            exact absurd e.symm (at_new (A.ps c hc))
          · obtain rfl := List.mem_singleton.mp hc; rfl
      · unfold lft at hi hf
        simp only [List.mem_cons] at hi hf
        rcases hi with h | h | h | h
        · exact hf i (.inl h)
        · exact hf i (.inr (.inl h))
        · exact hf i (.inr (.inr (.inl h)))
        · obtain ⟨b, hb, e⟩ := List.mem_map.mp h
          rcases List.mem_append.mp hb with hb | hb
          · exact hf i (.inr (.inr (.inr (List.mem_map.mpr ⟨b, hb, by rw [← e, hp b hb]⟩))))
          · obtain rfl := List.mem_singleton.mp hb
            rw [hx] at e
            rw [← e]; exact f0.len
      · exact ⟨by rw [List.length_append, List.length_singleton]; omega, fun b hb => by
          rcases List.mem_append.mp hb with hb | hb
          · have := bd.ps b hb; omega
          · obtain rfl := List.mem_singleton.mp hb; exact Nat.zero_le _, hk2⟩
    · exact ⟨M, pl, B, St.ifF (cw (qF h2 wok_b h1)) y_nil, f0, A, hf, I, ⟨by omega, fun b hb => by have := bd.ps b hb; omega, hk2⟩, h3, .inr m, b0, h4, h6, h5⟩
  obtain ⟨M1, pl1, B1, s1, f1, A1, hf1, I1, bd1, hnx, hc1, b0, hb0, ho0, hn0⟩ := first
  have b1l := bd1.l
  have s2 := one_draft (wh := wh) (kp := kp) (cl := cl) (c := c.d) (x8 := x8) (x9 := x9) (x10 := x10) A1 I1 hb0 (by omega) (fun N => by rw [hn0]; exact ixn)
  let M2 : MH := M1 ++ [.lst [.ref (pl1 b0.n)]]
  have A2 : LwAt M2 u dr en pl1 B1 E := A1.app _
  have f2 : Fr [] (s.obj :: T) M2 := f1.trans Fr.app
  obtain ⟨G, hG⟩ := head_box f2
  have A2' := A2
  rw [hG] at A2'
  rw [hn0] at s2
  obtain ⟨M', B', E', y9, y10, r1, r2, r3, r4, r5, r6⟩ := ud_rest_run (cl := cl) (x9 := x9) (x10 := x10) hs hk hh A2' I1 bd1 hEl hc1 co hb0 ho0 hn0
  rw [hnx] at r2
  subst r2
  refine ⟨M', pl1, E', some (.ref (pl1 c.n)), y9, y10, St.seq s1 (St.seq (St.set s2) ?_), f2.seq (by rw [hG]; exact r5) (fun i hi => .inr (hf1 i hi)), r3, fun i hi => hf1 i (by rw [r4] at hi; exact hi), r6⟩
  · have r1' : ud_rest (cE wh kp cl u dr en (some c.d) (some (.ref (pl1 c.n))) x9 x10) M2 = .nx (cE wh kp cl u dr en (some c.d) (some (.ref (pl1 c.n))) y9 y10) M' := by
      rw [hG]
      exact r1
    have hM2 : M1 ++ [.lst [.ref (pl1 c.n)]] = M2 := by rw [← hn0]
    rw [hM2]
    exact r1'
theorem Go.len_next {wh kp : Str} {B : List Br} {c : Cl} {cs : List Cl} (g : Go wh kp B (c :: cs)) : May B c ∧ ClOk c ∧ Go wh kp (next wh kp B c) cs := by
  cases g with | cons m co g => exact ⟨m, co, g⟩
theorem ud_loop {s : Bx} {T : MH} (hs : BxOk s) (hk : kp = "own" ∨ kp = "logged") (hh : wh = "image" ∨ wh = "statement") {cl : D} : ∀ (cs : List Cl) (B : List Br) (pl : Int → Nat) (E : List Int) (k : Nat) (M : MH) (x7 x8 x9 x10 : Option D), Go wh kp B cs → Fr [] (s.obj :: T) M → LwAt M u dr en pl B E → (∀ i ∈ lft u dr en pl B, (s.obj :: T).length ≤ i) → Inv B → Bd k B → k + cs.length ≤ 100 → E.length ≤ k →
    ∃ M' pl' E' y7 y8 y9 y10, forV (tgName 7) lp_law_units_due_3 (cs.map Cl.d) (cE wh kp cl u dr en x7 x8 x9 x10) M = .nx (cE wh kp cl u dr en y7 y8 y9 y10) M' ∧ Fr [] (s.obj :: T) M' ∧ LwAt M' u dr en pl' (runC wh kp B cs) E' ∧ (∀ i ∈ lft u dr en pl' (runC wh kp B cs), (s.obj :: T).length ≤ i) ∧ Inv (runC wh kp B cs) ∧ Bd (k + cs.length) (runC wh kp B cs)
  | [], B, pl, E, k, M, x7, x8, x9, x10, _, f0, A, hf, I, bd, _, _ => ⟨M, pl, E, x7, x8, x9, x10, by rw [List.map_nil, z_fv0], f0, A, hf, I, bd⟩
  | c :: cs, B, pl, E, k, M, x7, x8, x9, x10, g, f0, A, hf, I, bd, hk2, hE => by
    rw [List.length_cons] at hk2
    obtain ⟨m, co, g2⟩ := g.len_next
    obtain ⟨M1, pl1, E1, y8, y9, y10, r1, r2, r3, r4, r5⟩ := ud_turn (cl := cl) (x8 := x8) (x9 := x9) (x10 := x10) hs hk hh f0 A hf I bd (by omega) (by omega) m co
    obtain ⟨M', pl', E', z7, z8, z9, z10, i1, i2, i3, i4, i5, i6⟩ := ud_loop hs hk hh (cl := cl) cs _ pl1 E1 (k + 1) M1 (some c.d) y8 y9 y10 g2 r2 r3 r4 (I.next m) (bd.next co (by omega)) (by omega) (by omega)
    refine ⟨M', pl', E', z7, z8, z9, z10, ?_, i2, i3, i4, i5, by rw [List.length_cons, show k + (cs.length + 1) = k + 1 + cs.length by omega]; exact i6⟩
    rw [List.map_cons]
    exact St.fvN (tg := tgName 7) rfl r1 i1
theorem u_low {B : List Br} {k : Nat} (h : ∀ b ∈ B, ∀ a ∈ b.ps, Pd 5 a) : ∀ b ∈ B, D.low 0 b.u := fun b hb => low_tup fun a ha => by
  simp only [List.mem_cons, List.not_mem_nil, or_false] at ha
  rcases ha with rfl | rfl
  · exact trivial
  · exact low_tup fun a ha => low_pd (h b hb a ha)
theorem run_pd : ∀ {cs : List Cl} {B : List Br}, Go wh kp B cs → (∀ b ∈ B, ∀ a ∈ b.ps, Pd 5 a) → ∀ b ∈ runC wh kp B cs, ∀ a ∈ b.ps, Pd 5 a
  | [], _, _, h => h
  | c :: cs, B, g, h => by
    obtain ⟨m, co, g2⟩ := g.len_next
    refine run_pd (cs := cs) g2 fun b hb a ha => ?_
    cases c with
    | beg n =>
      rcases List.mem_append.mp hb with hb | hb
      · exact h b hb a ha
      · obtain rfl := List.mem_singleton.mp hb; cases ha
    | un n cs => exact h b hb a ha
    | wr n st cs =>
      obtain ⟨b0, hb0, rfl⟩ := List.mem_map.mp hb
      unfold bWr at ha
      split at ha
      · rcases List.mem_append.mp ha with ha | ha
        · exact h b0 hb0 a ha
        · obtain ⟨l, hl, ha⟩ := List.mem_flatten.mp ha
          exact por_pd co.1 co.2.1 l hl a ha
      · exact h b0 hb0 a ha
    | en n =>
      obtain ⟨b0, hb0, rfl⟩ := List.mem_map.mp hb
      unfold bEn at ha
      split at ha <;> exact h b0 hb0 a ha
    | bk n =>
      obtain ⟨b0, hb0, rfl⟩ := List.mem_map.mp hb
      unfold bBk at ha
      split at ha
      · cases ha
      · exact h b0 hb0 a ha
theorem units_run {s : Bx} {T : MH} (hs : BxOk s) (hk : kp = "own" ∨ kp = "logged") (hh : wh = "image" ∨ wh = "statement") {cs : List Cl} (g : Go wh kp [] cs) (hl : cs.length ≤ 100) :
    ∃ E : List Int, m_law_units_due [.str "end", .str wh, .str kp, .fro (cs.map Cl.d)] (s.obj :: T) = .ok (.fro [.fro ((dn (runC wh kp [] cs)).map Br.u), .fro (E.map D.int)]) (s.obj :: T) := by
  let M0 : MH := s.obj :: T
  let L := M0.length
  let M : MH := M0 ++ [.lst [], .lst [], .lst []]
  have m0 : M[L]? = some (.lst []) := g_0
  have m1 : M[L + 1]? = some (.lst []) := g_1
  have m2 : M[L + 2]? = some (.lst []) := g_2
  have A : LwAt M L (L + 1) (L + 2) (fun _ => 0) [] [] := ⟨m0, m1, m2, fun b hb => (by cases hb), by omega, by omega, by omega, fun b hb => (by cases hb), fun b hb => (by cases hb)⟩
  obtain ⟨M', pl', E', y7, y8, y9, y10, r1, r2, r3, r4, _⟩ := ud_loop (cl := .fro (cs.map Cl.d)) hs hk hh cs [] (fun _ => 0) [] 0 M none none none none g Fr.app A (fun i hi => by
    unfold lft at hi
    simp only [List.map_nil, List.mem_cons, List.not_mem_nil, or_false] at hi
    rcases hi with rfl | rfl | rfl
    · exact Nat.le_refl _
    · show L ≤ L + 1; omega
    · show L ≤ L + 2; omega) inv_nil ⟨by simp, fun b hb => (by cases hb), by omega⟩ (by omega) (by simp)
  obtain ⟨G, hG⟩ := head_box r2
  have pd := run_pd g (fun b hb => by cases hb)
  refine ⟨E', frz_ok (b := s.obj) (b' := s.obj) (G := G) (d := .fro [.ref L, .ref (L + 2)]) ?_ box_low ?_⟩
  · rw [← hG]
    have a1 : eLst (eNil) [some (.str "end"), some (.str wh), some (.str kp), some (.fro (cs.map Cl.d)), none, none, none, none, none, none, none] M0 = .ok (.ref L) (M0 ++ [.lst []]) := St.lst St.nil
    have a2 : eLst (eNil) [some (.str "end"), some (.str wh), some (.str kp), some (.fro (cs.map Cl.d)), some (.ref L), none, none, none, none, none, none] (M0 ++ [.lst []]) = .ok (.ref (L + 1)) (M0 ++ [.lst [], .lst []]) := St.lstG
    have a3 : eLst (eNil) [some (.str "end"), some (.str wh), some (.str kp), some (.fro (cs.map Cl.d)), some (.ref L), some (.ref (L + 1)), none, none, none, none, none] (M0 ++ [.lst [], .lst []]) = .ok (.ref (L + 2)) M := St.lstG
    exact St.fn (St.seq (St.set a1) (St.seq (St.set a2) (St.seq (St.set a3) (St.seq (for_nx (M0 := M) (ds := cs.map Cl.d) rfl r1) (St.ret (St.fro (St.cons rfl (St.cons rfl St.nil))))))))
  · rw [← hG]
    have h1 : fzA (rfz M' (T.length + 1) 4) (.ref L) = some (.fro ((dn (runC wh kp [] cs)).map Br.u)) := fz_list (f := 3) (Nat.le_refl _) r3.hun (fzs_low (lows_of fun a ha => by
      obtain ⟨b, hb, rfl⟩ := List.mem_map.mp ha
      exact u_low (k := 0) pd b (dn_mem.mp hb).1))
    have h2 : fzA (rfz M' (T.length + 1) 4) (.ref (L + 2)) = some (.fro (E'.map D.int)) := fz_list (f := 3) (by show T.length + 1 ≤ T.length + 1 + 2; omega) r3.hen (fzs_low (lows_of fun a ha => by
      obtain ⟨b, hb, rfl⟩ := List.mem_map.mp ha
      exact trivial))
    show (fzAs (rfz M' (T.length + 1) 4) [.ref L, .ref (L + 2)]).map D.fro = _
    unfold fzAs
    rw [h1]
    unfold fzAs
    rw [h2]
    rfl
end
end K80
-- T19a
namespace K80
open PySem L2 T2
/-! ### what the law draws -/
theorem ext_app {R T : MH} (x : Ext R T) : ∃ G, T = R ++ G := by
  refine ⟨T.drop R.length, ?_⟩
  have hl := x.len
  refine List.ext_getElem? fun i => ?_
  by_cases h : i < R.length
  · rw [List.getElem?_append_left h, List.getElem?_eq_getElem h]
    exact x i _ (List.getElem?_eq_getElem h)
  · rw [List.getElem?_append_right (by omega), List.getElem?_drop, show R.length + (i - R.length) = i by omega]
theorem names_fro {n : Nat} {s : Bx} {R : MH} (hs : BxOk s) (hn : n ≤ 10) : ∃ (zs : List Str) (s' : Bx), m_law_names [.ref 0, .int n] (s.obj :: R) = .ok (.fro (zs.map D.str)) (s'.obj :: R) ∧ BxOk s' ∧ zs.length = n ∧ ∀ z ∈ zs, PyData.strOk z = true := by
  obtain ⟨zs, s', T, e, x, hz, h', hl, hnd, ho⟩ := names_run2 (R := R) (n := n) hs hn
  obtain ⟨G, rfl⟩ := ext_app x
  have ok : ∀ z ∈ zs, PyData.strOk z = true := fun z hz => (ho z hz).2.ok
  refine ⟨zs, s', frz_ok (f := namesM) e box_low (fz_new (k := 1) (by omega) (by rw [List.getElem?_cons_succ]; exact hz) fun a h => ?_), h', hl, ok⟩
  obtain ⟨z, hz, rfl⟩ := List.mem_map.mp h
  exact pd_str (ok z hz)
theorem lrow_run {s : Bx} {R : MH} (hs : BxOk s) : ∃ (w : Rw) (s' : Bx), m_law_row [.ref 0] (s.obj :: R) = .ok w.d (s'.obj :: R) ∧ BxOk s' := row_run hs
theorem ldraw {s : Bx} {R : MH} {n : Int} (hs : BxOk s) (h1 : 0 < n) (h2 : n < 1073741824) : ∃ r s', m_law_draw [.ref 0, .int n] (s.obj :: R) = .ok (.int r) (s'.obj :: R) ∧ 0 ≤ r ∧ r < n ∧ BxOk s' := draw_at hs h1 h2
/-- a draw as an expression -/
theorem ed {s : Bx} {R : MH} {n : Int} (hs : BxOk s) (h1 : 0 < n) (h2 : n < 1073741824) : ∃ r s', (∀ (e : Env2) (a : AM), (∀ s : Bx, a e (s.obj :: R) = .ok [.ref 0, .int n] (s.obj :: R)) → eCall 2 m_law_draw a e (s.obj :: R) = .ok (.int r) (s'.obj :: R)) ∧ 0 ≤ r ∧ r < n ∧ BxOk s' := by
  obtain ⟨r, s', h, g1, g2, g3⟩ := ldraw (R := R) hs h1 h2
  exact ⟨r, s', fun e a ha => St.call (ha s) rfl h, g1, g2, g3⟩
theorem lpick {s : Bx} {R : MH} {ds : List D} {l : D} (hs : BxOk s) (hl : ∀ s : Bx, SeqOf (s.obj :: R) "list" l ds) (h0 : 0 < ds.length) (h1 : ds.length < 1000) : ∃ d s', m_law_pick [.ref 0, l] (s.obj :: R) = .ok d (s'.obj :: R) ∧ d ∈ ds ∧ BxOk s' := pick_run hs hl h0 h1
def menus : List (List D) := [[.str "end", .str "begin", .str "write"], [.str "image", .str "statement"], [.str "own", .str "logged"], [.str "with", .str "behind", .str "ahead"], [.str "never", .str "least", .str "greatest"]]
theorem menus_ok : ∀ m ∈ menus, 0 < m.length ∧ m.length < 1000 := by decide
theorem len_5 {α : Type} {l : List α} (h : l.length = 5) : ∃ a0 a1 a2 a3 a4, l = [a0, a1, a2, a3, a4] := by
  obtain ⟨a0, t, e, h2⟩ := len_cons h
  obtain ⟨a1, a2, a3, a4, e2⟩ := len_4 h2
  subst e
  subst e2
  exact ⟨a0, a1, a2, a3, a4, rfl⟩
theorem words_run {s : Bx} {R : MH} (hs : BxOk s) : ∃ (w0 wh kp cf ct : Str) (s' : Bx), m_law_log_words [.ref 0] (s.obj :: R) = .ok (.fro [.str w0, .str wh, .str kp, .str cf, .str ct]) (s'.obj :: R) ∧ BxOk s' ∧ (wh = "image" ∨ wh = "statement") ∧ (kp = "own" ∨ kp = "logged") ∧ (cf = "with" ∨ cf = "behind" ∨ cf = "ahead") ∧ (ct = "never" ∨ ct = "least" ∨ ct = "greatest") := by
  obtain ⟨ds, s', h', hl, hm, e1⟩ := picks_run (R := R) (e := [some (.ref 0), some (.fro (menus.map D.fro)), none]) (i := 2) rfl (by decide) (by decide) menus [] s hs menus_ok (by decide)
  obtain ⟨d0, d1, d2, d3, d4, rfl⟩ := len_5 hl
  have m0 : d0 ∈ [D.str "end", .str "begin", .str "write"] := hm 0 _ _ rfl rfl
  have m1 : d1 ∈ [D.str "image", .str "statement"] := hm 1 _ _ rfl rfl
  have m2 : d2 ∈ [D.str "own", .str "logged"] := hm 2 _ _ rfl rfl
  have m3 : d3 ∈ [D.str "with", .str "behind", .str "ahead"] := hm 3 _ _ rfl rfl
  have m4 : d4 ∈ [D.str "never", .str "least", .str "greatest"] := hm 4 _ _ rfl rfl
  clear hm hl
  obtain ⟨w0, rfl⟩ : ∃ w, d0 = .str w := by simp only [List.mem_cons, List.not_mem_nil, or_false] at m0; rcases m0 with h | h | h <;> exact ⟨_, h⟩
  obtain ⟨w1, rfl, q1⟩ : ∃ w, d1 = .str w ∧ (w = "image" ∨ w = "statement") := by simp only [List.mem_cons, List.not_mem_nil, or_false] at m1; rcases m1 with h | h <;> exact ⟨_, h, by simp⟩
  obtain ⟨w2, rfl, q2⟩ : ∃ w, d2 = .str w ∧ (w = "own" ∨ w = "logged") := by simp only [List.mem_cons, List.not_mem_nil, or_false] at m2; rcases m2 with h | h <;> exact ⟨_, h, by simp⟩
  obtain ⟨w3, rfl, q3⟩ : ∃ w, d3 = .str w ∧ (w = "with" ∨ w = "behind" ∨ w = "ahead") := by simp only [List.mem_cons, List.not_mem_nil, or_false] at m3; rcases m3 with h | h | h <;> exact ⟨_, h, by simp⟩
  obtain ⟨w4, rfl, q4⟩ : ∃ w, d4 = .str w ∧ (w = "never" ∨ w = "least" ∨ w = "greatest") := by simp only [List.mem_cons, List.not_mem_nil, or_false] at m4; rcases m4 with h | h | h <;> exact ⟨_, h, by simp⟩
  have lc : eLc (iSeq (eVar 1)) (tgName 2) (bYes) (eCall 2 m_law_pick (eCons (eVar 0) (eCons (eVar 2) (eNil)))) [2] [some (.ref 0), some (.fro (menus.map D.fro)), none] (s.obj :: R) = .ok (.ref (R.length + 1)) (s'.obj :: (R ++ [.lst [.str w0, .str w1, .str w2, .str w3, .str w4]])) := e1
  refine ⟨w0, w1, w2, w3, w4, s', frzB_lst (G := [.lst [.str w0, .str w1, .str w2, .str w3, .str w4]]) (p := R.length + 1) ?_ (by omega) (by rw [List.getElem?_cons_succ]; exact g_0) (fun a ha => ?_), h', q1, q2, q3, q4⟩
  · refine St.fn (St.seq (St.set (d := .fro (menus.map D.fro)) ?_) (St.ret lc))
    kernel_rfl
  · simp only [List.mem_cons, List.not_mem_nil, or_false] at ha
    rcases ha with rfl | rfl | rfl | rfl | rfl <;> exact trivial
/-- a condition, flat -/
theorem flat_run {s : Bx} {R : MH} (hs : BxOk s) : ∃ (c : D) (s' : Bx), m_law_flat [.ref 0] (s.obj :: R) = .ok c (s'.obj :: R) ∧ BxOk s' ∧ Pd 3 c := by
  obtain ⟨r1, s1, e1, a1, b1, h1⟩ := ldraw (R := R) (n := 6) hs (by decide) (by decide)
  obtain ⟨r2, s2, e2, a2, b2, h2⟩ := ldraw (R := R) (n := 3) h1 (by decide) (by decide)
  have w0 : PyData.strOk ("always" : Str) = true := by decide +kernel
  have w1 : PyData.strOk ("unknown" : Str) = true := by decide +kernel
  have w2 : PyData.strOk ("below" : Str) = true := by decide +kernel
  have w3 : PyData.strOk ("not" : Str) = true := by decide +kernel
  have w4 : PyData.strOk ("or" : Str) = true := by decide +kernel
  have w5 : PyData.strOk ("equal" : Str) = true := by decide +kernel
  unfold m_law_flat b_law_flat
  by_cases c0 : r1 = 0
  · have k0 := decide_eq_true c0
    exact ⟨_, s2, by rw [y_fn]; simp only [y_seq, y_seq_nx, y_seq_rt, y_seq_ex, y_seq_bk, y_seq_ct, y_if, y_if_t, y_if_f, y_if_x, y_set, y_set_ok, y_set_x, y_ret, y_ret_ok, y_ret_x, y_retN, y_do, y_do_ok, y_do_x, y_nil, y_raise0, y_raise_ok, y_toR_rt, y_toR_nx, y_toR_ex, y_fn, y_c, y_var, y_var_ok, y_un, y_un_ok, y_un_x, y_bin, y_bin_ok, y_bin_x, y_anil, y_cons, y_cons1, y_cons1x, y_cons2, y_cons2x, y_args, y_args_ok, y_args_x, y_tup, y_tup_ok, y_fro, y_fro_ok, y_lst, y_lst_ok, y_call, y_stat, y_call_ok, y_callk, y_callk1, y_callk2, y_mkF, y_mkF_ok, y_own1, y_own1_ok, y_prop, y_own2, y_val, y_val_ok, y_val_x, y_and, y_and_t, y_and_f, y_or, y_or_t, y_or_f, y_not, y_not_ok, y_yes, y_eand_t, y_eand_f, y_eor_t, y_eor_f, y_enot_ok, y_eif, y_eif_t, y_eif_f, y_for_v, y_iseq, y_iseq_t, y_iseq_f, y_iseq_r, y_rng, y_env0, y_try, y_try_nx, y_try_rt, y_try0, y_try0_nx, y_try0_rt, y_fv0, y_fv_nx, y_fv_ct, y_fv_rt, y_lc_v, y_step, y_step_ok, y_istr, y_istr_ok, y_eApp, y_eSl, y_ePopAt, y_eIns, y_eChain, y_eMake, y_eMeth, y_eMakeRK, y_eMakeK, y_eMakeD, y_eStar, y_eXFld, y_eXIsF, y_sPutF, y_sSetIx, y_sIncF, y_sUnp, y_sUnpL, y_sDelD, y_oNone, y_oSome, y_iRange2, y_iZip2, y_eDNew, y_eLenO, y_eOwnIn, y_eDGet1, y_eDGet2, y_eDPop2, y_sForItems, y_eCallRK, y_eCallR, y_eLenSet, y_bind_ok, y_bind_x, y_toS_ok, y_toS_x, y_eRem, y_eExt, y_sAug, z_raise, z_own2_ok, z_eand, z_eor, z_enot, z_rng_ok, z_for_l, o_add, o_sub, o_lt, o_le, o_gt, o_ge, o_neg, o_eqi, o_nei, o_is0, o_is1, o_is2, o_is3, o_is4, o_is5, o_is6, o_is7, o_nt0, o_nt1, o_nt2, o_nt3, o_nt4, o_nt5, o_nt6, o_ix0, o_ix1, o_ix2, o_ix3, o_ix4, o_ix5, o_fx0, o_fx1, o_fx2, o_fx3, o_fx4, o_lenT, o_lenF, o_asB, o_tupF, o_tupT, o_listF, o_listFT, o_listL, o_listLT, o_tg1, o_tg2, o_wipe1, o_wipe2, o_yes, o_slT, o_slF, o_putF, o_li, o_liF, o_lenR, o_tupR, o_lstFR, o_lstLR, o_try_x, o_try0_x, o_unb_rt, o_unb_nx, o_rev, o_mkF, o_mkL, o_itF, o_itT, z_env0, fcal1, fcal2, fcal3, fcal4, List.map_cons, List.map_nil, List.replicate, List.append_nil, Nat.reduceSub, List.cons_append, List.nil_append, List.length_cons, List.length_nil, Nat.reduceAdd, Nat.reduceLeDiff, List.getElem?_cons_zero, List.getElem?_cons_succ, List.set_cons_zero, List.set_cons_succ, Bool.not_true, Bool.not_false, decide_true, decide_false, ite_true, ite_false, reduceCtorEq, eq_self, and_self, true_and, and_true, false_and, and_false, Nat.reduceLT, Nat.reduceEqDiff, Nat.zero_add, Int.reduceLT, Int.ofNat_zero, Int.reduceGT, e1, e2, k0], h2, pd_1 (pd_str w0)⟩
  have k0 := decide_eq_false c0
  by_cases c1 : r1 = 1
  · have k1 := decide_eq_true c1
    exact ⟨_, s2, by rw [y_fn]; simp only [y_seq, y_seq_nx, y_seq_rt, y_seq_ex, y_seq_bk, y_seq_ct, y_if, y_if_t, y_if_f, y_if_x, y_set, y_set_ok, y_set_x, y_ret, y_ret_ok, y_ret_x, y_retN, y_do, y_do_ok, y_do_x, y_nil, y_raise0, y_raise_ok, y_toR_rt, y_toR_nx, y_toR_ex, y_fn, y_c, y_var, y_var_ok, y_un, y_un_ok, y_un_x, y_bin, y_bin_ok, y_bin_x, y_anil, y_cons, y_cons1, y_cons1x, y_cons2, y_cons2x, y_args, y_args_ok, y_args_x, y_tup, y_tup_ok, y_fro, y_fro_ok, y_lst, y_lst_ok, y_call, y_stat, y_call_ok, y_callk, y_callk1, y_callk2, y_mkF, y_mkF_ok, y_own1, y_own1_ok, y_prop, y_own2, y_val, y_val_ok, y_val_x, y_and, y_and_t, y_and_f, y_or, y_or_t, y_or_f, y_not, y_not_ok, y_yes, y_eand_t, y_eand_f, y_eor_t, y_eor_f, y_enot_ok, y_eif, y_eif_t, y_eif_f, y_for_v, y_iseq, y_iseq_t, y_iseq_f, y_iseq_r, y_rng, y_env0, y_try, y_try_nx, y_try_rt, y_try0, y_try0_nx, y_try0_rt, y_fv0, y_fv_nx, y_fv_ct, y_fv_rt, y_lc_v, y_step, y_step_ok, y_istr, y_istr_ok, y_eApp, y_eSl, y_ePopAt, y_eIns, y_eChain, y_eMake, y_eMeth, y_eMakeRK, y_eMakeK, y_eMakeD, y_eStar, y_eXFld, y_eXIsF, y_sPutF, y_sSetIx, y_sIncF, y_sUnp, y_sUnpL, y_sDelD, y_oNone, y_oSome, y_iRange2, y_iZip2, y_eDNew, y_eLenO, y_eOwnIn, y_eDGet1, y_eDGet2, y_eDPop2, y_sForItems, y_eCallRK, y_eCallR, y_eLenSet, y_bind_ok, y_bind_x, y_toS_ok, y_toS_x, y_eRem, y_eExt, y_sAug, z_raise, z_own2_ok, z_eand, z_eor, z_enot, z_rng_ok, z_for_l, o_add, o_sub, o_lt, o_le, o_gt, o_ge, o_neg, o_eqi, o_nei, o_is0, o_is1, o_is2, o_is3, o_is4, o_is5, o_is6, o_is7, o_nt0, o_nt1, o_nt2, o_nt3, o_nt4, o_nt5, o_nt6, o_ix0, o_ix1, o_ix2, o_ix3, o_ix4, o_ix5, o_fx0, o_fx1, o_fx2, o_fx3, o_fx4, o_lenT, o_lenF, o_asB, o_tupF, o_tupT, o_listF, o_listFT, o_listL, o_listLT, o_tg1, o_tg2, o_wipe1, o_wipe2, o_yes, o_slT, o_slF, o_putF, o_li, o_liF, o_lenR, o_tupR, o_lstFR, o_lstLR, o_try_x, o_try0_x, o_unb_rt, o_unb_nx, o_rev, o_mkF, o_mkL, o_itF, o_itT, z_env0, fcal1, fcal2, fcal3, fcal4, List.map_cons, List.map_nil, List.replicate, List.append_nil, Nat.reduceSub, List.cons_append, List.nil_append, List.length_cons, List.length_nil, Nat.reduceAdd, Nat.reduceLeDiff, List.getElem?_cons_zero, List.getElem?_cons_succ, List.set_cons_zero, List.set_cons_succ, Bool.not_true, Bool.not_false, decide_true, decide_false, ite_true, ite_false, reduceCtorEq, eq_self, and_self, true_and, and_true, false_and, and_false, Nat.reduceLT, Nat.reduceEqDiff, Nat.zero_add, Int.reduceLT, Int.ofNat_zero, Int.reduceGT, e1, e2, k0, k1, Bool.false_eq_true] <;> rfl, h2, pd_2 (pd_str w1) pd_int⟩
  have k1 := decide_eq_false c1
  by_cases c2 : r1 = 2
  · have k2 := decide_eq_true c2
    obtain ⟨r3, s3, e3, _, _, h3⟩ := ldraw (R := R) (n := 2) h2 (by decide) (by decide)
    exact ⟨_, s3, by rw [y_fn]; simp only [y_seq, y_seq_nx, y_seq_rt, y_seq_ex, y_seq_bk, y_seq_ct, y_if, y_if_t, y_if_f, y_if_x, y_set, y_set_ok, y_set_x, y_ret, y_ret_ok, y_ret_x, y_retN, y_do, y_do_ok, y_do_x, y_nil, y_raise0, y_raise_ok, y_toR_rt, y_toR_nx, y_toR_ex, y_fn, y_c, y_var, y_var_ok, y_un, y_un_ok, y_un_x, y_bin, y_bin_ok, y_bin_x, y_anil, y_cons, y_cons1, y_cons1x, y_cons2, y_cons2x, y_args, y_args_ok, y_args_x, y_tup, y_tup_ok, y_fro, y_fro_ok, y_lst, y_lst_ok, y_call, y_stat, y_call_ok, y_callk, y_callk1, y_callk2, y_mkF, y_mkF_ok, y_own1, y_own1_ok, y_prop, y_own2, y_val, y_val_ok, y_val_x, y_and, y_and_t, y_and_f, y_or, y_or_t, y_or_f, y_not, y_not_ok, y_yes, y_eand_t, y_eand_f, y_eor_t, y_eor_f, y_enot_ok, y_eif, y_eif_t, y_eif_f, y_for_v, y_iseq, y_iseq_t, y_iseq_f, y_iseq_r, y_rng, y_env0, y_try, y_try_nx, y_try_rt, y_try0, y_try0_nx, y_try0_rt, y_fv0, y_fv_nx, y_fv_ct, y_fv_rt, y_lc_v, y_step, y_step_ok, y_istr, y_istr_ok, y_eApp, y_eSl, y_ePopAt, y_eIns, y_eChain, y_eMake, y_eMeth, y_eMakeRK, y_eMakeK, y_eMakeD, y_eStar, y_eXFld, y_eXIsF, y_sPutF, y_sSetIx, y_sIncF, y_sUnp, y_sUnpL, y_sDelD, y_oNone, y_oSome, y_iRange2, y_iZip2, y_eDNew, y_eLenO, y_eOwnIn, y_eDGet1, y_eDGet2, y_eDPop2, y_sForItems, y_eCallRK, y_eCallR, y_eLenSet, y_bind_ok, y_bind_x, y_toS_ok, y_toS_x, y_eRem, y_eExt, y_sAug, z_raise, z_own2_ok, z_eand, z_eor, z_enot, z_rng_ok, z_for_l, o_add, o_sub, o_lt, o_le, o_gt, o_ge, o_neg, o_eqi, o_nei, o_is0, o_is1, o_is2, o_is3, o_is4, o_is5, o_is6, o_is7, o_nt0, o_nt1, o_nt2, o_nt3, o_nt4, o_nt5, o_nt6, o_ix0, o_ix1, o_ix2, o_ix3, o_ix4, o_ix5, o_fx0, o_fx1, o_fx2, o_fx3, o_fx4, o_lenT, o_lenF, o_asB, o_tupF, o_tupT, o_listF, o_listFT, o_listL, o_listLT, o_tg1, o_tg2, o_wipe1, o_wipe2, o_yes, o_slT, o_slF, o_putF, o_li, o_liF, o_lenR, o_tupR, o_lstFR, o_lstLR, o_try_x, o_try0_x, o_unb_rt, o_unb_nx, o_rev, o_mkF, o_mkL, o_itF, o_itT, z_env0, fcal1, fcal2, fcal3, fcal4, List.map_cons, List.map_nil, List.replicate, List.append_nil, Nat.reduceSub, List.cons_append, List.nil_append, List.length_cons, List.length_nil, Nat.reduceAdd, Nat.reduceLeDiff, List.getElem?_cons_zero, List.getElem?_cons_succ, List.set_cons_zero, List.set_cons_succ, Bool.not_true, Bool.not_false, decide_true, decide_false, ite_true, ite_false, reduceCtorEq, eq_self, and_self, true_and, and_true, false_and, and_false, Nat.reduceLT, Nat.reduceEqDiff, Nat.zero_add, Int.reduceLT, Int.ofNat_zero, Int.reduceGT, e1, e2, e3, k0, k1, k2, Bool.false_eq_true] <;> rfl, h3, pd_3 (pd_str w2) pd_int pd_int⟩
  have k2 := decide_eq_false c2
  obtain ⟨r3, s3, e3, _, _, h3⟩ := ldraw (R := R) (n := 3) h2 (by decide) (by decide)
  by_cases c3 : r1 = 3
  · have k3 := decide_eq_true c3
    exact ⟨_, s3, by rw [y_fn]; simp only [y_seq, y_seq_nx, y_seq_rt, y_seq_ex, y_seq_bk, y_seq_ct, y_if, y_if_t, y_if_f, y_if_x, y_set, y_set_ok, y_set_x, y_ret, y_ret_ok, y_ret_x, y_retN, y_do, y_do_ok, y_do_x, y_nil, y_raise0, y_raise_ok, y_toR_rt, y_toR_nx, y_toR_ex, y_fn, y_c, y_var, y_var_ok, y_un, y_un_ok, y_un_x, y_bin, y_bin_ok, y_bin_x, y_anil, y_cons, y_cons1, y_cons1x, y_cons2, y_cons2x, y_args, y_args_ok, y_args_x, y_tup, y_tup_ok, y_fro, y_fro_ok, y_lst, y_lst_ok, y_call, y_stat, y_call_ok, y_callk, y_callk1, y_callk2, y_mkF, y_mkF_ok, y_own1, y_own1_ok, y_prop, y_own2, y_val, y_val_ok, y_val_x, y_and, y_and_t, y_and_f, y_or, y_or_t, y_or_f, y_not, y_not_ok, y_yes, y_eand_t, y_eand_f, y_eor_t, y_eor_f, y_enot_ok, y_eif, y_eif_t, y_eif_f, y_for_v, y_iseq, y_iseq_t, y_iseq_f, y_iseq_r, y_rng, y_env0, y_try, y_try_nx, y_try_rt, y_try0, y_try0_nx, y_try0_rt, y_fv0, y_fv_nx, y_fv_ct, y_fv_rt, y_lc_v, y_step, y_step_ok, y_istr, y_istr_ok, y_eApp, y_eSl, y_ePopAt, y_eIns, y_eChain, y_eMake, y_eMeth, y_eMakeRK, y_eMakeK, y_eMakeD, y_eStar, y_eXFld, y_eXIsF, y_sPutF, y_sSetIx, y_sIncF, y_sUnp, y_sUnpL, y_sDelD, y_oNone, y_oSome, y_iRange2, y_iZip2, y_eDNew, y_eLenO, y_eOwnIn, y_eDGet1, y_eDGet2, y_eDPop2, y_sForItems, y_eCallRK, y_eCallR, y_eLenSet, y_bind_ok, y_bind_x, y_toS_ok, y_toS_x, y_eRem, y_eExt, y_sAug, z_raise, z_own2_ok, z_eand, z_eor, z_enot, z_rng_ok, z_for_l, o_add, o_sub, o_lt, o_le, o_gt, o_ge, o_neg, o_eqi, o_nei, o_is0, o_is1, o_is2, o_is3, o_is4, o_is5, o_is6, o_is7, o_nt0, o_nt1, o_nt2, o_nt3, o_nt4, o_nt5, o_nt6, o_ix0, o_ix1, o_ix2, o_ix3, o_ix4, o_ix5, o_fx0, o_fx1, o_fx2, o_fx3, o_fx4, o_lenT, o_lenF, o_asB, o_tupF, o_tupT, o_listF, o_listFT, o_listL, o_listLT, o_tg1, o_tg2, o_wipe1, o_wipe2, o_yes, o_slT, o_slF, o_putF, o_li, o_liF, o_lenR, o_tupR, o_lstFR, o_lstLR, o_try_x, o_try0_x, o_unb_rt, o_unb_nx, o_rev, o_mkF, o_mkL, o_itF, o_itT, z_env0, fcal1, fcal2, fcal3, fcal4, List.map_cons, List.map_nil, List.replicate, List.append_nil, Nat.reduceSub, List.cons_append, List.nil_append, List.length_cons, List.length_nil, Nat.reduceAdd, Nat.reduceLeDiff, List.getElem?_cons_zero, List.getElem?_cons_succ, List.set_cons_zero, List.set_cons_succ, Bool.not_true, Bool.not_false, decide_true, decide_false, ite_true, ite_false, reduceCtorEq, eq_self, and_self, true_and, and_true, false_and, and_false, Nat.reduceLT, Nat.reduceEqDiff, Nat.zero_add, Int.reduceLT, Int.ofNat_zero, Int.reduceGT, e1, e2, e3, k0, k1, k2, k3, Bool.false_eq_true] <;> rfl, h3, pd_2 (pd_str w3) (pd_3 (pd_str w5) pd_int pd_int)⟩
  have k3 := decide_eq_false c3
  by_cases c4 : r1 = 4
  · have k4 := decide_eq_true c4
    obtain ⟨r4, s4, e4, _, _, h4⟩ := ldraw (R := R) (n := 3) h3 (by decide) (by decide)
    exact ⟨_, s4, by rw [y_fn]; simp only [y_seq, y_seq_nx, y_seq_rt, y_seq_ex, y_seq_bk, y_seq_ct, y_if, y_if_t, y_if_f, y_if_x, y_set, y_set_ok, y_set_x, y_ret, y_ret_ok, y_ret_x, y_retN, y_do, y_do_ok, y_do_x, y_nil, y_raise0, y_raise_ok, y_toR_rt, y_toR_nx, y_toR_ex, y_fn, y_c, y_var, y_var_ok, y_un, y_un_ok, y_un_x, y_bin, y_bin_ok, y_bin_x, y_anil, y_cons, y_cons1, y_cons1x, y_cons2, y_cons2x, y_args, y_args_ok, y_args_x, y_tup, y_tup_ok, y_fro, y_fro_ok, y_lst, y_lst_ok, y_call, y_stat, y_call_ok, y_callk, y_callk1, y_callk2, y_mkF, y_mkF_ok, y_own1, y_own1_ok, y_prop, y_own2, y_val, y_val_ok, y_val_x, y_and, y_and_t, y_and_f, y_or, y_or_t, y_or_f, y_not, y_not_ok, y_yes, y_eand_t, y_eand_f, y_eor_t, y_eor_f, y_enot_ok, y_eif, y_eif_t, y_eif_f, y_for_v, y_iseq, y_iseq_t, y_iseq_f, y_iseq_r, y_rng, y_env0, y_try, y_try_nx, y_try_rt, y_try0, y_try0_nx, y_try0_rt, y_fv0, y_fv_nx, y_fv_ct, y_fv_rt, y_lc_v, y_step, y_step_ok, y_istr, y_istr_ok, y_eApp, y_eSl, y_ePopAt, y_eIns, y_eChain, y_eMake, y_eMeth, y_eMakeRK, y_eMakeK, y_eMakeD, y_eStar, y_eXFld, y_eXIsF, y_sPutF, y_sSetIx, y_sIncF, y_sUnp, y_sUnpL, y_sDelD, y_oNone, y_oSome, y_iRange2, y_iZip2, y_eDNew, y_eLenO, y_eOwnIn, y_eDGet1, y_eDGet2, y_eDPop2, y_sForItems, y_eCallRK, y_eCallR, y_eLenSet, y_bind_ok, y_bind_x, y_toS_ok, y_toS_x, y_eRem, y_eExt, y_sAug, z_raise, z_own2_ok, z_eand, z_eor, z_enot, z_rng_ok, z_for_l, o_add, o_sub, o_lt, o_le, o_gt, o_ge, o_neg, o_eqi, o_nei, o_is0, o_is1, o_is2, o_is3, o_is4, o_is5, o_is6, o_is7, o_nt0, o_nt1, o_nt2, o_nt3, o_nt4, o_nt5, o_nt6, o_ix0, o_ix1, o_ix2, o_ix3, o_ix4, o_ix5, o_fx0, o_fx1, o_fx2, o_fx3, o_fx4, o_lenT, o_lenF, o_asB, o_tupF, o_tupT, o_listF, o_listFT, o_listL, o_listLT, o_tg1, o_tg2, o_wipe1, o_wipe2, o_yes, o_slT, o_slF, o_putF, o_li, o_liF, o_lenR, o_tupR, o_lstFR, o_lstLR, o_try_x, o_try0_x, o_unb_rt, o_unb_nx, o_rev, o_mkF, o_mkL, o_itF, o_itT, z_env0, fcal1, fcal2, fcal3, fcal4, List.map_cons, List.map_nil, List.replicate, List.append_nil, Nat.reduceSub, List.cons_append, List.nil_append, List.length_cons, List.length_nil, Nat.reduceAdd, Nat.reduceLeDiff, List.getElem?_cons_zero, List.getElem?_cons_succ, List.set_cons_zero, List.set_cons_succ, Bool.not_true, Bool.not_false, decide_true, decide_false, ite_true, ite_false, reduceCtorEq, eq_self, and_self, true_and, and_true, false_and, and_false, Nat.reduceLT, Nat.reduceEqDiff, Nat.zero_add, Int.reduceLT, Int.ofNat_zero, Int.reduceGT, e1, e2, e3, e4, k0, k1, k2, k3, k4, Bool.false_eq_true] <;> rfl, h4, pd_3 (pd_str w4) (pd_2 (pd_str w1) pd_int) (pd_3 (pd_str w5) pd_int pd_int)⟩
  have k4 := decide_eq_false c4
  exact ⟨_, s3, by rw [y_fn]; simp only [y_seq, y_seq_nx, y_seq_rt, y_seq_ex, y_seq_bk, y_seq_ct, y_if, y_if_t, y_if_f, y_if_x, y_set, y_set_ok, y_set_x, y_ret, y_ret_ok, y_ret_x, y_retN, y_do, y_do_ok, y_do_x, y_nil, y_raise0, y_raise_ok, y_toR_rt, y_toR_nx, y_toR_ex, y_fn, y_c, y_var, y_var_ok, y_un, y_un_ok, y_un_x, y_bin, y_bin_ok, y_bin_x, y_anil, y_cons, y_cons1, y_cons1x, y_cons2, y_cons2x, y_args, y_args_ok, y_args_x, y_tup, y_tup_ok, y_fro, y_fro_ok, y_lst, y_lst_ok, y_call, y_stat, y_call_ok, y_callk, y_callk1, y_callk2, y_mkF, y_mkF_ok, y_own1, y_own1_ok, y_prop, y_own2, y_val, y_val_ok, y_val_x, y_and, y_and_t, y_and_f, y_or, y_or_t, y_or_f, y_not, y_not_ok, y_yes, y_eand_t, y_eand_f, y_eor_t, y_eor_f, y_enot_ok, y_eif, y_eif_t, y_eif_f, y_for_v, y_iseq, y_iseq_t, y_iseq_f, y_iseq_r, y_rng, y_env0, y_try, y_try_nx, y_try_rt, y_try0, y_try0_nx, y_try0_rt, y_fv0, y_fv_nx, y_fv_ct, y_fv_rt, y_lc_v, y_step, y_step_ok, y_istr, y_istr_ok, y_eApp, y_eSl, y_ePopAt, y_eIns, y_eChain, y_eMake, y_eMeth, y_eMakeRK, y_eMakeK, y_eMakeD, y_eStar, y_eXFld, y_eXIsF, y_sPutF, y_sSetIx, y_sIncF, y_sUnp, y_sUnpL, y_sDelD, y_oNone, y_oSome, y_iRange2, y_iZip2, y_eDNew, y_eLenO, y_eOwnIn, y_eDGet1, y_eDGet2, y_eDPop2, y_sForItems, y_eCallRK, y_eCallR, y_eLenSet, y_bind_ok, y_bind_x, y_toS_ok, y_toS_x, y_eRem, y_eExt, y_sAug, z_raise, z_own2_ok, z_eand, z_eor, z_enot, z_rng_ok, z_for_l, o_add, o_sub, o_lt, o_le, o_gt, o_ge, o_neg, o_eqi, o_nei, o_is0, o_is1, o_is2, o_is3, o_is4, o_is5, o_is6, o_is7, o_nt0, o_nt1, o_nt2, o_nt3, o_nt4, o_nt5, o_nt6, o_ix0, o_ix1, o_ix2, o_ix3, o_ix4, o_ix5, o_fx0, o_fx1, o_fx2, o_fx3, o_fx4, o_lenT, o_lenF, o_asB, o_tupF, o_tupT, o_listF, o_listFT, o_listL, o_listLT, o_tg1, o_tg2, o_wipe1, o_wipe2, o_yes, o_slT, o_slF, o_putF, o_li, o_liF, o_lenR, o_tupR, o_lstFR, o_lstLR, o_try_x, o_try0_x, o_unb_rt, o_unb_nx, o_rev, o_mkF, o_mkL, o_itF, o_itT, z_env0, fcal1, fcal2, fcal3, fcal4, List.map_cons, List.map_nil, List.replicate, List.append_nil, Nat.reduceSub, List.cons_append, List.nil_append, List.length_cons, List.length_nil, Nat.reduceAdd, Nat.reduceLeDiff, List.getElem?_cons_zero, List.getElem?_cons_succ, List.set_cons_zero, List.set_cons_succ, Bool.not_true, Bool.not_false, decide_true, decide_false, ite_true, ite_false, reduceCtorEq, eq_self, and_self, true_and, and_true, false_and, and_false, Nat.reduceLT, Nat.reduceEqDiff, Nat.zero_add, Int.reduceLT, Int.ofNat_zero, Int.reduceGT, e1, e2, e3, k0, k1, k2, k3, k4, Bool.false_eq_true] <;> rfl, h3, pd_3 (pd_str w5) pd_int pd_int⟩
end K80
-- T19a
namespace K80
open PySem L2 T2
/-! ### changes drawn -/
theorem cons_at {o : MO} {T : MH} {i : Nat} : (o :: T)[i + 1]? = T[i]? := List.getElem?_cons_succ
theorem at1 {o x : MO} {T : MH} {i : Nat} (h : T[i]? = some x) : (o :: T)[i + 1]? = some x := by rw [cons_at]; exact h
theorem cons_set {o x : MO} {T : MH} {i : Nat} : (o :: T).set (i + 1) x = o :: T.set i x := rfl
theorem diff_loop {x1 x2 x3 x4 x5 : Option D} {t : Nat} : ∀ (ns : List Str) (df : List (Str × Int)) (s : Bx) (T : MH) (x7 : Option D), BxOk s → T[t]? = some (.lst (df.map dfD)) → (∀ z ∈ ns, PyData.strOk z = true) → df.length + ns.length ≤ 10 →
    ∃ df' s' T' y7, forV (tgName 7) lp_law_changes_1 (ns.map D.str) [some (.ref 0), x1, x2, x3, x4, x5, some (.ref (t + 1)), x7] (s.obj :: T) = .nx [some (.ref 0), x1, x2, x3, x4, x5, some (.ref (t + 1)), y7] (s'.obj :: T') ∧ BxOk s' ∧ T'[t]? = some (.lst ((df ++ df').map dfD)) ∧ (∀ x ∈ df', PyData.strOk x.1 = true) ∧ df'.length ≤ ns.length ∧ Fr [t] T T'
  | [], df, s, T, x7, hs, hT, _, _ => ⟨[], s, T, x7, by rw [List.map_nil, z_fv0], hs, by rw [List.append_nil]; exact hT, by simp, Nat.le_refl _, Fr.refl⟩
  | z :: ns, df, s, T, x7, hs, hT, hz, hl => by
    rw [List.length_cons] at hl
    obtain ⟨r1, s1, d1, a1, b1, h1⟩ := ed (R := T) (n := 2) hs (by decide) (by decide)
    have c1 : bVal (eBin dEq (eCall 2 m_law_draw (eCons (eVar 0) (eCons (eC (.int 2)) (eNil)))) (eC (.int 1))) [some (.ref 0), x1, x2, x3, x4, x5, some (.ref (t + 1)), some (.str z)] (s.obj :: T) = .ok (decide (r1 = 1)) (s1.obj :: T) := St.val (St.bin (f := dEq) (d1 _ _ fun _ => rfl) rfl o_eqi)
    have body : ∃ df1 s2 T1, lp_law_changes_1 [some (.ref 0), x1, x2, x3, x4, x5, some (.ref (t + 1)), some (.str z)] (s.obj :: T) = .nx [some (.ref 0), x1, x2, x3, x4, x5, some (.ref (t + 1)), some (.str z)] (s2.obj :: T1) ∧ BxOk s2 ∧ T1[t]? = some (.lst ((df ++ df1).map dfD)) ∧ (∀ x ∈ df1, PyData.strOk x.1 = true) ∧ df1.length ≤ 1 ∧ Fr [t] T T1 := by
      by_cases hr : r1 = 1
      · rw [decide_eq_true hr] at c1
        obtain ⟨r2, s2, d2, a2, b2, h2⟩ := ed (R := T) (n := 5) h1 (by decide) (by decide)
        refine ⟨[(z, r2 - 2)], s2, T.set t (.lst (df.map dfD ++ [dfD (z, r2 - 2)])), ?_, h2, ?_, fun x hx => by obtain rfl := List.mem_singleton.mp hx; exact hz z List.mem_cons_self, Nat.le_refl _, Fr.set (by simp)⟩
        · exact St.ifT c1 (St.sdo (St.app (n := t + 1) rfl ⟨_, at1 hT⟩ (St.tup (ds := [.str z, .int (r2 - 2)]) (St.cons rfl (St.cons (St.bin (f := dSub) (d2 _ _ fun _ => rfl) rfl o_sub) St.nil))) (at1 hT) (by rw [List.length_map]; omega)))
        · rw [List.map_append]; exact at_set hT
      · rw [decide_eq_false hr] at c1
        exact ⟨[], s1, T, St.ifF c1 y_nil, h1, by rw [List.append_nil]; exact hT, by simp, by simp, Fr.refl⟩
    obtain ⟨df1, s2, T1, q1, q2, q3, q4, q5, q6⟩ := body
    obtain ⟨df', s', T', y7, i1, i2, i3, i4, i5, i6⟩ := diff_loop (x1 := x1) (x2 := x2) (x3 := x3) (x4 := x4) (x5 := x5) (t := t) ns (df ++ df1) s2 T1 (some (.str z)) q2 q3 (fun w hw => hz w (List.mem_cons_of_mem _ hw)) (by rw [List.length_append]; omega)
    refine ⟨df1 ++ df', s', T', y7, ?_, i2, by rw [← List.append_assoc]; exact i3, fun x hx => ?_, by rw [List.length_append, List.length_cons]; omega, q6.trans i6⟩
    · rw [List.map_cons]
      exact St.fvN (tg := tgName 7) rfl q1 i1
    · rcases List.mem_append.mp hx with hx | hx
      · exact q4 x hx
      · exact i4 x hx
/-- an item of the list of changes, as it stands -/
def ItAt (k : Nat) (T : MH) (d : D) (c : Ch) : Prop := ∃ p, d = .tup [c.im, .ref (p + 1)] ∧ k < p ∧ T[p]? = some (.lst (c.df.map dfD))
theorem ItAt.keep {k a : Nat} {T T' : MH} {d : D} {c : Ch} (h : ItAt k T d c) (f : Fr [a] T T') (ha : a ≤ k) : ItAt k T' d c := by
  obtain ⟨p, h1, h2, h3⟩ := h
  exact ⟨p, h1, h2, f.keep p _ h3 (by simp; omega)⟩
inductive All2 {α β : Type} (R : α → β → Prop) : List α → List β → Prop
  | nil : All2 R [] []
  | cons {a : α} {b : β} {as : List α} {bs : List β} (h : R a b) (t : All2 R as bs) : All2 R (a :: as) (b :: bs)
theorem All2.imp {α β : Type} {R S : α → β → Prop} (f : ∀ a b, R a b → S a b) : ∀ {as : List α} {bs : List β}, All2 R as bs → All2 S as bs
  | _, _, .nil => .nil
  | _, _, .cons h t => .cons (f _ _ h) (t.imp f)
theorem All2.snoc {α β : Type} {R : α → β → Prop} {a : α} {b : β} (h : R a b) : ∀ {as : List α} {bs : List β}, All2 R as bs → All2 R (as ++ [a]) (bs ++ [b])
  | _, _, .nil => .cons h .nil
  | _, _, .cons g t => .cons g (t.snoc h)
theorem All2.len {α β : Type} {R : α → β → Prop} : ∀ {as : List α} {bs : List β}, All2 R as bs → as.length = bs.length
  | _, _, .nil => rfl
  | _, _, .cons _ t => by rw [List.length_cons, List.length_cons, t.len]
theorem pd_rowD {k : Nat} (w : Rw) : Pd (k + 2) w.d := pd_row w
theorem chg_turn {s : Bx} {T : MH} {a : Nat} {t : Str} {acc : List D} {cs : List Ch} {x2 x4 x5 x6 x7 : Option D} (hs : BxOk s) (ht : PyData.strOk t = true) (hT : T[a]? = some (.lst acc)) (hA : All2 (ItAt a T) acc cs) (hl : acc.length ≤ 10) :
    ∃ (c : Ch) (d : D) (s' : Bx) (T' : MH) (y5 y6 y7 : Option D), lp_law_changes_2 [some (.ref 0), some (.str t), x2, some (.ref (a + 1)), x4, x5, x6, x7] (s.obj :: T) = .nx [some (.ref 0), some (.str t), x2, some (.ref (a + 1)), x4, y5, y6, y7] (s'.obj :: T') ∧ BxOk s' ∧ T'[a]? = some (.lst (acc ++ [d])) ∧ All2 (ItAt a T') (acc ++ [d]) (cs ++ [c]) ∧ ChOk c ∧ Fr [a] T T' := by
  obtain ⟨r1, s1, d1, a1, b1, h1⟩ := ed (R := T) (n := 3) hs (by decide) (by decide)
  have hal := at_lt hT
  have c1 : bVal (eBin dGt (eCall 2 m_law_draw (eCons (eVar 0) (eCons (eC (.int 3)) (eNil)))) (eC (.int 0))) [some (.ref 0), some (.str t), x2, some (.ref (a + 1)), x4, some .non, x6, x7] (s.obj :: T) = .ok (decide (0 < r1)) (s1.obj :: T) := St.val (St.bin (f := dGt) (d1 _ _ fun _ => rfl) rfl o_gt)
  have p5 : ∃ (v5 : D) (s2 : Bx), sIf (bVal (eBin dGt (eCall 2 m_law_draw (eCons (eVar 0) (eCons (eC (.int 3)) (eNil)))) (eC (.int 0)))) (sSet 5 (eCall 1 m_law_row (eCons (eVar 0) (eNil)))) (sNil) [some (.ref 0), some (.str t), x2, some (.ref (a + 1)), x4, some .non, x6, x7] (s.obj :: T) = .nx [some (.ref 0), some (.str t), x2, some (.ref (a + 1)), x4, some v5, x6, x7] (s2.obj :: T) ∧ BxOk s2 ∧ Pd 3 v5 := by
    by_cases hr : 0 < r1
    · rw [decide_eq_true hr] at c1
      obtain ⟨w, s2, e2, h2⟩ := lrow_run (R := T) h1
      exact ⟨w.d, s2, St.ifT c1 (St.set (St.call (St.cons rfl St.nil) rfl e2)), h2, pd_row w⟩
    · rw [decide_eq_false hr] at c1
      exact ⟨.non, s1, St.ifF c1 y_nil, h1, .inl rfl⟩
  obtain ⟨v5, s2, q5, h2, w5⟩ := p5
  let T1 : MH := T ++ [.lst []]
  have hT1 : T1[T.length]? = some (.lst (([] : List (Str × Int)).map dfD)) := by simp [T1]
  have s6 : sSet 6 (eLst (eNil)) [some (.ref 0), some (.str t), x2, some (.ref (a + 1)), x4, some v5, x6, x7] (s2.obj :: T) = .nx [some (.ref 0), some (.str t), x2, some (.ref (a + 1)), x4, some v5, some (.ref (T.length + 1)), x7] (s2.obj :: T1) := St.set (St.lst (M1 := s2.obj :: T) St.nil)
  obtain ⟨df, s3, T2, y7, i1, h3, i3, i4, i5, i6⟩ := diff_loop (x1 := some (.str t)) (x2 := x2) (x3 := some (.ref (a + 1))) (x4 := x4) (x5 := some v5) (t := T.length) (["s", "t"] : List Str) [] s2 T1 x7 h2 hT1 (fun z hz => by
    simp only [List.mem_cons, List.not_mem_nil, or_false] at hz
    rcases hz with rfl | rfl <;> decide +kernel) (by decide)
  rw [List.nil_append] at i3
  have f2 : Fr [] T T2 := (Fr.app (S := [T.length]) (G := [.lst []])).trans i6 |>.new (by simp)
  have hT2 := f2.keep a _ hT (by simp)
  obtain ⟨r4, s4, d4, a4, b4, h4⟩ := ed (R := T2) (n := 6) h3 (by decide) (by decide)
  let im : D := .tup [.str "row", .str t, .int r4, v5]
  let d : D := .tup [im, .ref (T.length + 1)]
  have f3 : Fr [a] T2 (T2.set a (.lst (acc ++ [d]))) := Fr.set (by simp)
  refine ⟨⟨im, df⟩, d, s4, T2.set a (.lst (acc ++ [d])), some v5, some (.ref (T.length + 1)), y7, ?_, h4, at_set hT2, ?_, ⟨?_, i4, i5⟩, (f2.mono (by simp)).trans f3⟩
  · refine St.seq (St.set rfl) (St.seq q5 (St.seq s6 (St.seq (for_nx (M0 := s2.obj :: T1) (ds := (["s", "t"] : List Str).map D.str) (St.itF (St.fro (ds := [.str "s", .str "t"]) (St.cons rfl (St.cons rfl St.nil)))) i1) ?_)))
    exact St.sdo (St.app (n := a + 1) rfl ⟨_, at1 hT2⟩ (St.tup (ds := [im, .ref (T.length + 1)]) (St.cons (St.tup (ds := [.str "row", .str t, .int r4, v5]) (St.cons rfl (St.cons rfl (St.cons (d4 _ _ fun _ => rfl) (St.cons rfl St.nil))))) (St.cons rfl St.nil))) (at1 hT2) (by omega))
  · refine All2.snoc ⟨T.length, rfl, hal, at_off i3 (by omega)⟩ (hA.imp fun d' c' h => ?_)
    exact (h.keep (f2.mono (by simp) : Fr [a] T T2) (Nat.le_refl _)).keep f3 (Nat.le_refl _)
  · refine pd_tup (by simp) fun x hx => ?_
    simp only [List.mem_cons, List.not_mem_nil, or_false] at hx
    rcases hx with rfl | rfl | rfl | rfl
    · exact pd_str (by decide +kernel)
    · exact pd_str ht
    · exact pd_int
    · exact w5
theorem chg_fz {M : MH} {a k : Nat} {T : MH} {o : MO} (hk : k ≤ a + 1) : ∀ {acc : List D} {cs : List Ch}, All2 (ItAt a T) acc cs → (∀ c ∈ cs, ChOk c) → fzAs (rfz (o :: T) k 3) acc = some (cs.map Ch.d)
  | _, _, .nil, _ => rfl
  | _, _, .cons (b := c) h t, hc => by
    obtain ⟨p, rfl, h2, h3⟩ := h
    have hcc := hc c List.mem_cons_self
    have i1 := chg_fz (M := M) (o := o) hk t fun c' hc' => hc c' (List.mem_cons_of_mem _ hc')
    have e1 : fzA (rfz (o :: T) k 3) (.ref (p + 1)) = some (.fro (c.df.map dfD)) := fz_list (f := 2) (by omega) (at1 h3) (fzs_low (lows_of fun x hx => by
      obtain ⟨y, hy, rfl⟩ := List.mem_map.mp hx
      exact low_tup fun z hz => by
        simp only [List.mem_cons, List.not_mem_nil, or_false] at hz
        rcases hz with rfl | rfl <;> exact trivial))
    have e0 : fzA (rfz (o :: T) k 3) (.tup [c.im, .ref (p + 1)]) = some c.d := by
      show (fzAs (rfz (o :: T) k 3) [c.im, .ref (p + 1)]).map D.tup = _
      unfold fzAs
      rw [fz_pd hcc.im]
      unfold fzAs
      rw [e1]
      rfl
    unfold fzAs
    rw [e0, i1]
    rfl
theorem changes_run {s : Bx} {R : MH} {t : Str} {n : Nat} (hs : BxOk s) (ht : PyData.strOk t = true) (hn : n ≤ 6) : ∃ (cs : List Ch) (s' : Bx), m_law_changes [.ref 0, .str t, .int (n : Nat)] (s.obj :: R) = .ok (.fro (cs.map Ch.d)) (s'.obj :: R) ∧ BxOk s' ∧ cs.length = n ∧ ∀ c ∈ cs, ChOk c := by
  let T0 : MH := R ++ [.lst []]
  have hT0 : T0[R.length]? = some (.lst []) := by simp [T0]
  obtain ⟨e', M', lp, s', T', x4, x5, x6, x7, acc, cs, rfl, rfl, h1, h2, h3, h4, h5, h6⟩ := loop_inv (body := lp_law_changes_2) (tg := tgName 4) (I := fun k e M => ∃ (s' : Bx) (T' : MH) (x4 x5 x6 x7 : Option D) (acc : List D) (cs : List Ch), e = [some (.ref 0), some (.str t), some (.int (n : Nat)), some (.ref (R.length + 1)), x4, x5, x6, x7] ∧ M = s'.obj :: T' ∧ BxOk s' ∧ T'[R.length]? = some (.lst acc) ∧ All2 (ItAt R.length T') acc cs ∧ cs.length = k ∧ (∀ c ∈ cs, ChOk c) ∧ Fr [R.length] T0 T') (rangeD 0 n) 0 [some (.ref 0), some (.str t), some (.int (n : Nat)), some (.ref (R.length + 1)), none, none, none, none] (s.obj :: T0) ⟨s, T0, none, none, none, none, [], [], rfl, rfl, hs, hT0, .nil, rfl, by simp, Fr.refl⟩ (fun j hj e M h => by
      obtain ⟨s', T', x4, x5, x6, x7, acc, cs, rfl, rfl, h1, h2, h3, h4, h5, h6⟩ := h
      rw [rangeD_len] at hj
      have hl := h3.len
      obtain ⟨c, d, s2, T2, y5, y6, y7, r1, r2, r3, r4, r5, r6⟩ := chg_turn (x2 := some (.int (n : Nat))) (x4 := some ((rangeD 0 n)[j]'(by rw [rangeD_len]; exact hj))) (x5 := x5) (x6 := x6) (x7 := x7) h1 ht h2 h3 (by omega)
      exact ⟨_, _, _, rfl, r1, s2, T2, _, y5, y6, y7, acc ++ [d], cs ++ [c], rfl, rfl, r2, r3, r4, by rw [List.length_append, List.length_singleton]; omega, fun c' hc' => by
        rcases List.mem_append.mp hc' with hc' | hc'
        · exact h5 c' hc'
        · obtain rfl := List.mem_singleton.mp hc'; exact r5, h6.trans r6⟩)
  rw [Nat.zero_add, rangeD_len] at h4
  have f : Fr [] R T' := ((Fr.app (S := [R.length]) (M := R) (G := [.lst []])).trans h6).new (by simp)
  obtain ⟨G, hG⟩ := f.ext
  refine ⟨cs, s', frz_ok (b := s.obj) (b' := s'.obj) (G := G) (d := .ref (R.length + 1)) ?_ box_low ?_, h1, h4, h5⟩
  · rw [← hG]
    have a3 : eLst (eNil) [some (.ref 0), some (.str t), some (.int (n : Nat)), none, none, none, none, none] (s.obj :: R) = .ok (.ref (R.length + 1)) (s.obj :: T0) := St.lst (M1 := s.obj :: R) St.nil
    have hr := St.itR (m := eVar 2) (e := [some (.ref 0), some (.str t), some (.int (n : Nat)), some (.ref (R.length + 1)), none, none, none, none]) (M := s.obj :: T0) (M1 := s.obj :: T0) (i := (n : Nat)) rfl (by omega) (by omega)
    rw [Int.toNat_natCast] at hr
    exact St.fn (St.seq (St.set a3) (St.seq (for_nx hr lp) (St.ret rfl)))
  · rw [← hG]
    exact fz_list (f := 3) (Nat.le_refl _) (at1 h2) (chg_fz (M := R) (Nat.le_refl _) h3 h5)
end K80
-- T19a
namespace K80
open PySem L2 T2
/-! ### a script's calls drawn -/
theorem cl_low {c : Cl} (h : match c with | .wr _ st cs => Pd 4 st ∧ ∀ c ∈ cs, ChOk c | .un _ cs => ∀ c ∈ cs, ChOk c | _ => True) : D.low 0 c.d := by
  cases c with
  | beg n => exact ⟨trivial, trivial, trivial⟩
  | en n => exact ⟨trivial, trivial, trivial⟩
  | bk n => exact ⟨trivial, trivial, trivial⟩
  | wr n st cs => exact ⟨trivial, trivial, low_pd h.1, low_fro fun a ha => (by obtain ⟨c, hc, rfl⟩ := List.mem_map.mp ha; exact ch_low (h.2 c hc)), trivial⟩
  | un n cs => exact ⟨trivial, trivial, low_fro fun a ha => (by obtain ⟨c, hc, rfl⟩ := List.mem_map.mp ha; exact ch_low (h c hc)), trivial⟩
theorem ok_low {c : Cl} (h : ClOk c) : D.low 0 c.d := cl_low (by
  cases c with
  | wr n st cs => exact ⟨h.1, h.2.1⟩
  | un n cs => exact h.1
  | _ => trivial)
/-- what one script writes, and its end -/
structure Wrt (n : Int) (cs : List Cl) : Prop where
  ex : ∃ (ws : List (D × List Ch)) (e : List Cl), cs = (ws.map fun x => Cl.wr n x.1 x.2) ++ e ∧ 1 ≤ ws.length ∧ ws.length ≤ 2 ∧ (∀ x ∈ ws, Pd 4 x.1 ∧ (∀ c ∈ x.2, ChOk c) ∧ 1 ≤ x.2.length ∧ x.2.length ≤ 3) ∧ (e = [Cl.en n] ∨ ∃ us, e = [Cl.un n us, Cl.bk n] ∧ (∀ c ∈ us, ChOk c) ∧ us.length ≤ 6)
theorem Wrt.ok {n : Int} {cs : List Cl} (h : Wrt n cs) : (∀ c ∈ cs, ClOk c) ∧ cs.length ≤ 4 := by
  obtain ⟨ws, e, rfl, h1, h2, h3, h4⟩ := h.ex
  refine ⟨fun c hc => ?_, ?_⟩
  · rcases List.mem_append.mp hc with hc | hc
    · obtain ⟨x, hx, rfl⟩ := List.mem_map.mp hc
      exact ⟨(h3 x hx).1, (h3 x hx).2.1, (h3 x hx).2.2.2⟩
    · rcases h4 with rfl | ⟨us, rfl, h5, h6⟩
      · obtain rfl := List.mem_singleton.mp hc; trivial
      · simp only [List.mem_cons, List.not_mem_nil, or_false] at hc
        rcases hc with rfl | rfl
        · exact ⟨h5, h6⟩
        · trivial
  · rw [List.length_append, List.length_map]
    rcases h4 with rfl | ⟨us, rfl, _⟩
    · rw [List.length_singleton]; omega
    · show ws.length + 2 ≤ 4; omega
theorem written_run {s : Bx} {R : MH} {t : Str} {n : Int} (hs : BxOk s) (ht : PyData.strOk t = true) : ∃ (cs : List Cl) (s' : Bx), m_law_written [.ref 0, .str t, .int n] (s.obj :: R) = .ok (.fro (cs.map Cl.d)) (s'.obj :: R) ∧ BxOk s' ∧ Wrt n cs := by
  let L := R.length
  let E (w : Nat) (x5 x6 : Option D) : Env2 := [some (.ref 0), some (.str t), some (.int n), some (.ref (L + 1)), some (.int (w : Nat)), x5, x6]
  let T (ws : List (D × List Ch)) : MH := R ++ [.lst ((ws.map fun x => Cl.wr n x.1 x.2).map Cl.d)]
  have hT : ∀ ws, (T ws)[L]? = some (.lst ((ws.map fun x => Cl.wr n x.1 x.2).map Cl.d)) := fun ws => by simp [T, L]
  obtain ⟨r0, s0, d0, a0, b0, h0⟩ := ed (R := T []) (n := 2) hs (by decide) (by decide)
  have turn : ∀ (ws : List (D × List Ch)) (w : Nat) (s : Bx) (x5 x6 : Option D), BxOk s → ws.length ≤ 5 → ∃ (st : D) (ch : List Ch) (s' : Bx) (y6 : Option D), lp_law_written_1 (E w x5 x6) (s.obj :: T ws) = .nx (E (w + ch.length) x5 y6) (s'.obj :: T (ws ++ [(st, ch)])) ∧ BxOk s' ∧ Pd 4 st ∧ (∀ c ∈ ch, ChOk c) ∧ 1 ≤ ch.length ∧ ch.length ≤ 3 := fun ws w s x5 x6 hs hl => by
    obtain ⟨r1, s1, d1, a1, b1, h1⟩ := ed (R := T ws) (n := 3) hs (by decide) (by decide)
    obtain ⟨m, rfl⟩ := Int.eq_ofNat_of_zero_le a1
    obtain ⟨ch, s2, e2, h2, l2, c2⟩ := changes_run (R := T ws) (n := 1 + m) h1 ht (by omega)
    obtain ⟨cd, s3, e3, h3, p3⟩ := flat_run (R := T ws) h2
    have s6 : sSet 6 (eCall 3 m_law_changes (eCons (eVar 0) (eCons (eVar 1) (eCons (eBin dAdd (eC (.int 1)) (eCall 2 m_law_draw (eCons (eVar 0) (eCons (eC (.int 3)) (eNil))))) (eNil))))) (E w x5 x6) (s.obj :: T ws) = .nx (E w x5 (some (.fro (ch.map Ch.d)))) (s2.obj :: T ws) := by
      refine St.set (St.call (ds := [.ref 0, .str t, .int ((1 + m : Nat) : Int)]) (M1 := s1.obj :: T ws) (St.cons rfl (St.cons rfl (St.cons (St.bin (f := dAdd) (M1 := s.obj :: T ws) rfl (d1 _ _ fun _ => rfl) ?_) St.nil))) rfl e2)
      rw [o_add]
      rfl
    have s4 : sSet 4 (eBin dAdd (eVar 4) (eArgs dLen (eCons (eVar 6) (eNil)))) (E w x5 (some (.fro (ch.map Ch.d)))) (s2.obj :: T ws) = .nx (E (w + ch.length) x5 (some (.fro (ch.map Ch.d)))) (s2.obj :: T ws) := by
      refine St.set (St.bin (f := dAdd) rfl (St.args (St.cons rfl St.nil) o_lenF) ?_)
      rw [o_add, List.length_map]
      rfl
    refine ⟨.tup [.str "remove", .str t, cd], ch, s3, some (.fro (ch.map Ch.d)), St.seq s6 (St.seq s4 ?_), h3, pd_3 (pd_str (by decide +kernel)) (pd_str ht) p3, c2, by omega, by omega⟩
    have ha := St.sdo (St.app (n := L + 1) (e := E (w + ch.length) x5 (some (.fro (ch.map Ch.d)))) (M := s2.obj :: T ws) (mo := eVar 3) (ma := eTup (eCons (eC (.str "wrote")) (eCons (eVar 2) (eCons (eTup (eCons (eC (.str "remove")) (eCons (eVar 1) (eCons (eCall 1 m_law_flat (eCons (eVar 0) (eNil))) (eNil))))) (eCons (eVar 6) (eNil)))))) rfl ⟨_, at1 (hT ws)⟩ (St.tup (ds := [.str "wrote", .int n, .tup [.str "remove", .str t, cd], .fro (ch.map Ch.d)]) (St.cons rfl (St.cons rfl (St.cons (St.tup (ds := [.str "remove", .str t, cd]) (St.cons rfl (St.cons rfl (St.cons (St.call (St.cons rfl St.nil) rfl e3) St.nil)))) (St.cons rfl St.nil))))) (at1 (hT ws)) (by rw [List.length_map, List.length_map]; omega))
    have hset : (s3.obj :: T ws).set (L + 1) (.lst (((ws.map fun x => Cl.wr n x.1 x.2).map Cl.d) ++ [(Cl.wr n (.tup [.str "remove", .str t, cd]) ch).d])) = s3.obj :: T (ws ++ [(.tup [.str "remove", .str t, cd], ch)]) := by
      rw [cons_set]
      have : (T ws).set L (.lst (((ws.map fun x => Cl.wr n x.1 x.2).map Cl.d) ++ [(Cl.wr n (.tup [.str "remove", .str t, cd]) ch).d])) = T (ws ++ [(.tup [.str "remove", .str t, cd], ch)]) := by
        show (R ++ [MO.lst _]).set R.length _ = R ++ [MO.lst _]
        rw [s_0, List.map_append, List.map_append]
        rfl
      rw [this]
    rw [← hset]
    exact ha
  -- one or two of them
  have lpw : ∃ (ws : List (D × List Ch)) (w : Nat) (s1 : Bx) (x5 x6 : Option D), sForI (iRange1 (eBin dAdd (eC (.int 1)) (eCall 2 m_law_draw (eCons (eVar 0) (eCons (eC (.int 2)) (eNil)))))) (tgName 5) lp_law_written_1 (E 0 none none) (s.obj :: T []) = .nx (E w x5 x6) (s1.obj :: T ws) ∧ BxOk s1 ∧ 1 ≤ ws.length ∧ ws.length ≤ 2 ∧ w ≤ 6 ∧ ∀ x ∈ ws, Pd 4 x.1 ∧ (∀ c ∈ x.2, ChOk c) ∧ 1 ≤ x.2.length ∧ x.2.length ≤ 3 := by
    obtain ⟨st1, ch1, s1, y1, t1, g1, p1, c1, l1, m1⟩ := turn [] 0 s0 (some (.int 0)) none h0 (by simp)
    have hit : iRange1 (eBin dAdd (eC (.int 1)) (eCall 2 m_law_draw (eCons (eVar 0) (eCons (eC (.int 2)) (eNil))))) (E 0 none none) (s.obj :: T []) = .ok (.vals (rangeD 0 (1 + r0).toNat)) (s0.obj :: T []) := St.itR (St.bin (f := dAdd) rfl (d0 _ _ fun _ => rfl) o_add) (by omega) (by omega)
    by_cases hr : r0 = 0
    · subst hr
      refine ⟨[(st1, ch1)], _, s1, _, _, for_nx hit (St.fvN (tg := tgName 5) (e1 := E 0 (some (.int 0)) none) rfl t1 z_fv0), g1, by simp, by simp, by omega, fun x hx => ?_⟩
      obtain rfl := List.mem_singleton.mp hx
      exact ⟨p1, c1, l1, m1⟩
    · have : r0 = 1 := by omega
      subst this
      obtain ⟨st2, ch2, s2, y2, t2, g2, p2, c2, l2, m2⟩ := turn [(st1, ch1)] (0 + ch1.length) s1 (some (.int 1)) y1 g1 (by simp)
      refine ⟨[(st1, ch1), (st2, ch2)], _, s2, _, _, for_nx hit (St.fvN (tg := tgName 5) (e1 := E 0 (some (.int 0)) none) rfl t1 (St.fvN (tg := tgName 5) (e1 := E (0 + ch1.length) (some (.int 1)) y1) rfl t2 z_fv0)), g2, by simp, by simp, by omega, fun x hx => ?_⟩
      simp only [List.mem_cons, List.not_mem_nil, or_false] at hx
      rcases hx with rfl | rfl
      · exact ⟨p1, c1, l1, m1⟩
      · exact ⟨p2, c2, l2, m2⟩
  obtain ⟨ws, w, s1, x5, x6, lp, g1, l1, l2, w6, ok⟩ := lpw
  obtain ⟨r2, s2, d2, a2, b2, h2⟩ := ed (R := T ws) (n := 4) g1 (by decide) (by decide)
  have cnd : bVal (eBin dEq (eCall 2 m_law_draw (eCons (eVar 0) (eCons (eC (.int 4)) (eNil)))) (eC (.int 3))) (E w x5 x6) (s1.obj :: T ws) = .ok (decide (r2 = 3)) (s2.obj :: T ws) := St.val (St.bin (f := dEq) (d2 _ _ fun _ => rfl) rfl o_eqi)
  have st3 : sSet 3 (eLst (eNil)) [some (.ref 0), some (.str t), some (.int n), none, none, none, none] (s.obj :: R) = .nx [some (.ref 0), some (.str t), some (.int n), some (.ref (L + 1)), none, none, none] (s.obj :: T []) := St.set (St.lst (M1 := s.obj :: R) St.nil)
  have hli : ∀ s : Bx, listItems (s.obj :: T ws) (.ref (L + 1)) = some ((ws.map fun x => Cl.wr n x.1 x.2).map Cl.d) := fun s => row_li (at1 (hT ws))
  have wl : ∀ c ∈ (ws.map fun x => Cl.wr n x.1 x.2), ClOk c := fun c hc => by
    obtain ⟨x, hx, rfl⟩ := List.mem_map.mp hc
    exact ⟨(ok x hx).1, (ok x hx).2.1, (ok x hx).2.2.2⟩
  by_cases hr : r2 = 3
  · rw [decide_eq_true hr] at cnd
    obtain ⟨us, s3, e3, h3, l3, c3⟩ := changes_run (R := T ws) (n := w) h2 ht w6
    have W : Wrt n ((ws.map fun x => Cl.wr n x.1 x.2) ++ [Cl.un n us, Cl.bk n]) := ⟨ws, _, rfl, l1, l2, ok, .inr ⟨us, rfl, c3, by omega⟩⟩
    refine ⟨(ws.map fun x => Cl.wr n x.1 x.2) ++ [Cl.un n us, Cl.bk n], s3, frzB_low (f := fnB 7 b_law_written) (s := s) (s' := s3) (T := R) (G := [.lst ((ws.map fun x => Cl.wr n x.1 x.2).map Cl.d)]) (d := .fro (((ws.map fun x : D × List Ch => Cl.wr n x.1 x.2) ++ [Cl.un n us, Cl.bk n]).map Cl.d)) ?_ (low_fro fun a ha => ?_), h3, W⟩
    · refine St.fn (St.seq st3 (St.seq (St.set rfl) (St.seq lp (seq_rt' (St.ifT cnd (St.ret ?_))))))
      refine St.bin (f := dCat mkF) (M1 := s2.obj :: T ws) (M2 := s3.obj :: T ws) (x := .ref (L + 1)) (y := .fro [(Cl.un n us).d, (Cl.bk n).d]) rfl (St.fro (ds := [(Cl.un n us).d, (Cl.bk n).d]) (St.cons (St.tup (ds := [.str "undone", .int n, .fro (us.map Ch.d)]) (St.cons rfl (St.cons rfl (St.cons (St.call (St.cons rfl (St.cons rfl (St.cons rfl St.nil))) rfl e3) St.nil)))) (St.cons (St.tup (ds := [.str "back", .int n]) (St.cons rfl (St.cons rfl St.nil))) St.nil))) ?_
      rw [cat_F (hli s3) rfl (by rw [List.length_map, List.length_map]; simp; omega), List.map_append]
      rfl
    · obtain ⟨c, hc, rfl⟩ := List.mem_map.mp ha
      exact ok_low (W.ok.1 c hc)
  · rw [decide_eq_false hr] at cnd
    have W : Wrt n ((ws.map fun x => Cl.wr n x.1 x.2) ++ [Cl.en n]) := ⟨ws, _, rfl, l1, l2, ok, .inl rfl⟩
    refine ⟨(ws.map fun x => Cl.wr n x.1 x.2) ++ [Cl.en n], s2, frzB_low (f := fnB 7 b_law_written) (s := s) (s' := s2) (T := R) (G := [.lst ((ws.map fun x => Cl.wr n x.1 x.2).map Cl.d)]) (d := .fro (((ws.map fun x : D × List Ch => Cl.wr n x.1 x.2) ++ [Cl.en n]).map Cl.d)) ?_ (low_fro fun a ha => ?_), h2, W⟩
    · refine St.fn (St.seq st3 (St.seq (St.set rfl) (St.seq lp (St.seq (St.ifF cnd y_nil) (St.ret ?_)))))
      refine St.bin (f := dCat mkF) (M1 := s2.obj :: T ws) (M2 := s2.obj :: T ws) (x := .ref (L + 1)) (y := .fro [(Cl.en n).d]) rfl (St.fro (ds := [(Cl.en n).d]) (St.cons (St.tup (ds := [.str "end", .int n]) (St.cons rfl (St.cons rfl St.nil))) St.nil)) ?_
      rw [cat_F (hli s2) rfl (by rw [List.length_map, List.length_map]; simp; omega), List.map_append]
      rfl
    · obtain ⟨c, hc, rfl⟩ := List.mem_map.mp ha
      exact ok_low (W.ok.1 c hc)
end K80
-- T19a
namespace K80
open PySem L2 T2
/-! ### the turns, in plain -/
section
variable {wh kp : Str}
theorem runC_app (B : List Br) (cs ds : List Cl) : runC wh kp B (cs ++ ds) = runC wh kp (runC wh kp B cs) ds := by
  unfold runC
  rw [List.foldl_append]
theorem Go.app : ∀ {cs : List Cl} {B : List Br} {ds : List Cl}, Go wh kp B cs → Go wh kp (runC wh kp B cs) ds → Go wh kp B (cs ++ ds)
  | [], _, _, _, h => h
  | c :: cs, B, ds, g, h => by
    obtain ⟨m, co, g2⟩ := g.len_next
    exact .cons m co (Go.app g2 h)
theorem Go.inv : ∀ {cs : List Cl} {B : List Br}, Go wh kp B cs → Inv B → Inv (runC wh kp B cs)
  | [], _, _, I => I
  | c :: cs, B, g, I => by
    obtain ⟨m, co, g2⟩ := g.len_next
    exact (Go.inv (cs := cs) g2 (I.next m) : Inv (runC wh kp (next wh kp B c) cs))
/-- only the one script has changed -/
structure Only (n : Int) (B B' : List Br) : Prop where
  a : ∀ b ∈ B', b.n ≠ n → b ∈ B
  c : ∀ b ∈ B, b.n ≠ n → b ∈ B'
  d : ∀ b ∈ B', ∃ c ∈ B, c.n = b.n
  e : ∀ b ∈ B, ∃ c ∈ B', c.n = b.n
theorem Only.refl {n : Int} {B : List Br} : Only n B B := ⟨fun _ h _ => h, fun _ h _ => h, fun b h => ⟨b, h, rfl⟩, fun b h => ⟨b, h, rfl⟩⟩
theorem Only.trans {n : Int} {B C D : List Br} (x : Only n B C) (y : Only n C D) : Only n B D :=
  ⟨fun b h e => x.a b (y.a b h e) e, fun b h e => y.c b (x.c b h e) e, fun b h => by obtain ⟨c, hc, e⟩ := y.d b h; obtain ⟨d, hd, e2⟩ := x.d c hc; exact ⟨d, hd, e2.trans e⟩, fun b h => by obtain ⟨c, hc, e⟩ := x.e b h; obtain ⟨d, hd, e2⟩ := y.e c hc; exact ⟨d, hd, e2.trans e⟩⟩
theorem only_map {n : Int} {B : List Br} {f : Br → Br} (hn : ∀ b, (f b).n = b.n) (hf : ∀ b, f b = if b.n = n then f b else b) : Only n B (B.map f) := by
  have hf' : ∀ b, b.n ≠ n → f b = b := fun b h => by rw [hf b, if_neg h]
  refine ⟨fun b h e => ?_, fun b h e => List.mem_map.mpr ⟨b, h, hf' b e⟩, fun b h => ?_, fun b h => ⟨f b, List.mem_map.mpr ⟨b, h, rfl⟩, hn b⟩⟩
  · obtain ⟨c, hc, rfl⟩ := List.mem_map.mp h
    rw [hn] at e
    rw [hf' c e]; exact hc
  · obtain ⟨c, hc, rfl⟩ := List.mem_map.mp h
    exact ⟨c, hc, (hn c).symm⟩
theorem wrs_go {n : Int} {B : List Br} (h1 : ∀ b ∈ B, b.n ≠ n → b.ov = false → b.ps = []) (h2 : ∀ b ∈ B, n < b.n → b.ps = []) : ∀ (ws : List (D × List Ch)) (B1 : List Br), (∀ x ∈ ws, Pd 4 x.1 ∧ (∀ c ∈ x.2, ChOk c) ∧ 1 ≤ x.2.length ∧ x.2.length ≤ 3) → Only n B B1 → (∃ b ∈ B1, b.n = n ∧ b.ov = false) →
    Go wh kp B1 (ws.map fun x => Cl.wr n x.1 x.2) ∧ Only n B (runC wh kp B1 (ws.map fun x => Cl.wr n x.1 x.2)) ∧ ∃ b ∈ runC wh kp B1 (ws.map fun x => Cl.wr n x.1 x.2), b.n = n ∧ b.ov = false
  | [], B1, _, o, ho => ⟨.nil, o, ho⟩
  | x :: ws, B1, hx, o, ho => by
    obtain ⟨x1, x2, x3, x4⟩ := hx x List.mem_cons_self
    have m : May B1 (.wr n x.1 x.2) := ⟨ho, fun z => by rw [z] at x3; simp at x3, fun b hb e hov => h1 b (o.a b hb e) e hov, fun b hb hl => h2 b (o.a b hb (by omega)) hl⟩
    have o2 : Only n B1 (next wh kp B1 (.wr n x.1 x.2)) := only_map (fun b => bWr_n) (fun b => bWr_if _ _ _ _ _ _)
    have ho2 : ∃ b ∈ next wh kp B1 (.wr n x.1 x.2), b.n = n ∧ b.ov = false := by
      obtain ⟨b, hb, e, hov⟩ := ho
      exact ⟨bWr wh kp n x.1 x.2 b, List.mem_map.mpr ⟨b, hb, rfl⟩, by rw [bWr_n]; exact e, by rw [bWr_ov]; exact hov⟩
    obtain ⟨g, i1, i2⟩ := wrs_go h1 h2 ws _ (fun y hy => hx y (List.mem_cons_of_mem _ hy)) (o.trans o2) ho2
    exact ⟨.cons m ⟨x1, x2, x4⟩ g, i1, i2⟩
theorem end_only {n : Int} {B : List Br} (h : ∃ b ∈ B, b.n = n ∧ b.ov = false) {c : Cl} (hc : c = .en n ∨ c = .bk n) : May B c ∧ ClOk c ∧ Only n B (next wh kp B c) ∧ ∀ b ∈ next wh kp B c, b.n = n → b.ov = true := by
  rcases hc with rfl | rfl
  · refine ⟨h, trivial, only_map (fun b => bEn_n) (fun b => bEn_if _ _), fun b hb e => ?_⟩
    obtain ⟨c, hc, rfl⟩ := List.mem_map.mp hb
    rw [bEn_n] at e
    unfold bEn
    rw [if_pos e]
  · refine ⟨h, trivial, only_map (fun b => bBk_n) (fun b => bBk_if _ _), fun b hb e => ?_⟩
    obtain ⟨c, hc, rfl⟩ := List.mem_map.mp hb
    rw [bBk_n] at e
    unfold bBk
    rw [if_pos e]
theorem wrt_go {n : Int} {B : List Br} {cs : List Cl} (W : Wrt n cs) (h0 : ∃ b ∈ B, b.n = n ∧ b.ov = false) (h1 : ∀ b ∈ B, b.n ≠ n → b.ov = false → b.ps = []) (h2 : ∀ b ∈ B, n < b.n → b.ps = []) :
    Go wh kp B cs ∧ Only n B (runC wh kp B cs) ∧ ∀ b ∈ runC wh kp B cs, b.n = n → b.ov = true := by
  obtain ⟨ws, e, rfl, _, _, hws, he⟩ := W.ex
  obtain ⟨g, o, ho⟩ := wrs_go (wh := wh) (kp := kp) h1 h2 ws B hws .refl h0
  have fin : ∀ {c : Cl}, c = .en n ∨ c = .bk n → _ := fun {c} hc => end_only (wh := wh) (kp := kp) ho hc
  rcases he with rfl | ⟨us, rfl, u1, u2⟩
  · obtain ⟨m, co, o2, hv⟩ := fin (.inl rfl)
    refine ⟨g.app (.cons m co .nil), ?_, ?_⟩
    · rw [runC_app]; exact o.trans o2
    · rw [runC_app]; exact hv
  · obtain ⟨m, co, o2, hv⟩ := fin (.inr rfl)
    refine ⟨g.app (.cons ho ⟨u1, u2⟩ (.cons m co .nil)), ?_, ?_⟩
    · rw [runC_app]; exact o.trans o2
    · rw [runC_app]; exact hv
structure Tn (wh kp : Str) (calls : List Cl) (fresh : Int) (ps qs : List Int) : Prop where
  go : Go wh kp [] calls
  op : ∀ b ∈ runC wh kp [] calls, b.ov = false → b.ps = []
  la : ∀ b ∈ runC wh kp [] calls, ∀ x ∈ qs, b.ps ≠ [] → b.n < x
  fr : ∀ b ∈ runC wh kp [] calls, b.n ≤ fresh
  st : ∀ x, x ∈ ps ++ qs ↔ ∃ b ∈ runC wh kp [] calls, b.n = x ∧ b.ov = false
  qa : qs.Pairwise (· < ·)
  nd : (ps ++ qs).Nodup
theorem tn_0 : Tn wh kp [] 0 [] [] := ⟨.nil, by simp [runC], by simp [runC], by simp [runC], by simp [runC], by simp, by simp⟩
variable {calls : List Cl} {fresh : Int} {ps qs : List Int}
theorem Tn.beg (T : Tn wh kp calls fresh ps qs) {f : Int} (hf : fresh < f) : Tn wh kp (calls ++ [.beg f]) f ps (qs ++ [f]) := by
  have hB : runC wh kp [] (calls ++ [.beg f]) = runC wh kp [] calls ++ [⟨f, [], false, false⟩] := by rw [runC_app]; rfl
  have hm : ∀ b ∈ runC wh kp [] calls, b.n < f := fun b hb => Int.lt_of_le_of_lt (T.fr b hb) hf
  have hq : ∀ x ∈ ps ++ qs, x < f := fun x hx => by
    obtain ⟨b, hb, rfl, _⟩ := (T.st x).mp hx
    exact hm b hb
  refine ⟨T.go.app (.cons hm trivial .nil), fun b hb ho => ?_, fun b hb x hx hp => ?_, fun b hb => ?_, fun x => ?_, ?_, ?_⟩
  · rw [hB] at hb
    rcases List.mem_append.mp hb with hb | hb
    · exact T.op b hb ho
    · obtain rfl := List.mem_singleton.mp hb; rfl
  · rw [hB] at hb
    rcases List.mem_append.mp hb with hb1 | hb
    · rcases List.mem_append.mp hx with hx | hx
      · exact T.la b hb1 x hx hp
      · rw [List.mem_singleton.mp hx]; exact hm b hb1
    · obtain rfl := List.mem_singleton.mp hb; exact absurd rfl hp
  · rw [hB] at hb
    rcases List.mem_append.mp hb with hb | hb
    · exact Int.le_of_lt (hm b hb)
    · obtain rfl := List.mem_singleton.mp hb; exact Int.le_refl _
  · rw [hB, ← List.append_assoc, List.mem_append, T.st x]
    constructor
    · rintro (⟨b, hb, h1, h2⟩ | h)
      · exact ⟨b, List.mem_append.mpr (.inl hb), h1, h2⟩
      · obtain rfl := List.mem_singleton.mp h
        exact ⟨_, List.mem_append.mpr (.inr List.mem_cons_self), rfl, rfl⟩
    · rintro ⟨b, hb, h1, h2⟩
      rcases List.mem_append.mp hb with hb | hb
      · exact .inl ⟨b, hb, h1, h2⟩
      · obtain rfl := List.mem_singleton.mp hb
        exact .inr (by rw [← h1]; exact List.mem_cons_self)
  · rw [List.pairwise_append]
    refine ⟨T.qa, by simp, fun x hx y hy => ?_⟩
    obtain rfl := List.mem_singleton.mp hy
    exact hq x (List.mem_append.mpr (.inr hx))
  · rw [← List.append_assoc, List.nodup_append]
    refine ⟨T.nd, by simp, fun x hx y hy => ?_⟩
    obtain rfl := List.mem_singleton.mp hy
    have := hq x hx
    omega
/-- one open script is over: what stays -/
theorem Tn.over (T : Tn wh kp calls fresh ps qs) {n : Int} {cs : List Cl} {ps' qs' : List Int} (g : Go wh kp (runC wh kp [] calls) cs) (o : Only n (runC wh kp [] calls) (runC wh kp (runC wh kp [] calls) cs)) (hv : ∀ b ∈ runC wh kp (runC wh kp [] calls) cs, b.n = n → b.ov = true)
    (hs : ∀ x, x ∈ ps' ++ qs' ↔ x ∈ ps ++ qs ∧ x ≠ n) (hq : ∀ x ∈ qs', x ∈ qs) (hl : ∀ x ∈ qs', (∀ b ∈ runC wh kp (runC wh kp [] calls) cs, b.n = n → b.ps ≠ [] → n < x)) (qa : qs'.Pairwise (· < ·)) (nd : (ps' ++ qs').Nodup) : Tn wh kp (calls ++ cs) fresh ps' qs' := by
  have hB : runC wh kp [] (calls ++ cs) = runC wh kp (runC wh kp [] calls) cs := runC_app _ _ _
  refine ⟨T.go.app g, fun b hb ho => ?_, fun b hb x hx hp => ?_, fun b hb => ?_, fun x => ?_, qa, nd⟩
  · rw [hB] at hb
    by_cases e : b.n = n
    · rw [hv b hb e] at ho; cases ho
    · exact T.op b (o.a b hb e) ho
  · rw [hB] at hb
    by_cases e : b.n = n
    · rw [e]; exact hl x hx b hb e hp
    · exact T.la b (o.a b hb e) x (hq x hx) hp
  · rw [hB] at hb
    obtain ⟨c, hc, e⟩ := o.d b hb
    rw [← e]; exact T.fr c hc
  · rw [hB, hs, T.st x]
    constructor
    · rintro ⟨⟨b, hb, rfl, h2⟩, h3⟩
      exact ⟨b, o.c b hb h3, rfl, h2⟩
    · rintro ⟨b, hb, rfl, h2⟩
      have e : b.n ≠ n := fun e => by rw [hv b hb e] at h2; cases h2
      exact ⟨⟨b, o.a b hb e, rfl, h2⟩, e⟩
theorem Tn.wrt (T : Tn wh kp calls fresh ps qs) {i : Nat} {n : Int} (hi : qs[i]? = some n) {cs : List Cl} (W : Wrt n cs) : Tn wh kp (calls ++ cs) fresh (ps ++ qs.take i) (qs.drop (i + 1)) := by
  have hn : n ∈ qs := List.mem_of_getElem? hi
  have hil := (List.getElem?_eq_some_iff.mp hi).1
  have hsp : qs = qs.take i ++ n :: qs.drop (i + 1) := by
    have h := List.take_append_drop i qs
    rw [List.drop_eq_getElem_cons hil] at h
    have : qs[i] = n := (List.getElem?_eq_some_iff.mp hi).2
    rw [this] at h
    exact h.symm
  obtain ⟨b0, hb0, e0, ho0⟩ := (T.st n).mp (List.mem_append.mpr (.inr hn))
  obtain ⟨g, o, hv⟩ := wrt_go (wh := wh) (kp := kp) W ⟨b0, hb0, e0, ho0⟩ (fun b hb _ ho => T.op b hb ho) (fun b hb hl => by
    by_cases e : b.ps = []
    · exact e
    · have := T.la b hb n hn e
      omega)
  have qa := T.qa
  rw [hsp, List.pairwise_append, List.pairwise_cons] at qa
  have nd := T.nd
  rw [hsp, ← List.append_assoc, List.nodup_append, List.nodup_cons] at nd
  refine T.over g o hv (fun x => ?_) (fun x hx => List.mem_of_mem_drop hx) (fun x hx _ _ _ _ => qa.2.1.1 x hx) qa.2.1.2 ?_
  · conv => rhs; rw [hsp]
    rw [List.append_assoc]
    simp only [List.mem_append, List.mem_cons]
    constructor
    · rintro (h | h | h)
      · exact ⟨.inl h, fun z => nd.2.2 x (List.mem_append.mpr (.inl h)) n List.mem_cons_self z⟩
      · exact ⟨.inr (.inl h), fun z => nd.2.2 x (List.mem_append.mpr (.inr h)) n List.mem_cons_self z⟩
      · exact ⟨.inr (.inr (.inr h)), fun z => nd.2.1.1 (by rw [← z]; exact h)⟩
    · rintro ⟨h | h | h | h, hne⟩
      · exact .inl h
      · exact .inr (.inl h)
      · exact absurd h hne
      · exact .inr (.inr h)
  · rw [List.nodup_append]
    exact ⟨nd.1, nd.2.1.2, fun x hx y hy => nd.2.2 x hx y (List.mem_cons_of_mem _ hy)⟩
theorem mem_erase_idx {l : List Int} (nd : l.Nodup) {i : Nat} {n : Int} (hi : l[i]? = some n) (x : Int) : x ∈ l.eraseIdx i ↔ x ∈ l ∧ x ≠ n := by
  have hl := (List.getElem?_eq_some_iff.mp hi).1
  have e : l[i] = n := (List.getElem?_eq_some_iff.mp hi).2
  have hsp : l = l.take i ++ n :: l.drop (i + 1) := by
    have h := List.take_append_drop i l
    rw [List.drop_eq_getElem_cons hl, e] at h
    exact h.symm
  rw [List.eraseIdx_eq_take_drop_succ]
  have nd' := nd
  rw [hsp, List.nodup_append, List.nodup_cons] at nd'
  conv => rhs; rw [hsp]
  simp only [List.mem_append, List.mem_cons]
  constructor
  · rintro (h | h)
    · exact ⟨.inl h, fun z => nd'.2.2 x h n List.mem_cons_self z⟩
    · exact ⟨.inr (.inr h), fun z => nd'.2.1.1 (by rw [← z]; exact h)⟩
  · rintro ⟨h | h | h, hne⟩
    · exact .inl h
    · exact absurd h hne
    · exact .inr h
theorem Tn.endp (T : Tn wh kp calls fresh ps qs) {i : Nat} {n : Int} (hi : ps[i]? = some n) {c : Cl} (hc : c = .en n ∨ c = .bk n) : Tn wh kp (calls ++ [c]) fresh (ps.eraseIdx i) qs := by
  have hn : n ∈ ps := List.mem_of_getElem? hi
  obtain ⟨b0, hb0, e0, ho0⟩ := (T.st n).mp (List.mem_append.mpr (.inl hn))
  obtain ⟨m, co, o, hv⟩ := end_only (wh := wh) (kp := kp) ⟨b0, hb0, e0, ho0⟩ hc
  have nd := T.nd
  rw [List.nodup_append] at nd
  refine T.over (cs := [c]) (.cons m co .nil) o hv (fun x => ?_) (fun x hx => hx) (fun x hx b hb e hp => ?_) T.qa ?_
  · rw [List.mem_append, List.mem_append, mem_erase_idx nd.1 hi]
    constructor
    · rintro (⟨h, h2⟩ | h)
      · exact ⟨.inl h, h2⟩
      · exact ⟨.inr h, fun z => nd.2.2 n hn x h z.symm⟩
    · rintro ⟨h | h, h2⟩
      · exact .inl ⟨h, h2⟩
      · exact .inr h
  · -- its parts are none: it was open
    exfalso
    apply hp
    have hb : b ∈ next wh kp (runC wh kp [] calls) c := hb
    have I := T.go.inv inv_nil
    rcases hc with rfl | rfl
    · obtain ⟨b1, hb1, rfl⟩ := List.mem_map.mp hb
      rw [bEn_n] at e
      have := I.same hb1 hb0 (e.trans e0.symm)
      subst this
      have : (bEn n b1).ps = b1.ps := by unfold bEn; split <;> rfl
      rw [this]; exact T.op b1 hb1 ho0
    · obtain ⟨b1, hb1, rfl⟩ := List.mem_map.mp hb
      rw [bBk_n] at e
      unfold bBk
      rw [if_pos e]
  · rw [List.nodup_append]
    exact ⟨(List.eraseIdx_sublist _ _).nodup nd.1, nd.2.1, fun x hx y hy => nd.2.2 x ((List.eraseIdx_sublist _ _).subset hx) y hy⟩
theorem Tn.endq (T : Tn wh kp calls fresh [] qs) {i : Nat} {n : Int} (hi : qs[i]? = some n) {c : Cl} (hc : c = .en n ∨ c = .bk n) : Tn wh kp (calls ++ [c]) fresh [] (qs.eraseIdx i) := by
  have hn : n ∈ qs := List.mem_of_getElem? hi
  obtain ⟨b0, hb0, e0, ho0⟩ := (T.st n).mp hn
  obtain ⟨m, co, o, hv⟩ := end_only (wh := wh) (kp := kp) ⟨b0, hb0, e0, ho0⟩ hc
  have nd : qs.Nodup := T.nd
  refine T.over (cs := [c]) (.cons m co .nil) o hv (fun x => by rw [List.nil_append, List.nil_append]; exact mem_erase_idx nd hi x) (fun x hx => (List.eraseIdx_sublist _ _).subset hx) (fun x hx b hb e hp => ?_) (T.qa.sublist (List.eraseIdx_sublist _ _)) ((List.eraseIdx_sublist _ _).nodup nd)
  exfalso
  apply hp
  have hb : b ∈ next wh kp (runC wh kp [] calls) c := hb
  have I := T.go.inv inv_nil
  rcases hc with rfl | rfl
  · obtain ⟨b1, hb1, rfl⟩ := List.mem_map.mp hb
    rw [bEn_n] at e
    have := I.same hb1 hb0 (e.trans e0.symm)
    subst this
    have : (bEn n b1).ps = b1.ps := by unfold bEn; split <;> rfl
    rw [this]; exact T.op b1 hb1 ho0
  · obtain ⟨b1, hb1, rfl⟩ := List.mem_map.mp hb
    rw [bBk_n] at e
    unfold bBk
    rw [if_pos e]
/-- at the end all are over -/
theorem ends_go : ∀ (xs : List Int) (B : List Br), xs.Nodup → (∀ x, x ∈ xs ↔ ∃ b ∈ B, b.n = x ∧ b.ov = false) → Go wh kp B (xs.map Cl.en) ∧ opn (runC wh kp B (xs.map Cl.en)) = []
  | [], B, _, h => by
    refine ⟨.nil, ?_⟩
    show opn B = []
    unfold opn
    rw [List.filter_eq_nil_iff]
    intro b hb
    cases ho : b.ov with
    | true => simp
    | false => exact absurd ((h b.n).mpr ⟨b, hb, rfl, ho⟩) (by simp)
  | x :: xs, B, nd, h => by
    rw [List.nodup_cons] at nd
    obtain ⟨m, co, o, hv⟩ := end_only (wh := wh) (kp := kp) ((h x).mp List.mem_cons_self) (.inl rfl)
    obtain ⟨g, e⟩ := ends_go xs (next wh kp B (.en x)) nd.2 (fun y => by
      constructor
      · intro hy
        obtain ⟨b, hb, rfl, ho⟩ := (h y).mp (List.mem_cons_of_mem _ hy)
        exact ⟨b, o.c b hb (fun z => nd.1 (by rw [← z]; exact hy)), rfl, ho⟩
      · rintro ⟨b, hb, rfl, ho⟩
        have hne : b.n ≠ x := fun z => by rw [hv b hb z] at ho; cases ho
        exact (List.mem_cons.mp ((h b.n).mpr ⟨b, o.a b hb hne, rfl, ho⟩)).resolve_left hne)
    exact ⟨.cons m co g, e⟩
theorem Tn.fin (T : Tn wh kp calls fresh ps qs) : Go wh kp [] (calls ++ (qs ++ ps).map Cl.en) ∧ opn (runC wh kp [] (calls ++ (qs ++ ps).map Cl.en)) = [] := by
  have nd : (qs ++ ps).Nodup := by
    have := T.nd
    rw [List.nodup_append] at this ⊢
    exact ⟨this.2.1, this.1, fun x hx y hy z => this.2.2 y hy x hx z.symm⟩
  obtain ⟨g, e⟩ := ends_go (wh := wh) (kp := kp) (qs ++ ps) (runC wh kp [] calls) nd (fun x => by rw [← T.st x, List.mem_append, List.mem_append]; exact Or.comm)
  exact ⟨T.go.app g, by rw [runC_app]; exact e⟩
end
end K80
-- T19a
namespace K80
open PySem L2 T2
/-! ### the turns -/
def iE (t : Str) (m : Int) (c : Nat) (f : Int) (p q : Nat) (x7 x8 x9 : Option D) : Env2 := [some (.ref 0), some (.str t), some (.int m), some (.ref (c + 1)), some (.int f), some (.ref (p + 1)), some (.ref (q + 1)), x7, x8, x9, none]
structure InAt (R T : MH) (c p q : Nat) (calls : List Cl) (ps qs : List Int) : Prop where
  hc : T[c]? = some (.lst (calls.map Cl.d))
  hp : T[p]? = some (.lst (ps.map D.int))
  hq : T[q]? = some (.lst (qs.map D.int))
  cp : c ≠ p
  cq : c ≠ q
  pq : p ≠ q
  lc : R.length ≤ c
  lp : R.length ≤ p
  lq : R.length ≤ q
  fr : Fr [] R T
theorem dsl_ref {n : Nat} {ds : List D} {M : MH} {lo hi : Option Int} (h : M[n]? = some (.lst ds)) : dSl mkL (.ref n) lo hi M = .ok (.ref M.length) (M ++ [.lst (cutD ds lo hi)]) := by
  unfold dSl
  dsimp only
  rw [row_it h]
  rfl
theorem map_erase (l : List Int) : ∀ i, (l.map D.int).eraseIdx i = (l.eraseIdx i).map D.int := by
  induction l with
  | nil => intro i; rfl
  | cons x l ih =>
    intro i
    cases i with
    | zero => rfl
    | succ i =>
      rw [List.map_cons, List.eraseIdx_cons_succ, List.eraseIdx_cons_succ, List.map_cons, ih]
theorem at_last (T : MH) (o : MO) : (T ++ [o])[T.length]? = some o := by simp
theorem cat_ref {x y : D} {xs ys : List D} {M : MH} (hx : listItems M x = some xs) (hy : listItems M y = some ys) (h : xs.length + ys.length ≤ 1000) : dCat mkL x y M = .ok (.ref M.length) (M ++ [.lst (xs ++ ys)]) := cat_L hx hy h
section
variable {wh kp : Str} {calls : List Cl} {fresh : Int} {ps qs : List Int} {R T : MH} {c p q : Nat} {t : Str} {m : Int} {x7 x8 x9 : Option D} {s : Bx}
theorem end_word {d : D} (h : d ∈ [D.str "end", .str "back"]) (n : Int) : ∃ x : Cl, (x = .en n ∨ x = .bk n) ∧ x.d = .tup [d, .int n] := by
  simp only [List.mem_cons, List.not_mem_nil, or_false] at h
  rcases h with rfl | rfl
  · exact ⟨.en n, .inl rfl, rfl⟩
  · exact ⟨.bk n, .inr rfl, rfl⟩
theorem turn_run {k : Nat} (hs : BxOk s) (ht : PyData.strOk t = true) (A : InAt R T c p q calls ps qs) (V : Tn wh kp calls fresh ps qs) (hl : calls.length ≤ 4 * k) (hn : ps.length + qs.length ≤ k) (hk : k ≤ 16) :
    ∃ s' T' c' p' q' calls' fresh' ps' qs' y8 y9, lp_law_in_turn_1 (iE t m c fresh p q x7 x8 x9) (s.obj :: T) = .nx (iE t m c' fresh' p' q' x7 y8 y9) (s'.obj :: T') ∧ BxOk s' ∧ InAt R T' c' p' q' calls' ps' qs' ∧ Tn wh kp calls' fresh' ps' qs' ∧ calls'.length ≤ 4 * (k + 1) ∧ ps'.length + qs'.length ≤ k + 1 := by
  obtain ⟨r1, s1, d1, a1, b1, h1⟩ := ed (R := T) (n := 6) hs (by decide) (by decide)
  have s8 : sSet 8 (eCall 2 m_law_draw (eCons (eVar 0) (eCons (eC (.int 6)) (eNil)))) (iE t m c fresh p q x7 x8 x9) (s.obj :: T) = .nx (iE t m c fresh p q x7 (some (.int r1)) x9) (s1.obj :: T) := St.set (d1 _ _ fun _ => rfl)
  let E : Env2 := iE t m c fresh p q x7 (some (.int r1)) x9
  have lp' : ∀ s : Bx, dLen [.ref (p + 1)] (s.obj :: T) = .ok (.int ps.length) (s.obj :: T) := fun s => by
    rw [row_len (at1 A.hp), List.length_map]
  have lq' : ∀ s : Bx, dLen [.ref (q + 1)] (s.obj :: T) = .ok (.int qs.length) (s.obj :: T) := fun s => by
    rw [row_len (at1 A.hq), List.length_map]
  have esum : eBin dAdd (eArgs dLen (eCons (eVar 5) (eNil))) (eArgs dLen (eCons (eVar 6) (eNil))) E (s1.obj :: T) = .ok (.int ((ps.length : Nat) + (qs.length : Nat))) (s1.obj :: T) := St.bin (f := dAdd) (St.args (St.cons rfl St.nil) (lp' s1)) (St.args (St.cons rfl St.nil) (lq' s1)) o_add
  have c1 : bOr (bVal (eBin dEq (eBin dAdd (eArgs dLen (eCons (eVar 5) (eNil))) (eArgs dLen (eCons (eVar 6) (eNil)))) (eC (.int 0)))) (bAnd (bVal (eBin dEq (eVar 8) (eC (.int 4)))) (bVal (eBin dLt (eBin dAdd (eArgs dLen (eCons (eVar 5) (eNil))) (eArgs dLen (eCons (eVar 6) (eNil)))) (eC (.int 5))))) E (s1.obj :: T) = .ok (decide ((ps.length : Int) + (qs.length : Nat) = 0) || (decide (r1 = 4) && decide ((ps.length : Int) + (qs.length : Nat) < 5))) (s1.obj :: T) :=
    St.bor (St.val (St.bin (f := dEq) esum rfl o_eqi)) (St.band (St.val (St.bin (f := dEq) rfl rfl o_eqi)) (St.val (St.bin (f := dLt) esum rfl o_lt)))
  have hcl := at_lt A.hc
  have hpl := at_lt A.hp
  have hql := at_lt A.hq
  have fset : ∀ {n : Nat} {o : MO}, R.length ≤ n → Fr [] R (T.set n o) := fun {n o} hn => A.fr.seq (Fr.set (S := [n]) List.mem_cons_self) fun i hi => .inr (by obtain rfl := List.mem_singleton.mp hi; exact hn)
  by_cases hb : (decide ((ps.length : Int) + (qs.length : Nat) = 0) || (decide (r1 = 4) && decide ((ps.length : Int) + (qs.length : Nat) < 5))) = true
  · -- a script begins
    rw [hb] at c1
    obtain ⟨r2, s2, d2, a2, b2, h2⟩ := ed (R := T) (n := 3) h1 (by decide) (by decide)
    let f : Int := fresh + 1 + r2
    let T1 : MH := T.set q (.lst (qs.map D.int ++ [.int f]))
    have hc1 : T1[c]? = some (.lst (calls.map Cl.d)) := at_off A.hc A.cq.symm
    let T2 : MH := T1.set c (.lst (calls.map Cl.d ++ [(Cl.beg f).d]))
    have s4 : sSet 4 (eBin dAdd (eBin dAdd (eVar 4) (eC (.int 1))) (eCall 2 m_law_draw (eCons (eVar 0) (eCons (eC (.int 3)) (eNil))))) E (s1.obj :: T) = .nx (iE t m c f p q x7 (some (.int r1)) x9) (s2.obj :: T) := St.set (St.bin (f := dAdd) (St.bin (f := dAdd) rfl rfl o_add) (d2 _ _ fun _ => rfl) o_add)
    refine ⟨s2, T2, c, p, q, calls ++ [.beg f], f, ps, qs ++ [f], some (.int r1), x9, St.seq s8 (St.ifT c1 (St.seq s4 (St.seq (St.sdo (St.app (n := q + 1) rfl ⟨_, at1 A.hq⟩ rfl (at1 A.hq) (by rw [List.length_map]; omega))) (St.sdo (St.app (n := c + 1) rfl ⟨_, at1 hc1⟩ (St.tup (ds := [.str "begin", .int f]) (St.cons rfl (St.cons rfl St.nil))) (at1 hc1) (by rw [List.length_map]; omega)))))), h2, ⟨?_, at_off (at_off A.hp A.pq.symm) A.cp, ?_, A.cp, A.cq, A.pq, A.lc, A.lp, A.lq, ?_⟩, V.beg (by show fresh < fresh + 1 + r2; omega), by rw [List.length_append, List.length_singleton]; omega, by rw [List.length_append, List.length_singleton]; omega⟩
    · rw [List.map_append]; exact at_set hc1
    · rw [List.map_append]; exact at_off (at_set A.hq) A.cq
    · exact (fset A.lq).seq (Fr.set (S := [c]) List.mem_cons_self) fun i hi => .inr (by obtain rfl := List.mem_singleton.mp hi; exact A.lc)
  have hb : (decide ((ps.length : Int) + (qs.length : Nat) = 0) || (decide (r1 = 4) && decide ((ps.length : Int) + (qs.length : Nat) < 5))) = false := by simpa using hb
  rw [hb] at c1
  have hpos : 0 < ps.length + qs.length := by
    rw [Bool.or_eq_false_iff, decide_eq_false_iff_not] at hb
    omega
  have c2 : bAnd (bVal (eBin dLt (eVar 8) (eC (.int 4)))) (bVal (eBin dGt (eArgs dLen (eCons (eVar 6) (eNil))) (eC (.int 0)))) E (s1.obj :: T) = .ok (decide (r1 < 4) && decide ((0 : Int) < (qs.length : Nat))) (s1.obj :: T) := St.band (St.val (St.bin (f := dLt) rfl rfl o_lt)) (St.val (St.bin (f := dGt) (St.args (St.cons rfl St.nil) (lq' s1)) rfl o_gt))
  by_cases hw : (decide (r1 < 4) && decide ((0 : Int) < (qs.length : Nat))) = true
  · -- a script writes
    rw [hw] at c2
    have hq0 : (0 : Int) < (qs.length : Nat) := by
      rw [Bool.and_eq_true, decide_eq_true_eq, decide_eq_true_eq] at hw
      exact hw.2
    obtain ⟨r2, s2, d2, a2, b2, h2⟩ := ed (R := T) (n := (qs.length : Nat)) h1 hq0 (by omega)
    obtain ⟨i, rfl⟩ := Int.eq_ofNat_of_zero_le a2
    have hi : i < qs.length := by omega
    have hqi := List.getElem?_eq_getElem hi
    let T1 : MH := T ++ [.lst ((qs.take i).map D.int), .lst ((ps ++ qs.take i).map D.int)]
    have s9 : sSet 9 (eCall 2 m_law_draw (eCons (eVar 0) (eCons (eArgs dLen (eCons (eVar 6) (eNil))) (eNil)))) E (s1.obj :: T) = .nx (iE t m c fresh p q x7 (some (.int r1)) (some (.int (i : Nat)))) (s2.obj :: T) := St.set (d2 _ _ fun s => St.cons rfl (St.cons (St.args (St.cons rfl St.nil) (lq' s)) St.nil))
    have s5 : sSet 5 (eBin (dCat mkL) (eVar 5) (eSl mkL (eVar 6) (oNone) (oSome (eVar 9)))) (iE t m c fresh p q x7 (some (.int r1)) (some (.int (i : Nat)))) (s2.obj :: T) = .nx (iE t m c fresh (T.length + 1) q x7 (some (.int r1)) (some (.int (i : Nat)))) (s2.obj :: T1) := by
      have hsl : dSl mkL (.ref (q + 1)) none (some (i : Int)) (s2.obj :: T) = .ok (.ref (T.length + 1)) (s2.obj :: (T ++ [.lst ((qs.take i).map D.int)])) := by
        rw [dsl_ref (at1 A.hq), cut_to (by rw [List.length_map]; omega), ← List.map_take]
        rfl
      have hcat := cat_ref (xs := ps.map D.int) (ys := (qs.take i).map D.int) (x := .ref (p + 1)) (y := .ref (T.length + 1)) (M := s2.obj :: (T ++ [.lst ((qs.take i).map D.int)])) (row_li (at1 (at_app A.hp))) (row_li (at1 (at_last _ _))) (by rw [List.length_map, List.length_map, List.length_take]; omega)
      have hlen : (s2.obj :: (T ++ [.lst ((qs.take i).map D.int)])).length = T.length + 1 + 1 := by simp
      rw [hlen, ← List.map_append] at hcat
      have hm : (s2.obj :: (T ++ [.lst ((qs.take i).map D.int)])) ++ [.lst ((ps ++ qs.take i).map D.int)] = s2.obj :: T1 := by
        show s2.obj :: ((T ++ _) ++ _) = _
        rw [List.append_assoc]
        rfl
      rw [hm] at hcat
      exact St.set (St.bin (f := dCat mkL) rfl (St.sl rfl St.oN (St.oS rfl) hsl) hcat)
    have ixq : dIxA (.ref (q + 1)) (.int (i : Nat)) (s2.obj :: T1) = .ok (.int qs[i]) (s2.obj :: T1) := row_ix (at1 (at_app A.hq)) (by rw [List.getElem?_map, hqi]; rfl)
    obtain ⟨w, s3, e3, h3, W⟩ := written_run (R := T1) (n := qs[i]) h2 ht
    let T2 : MH := T1 ++ [.lst ((calls ++ w).map Cl.d)]
    have wl := W.ok.2
    have s3' : sSet 3 (eBin (dCat mkL) (eVar 3) (eCall 3 m_law_written (eCons (eVar 0) (eCons (eVar 1) (eCons (eBin dIxA (eVar 6) (eVar 9)) (eNil)))))) (iE t m c fresh (T.length + 1) q x7 (some (.int r1)) (some (.int (i : Nat)))) (s2.obj :: T1) = .nx (iE t m T1.length fresh (T.length + 1) q x7 (some (.int r1)) (some (.int (i : Nat)))) (s3.obj :: T2) := by
      have hcat := cat_ref (xs := calls.map Cl.d) (ys := w.map Cl.d) (x := .ref (c + 1)) (y := .fro (w.map Cl.d)) (M := s3.obj :: T1) (row_li (at1 (at_app A.hc))) rfl (by rw [List.length_map, List.length_map]; omega)
      rw [← List.map_append] at hcat
      exact St.set (St.bin (f := dCat mkL) (M1 := s2.obj :: T1) rfl (St.call (St.cons rfl (St.cons rfl (St.cons (St.bin (f := dIxA) rfl rfl ixq) St.nil))) rfl e3) hcat)
    let T3 : MH := T2 ++ [.lst ((qs.drop (i + 1)).map D.int)]
    have hq2 : T2[q]? = some (.lst (qs.map D.int)) := at_app (at_app A.hq)
    have s6 : sSet 6 (eSl mkL (eVar 6) (oSome (eBin dAdd (eVar 9) (eC (.int 1)))) (oNone)) (iE t m T1.length fresh (T.length + 1) q x7 (some (.int r1)) (some (.int (i : Nat)))) (s3.obj :: T2) = .nx (iE t m T1.length fresh (T.length + 1) T2.length x7 (some (.int r1)) (some (.int (i : Nat)))) (s3.obj :: T3) := by
      have hsl : dSl mkL (.ref (q + 1)) (some ((i + 1 : Nat) : Int)) none (s3.obj :: T2) = .ok (.ref (T2.length + 1)) (s3.obj :: T3) := by
        rw [dsl_ref (at1 hq2), cut_from (by rw [List.length_map]; omega), ← List.map_drop]
        rfl
      exact St.set (St.sl (M1 := s3.obj :: T2) rfl (St.oS (St.bin (f := dAdd) rfl rfl o_add)) St.oN hsl)
    have l1 : T1.length = T.length + 2 := by simp [T1]
    have l2 : T2.length = T.length + 3 := by simp [T2, l1]
    have lr := A.fr.len
    refine ⟨s3, T3, T1.length, T.length + 1, T2.length, calls ++ w, fresh, ps ++ qs.take i, qs.drop (i + 1), some (.int r1), some (.int (i : Nat)), St.seq s8 (St.ifF c1 (St.ifT c2 (St.seq s9 (St.seq s5 (St.seq s3' s6))))), h3, ⟨at_app (by simp [T2]), at_app (at_app (by simp [T1])), by simp [T3], by omega, by omega, by omega, by omega, by omega, by omega, ((A.fr.trans Fr.app).trans Fr.app).trans Fr.app⟩, V.wrt hqi W, by rw [List.length_append]; omega, ?_⟩
    rw [List.length_append, List.length_take, List.length_drop]; omega
  have hw : (decide (r1 < 4) && decide ((0 : Int) < (qs.length : Nat))) = false := by simpa using hw
  rw [hw] at c2
  -- a script ends
  have wmenu : ∀ (s : Bx) (T : MH), eFro (eCons (eC (.str "end")) (eCons (eC (.str "back")) (eNil))) E (s.obj :: T) = .ok (.fro [.str "end", .str "back"]) (s.obj :: T) := fun s T => St.fro (ds := [.str "end", .str "back"]) (St.cons rfl (St.cons rfl St.nil))
  obtain ⟨d, s2, e2, hd, h2⟩ := lpick (R := T) h1 (fun s => fro_seq (R := T) (ds := [.str "end", .str "back"]) s) (by decide) (by decide)
  have epick : eCall 2 m_law_pick (eCons (eVar 0) (eCons (eFro (eCons (eC (.str "end")) (eCons (eC (.str "back")) (eNil)))) (eNil))) E (s1.obj :: T) = .ok d (s2.obj :: T) := St.call (St.cons rfl (St.cons (wmenu s1 T) St.nil)) rfl e2
  have c3 : bVal (eBin dGt (eArgs dLen (eCons (eVar 5) (eNil))) (eC (.int 0))) E (s1.obj :: T) = .ok (decide ((0 : Int) < (ps.length : Nat))) (s1.obj :: T) := St.val (St.bin (f := dGt) (St.args (St.cons rfl St.nil) (lp' s1)) rfl o_gt)
  by_cases hp0 : (0 : Int) < (ps.length : Nat)
  · rw [decide_eq_true hp0] at c3
    obtain ⟨r3, s3, d3, a3, b3, h3⟩ := ed (R := T) (n := (ps.length : Nat)) h2 hp0 (by omega)
    obtain ⟨i, rfl⟩ := Int.eq_ofNat_of_zero_le a3
    have hi : i < ps.length := by omega
    have hpi := List.getElem?_eq_getElem hi
    let T1 : MH := T.set p (.lst ((ps.map D.int).eraseIdx i))
    have epop : ePopAt (eVar 5) (eCall 2 m_law_draw (eCons (eVar 0) (eCons (eArgs dLen (eCons (eVar 5) (eNil))) (eNil)))) E (s2.obj :: T) = .ok (.int ps[i]) (s3.obj :: T1) := St.popAt (n := p + 1) rfl (at1 A.hp) (d3 _ _ fun s => St.cons rfl (St.cons (St.args (St.cons rfl St.nil) (lp' s)) St.nil)) (at1 A.hp) (by rw [List.getElem?_map, hpi]; rfl) (by rw [List.length_map]; omega)
    obtain ⟨x, hx, hxd⟩ := end_word hd ps[i]
    have hc1 : T1[c]? = some (.lst (calls.map Cl.d)) := at_off A.hc A.cp.symm
    let T2 : MH := T1.set c (.lst (calls.map Cl.d ++ [.tup [d, .int ps[i]]]))
    refine ⟨s3, T2, c, p, q, calls ++ [x], fresh, ps.eraseIdx i, qs, some (.int r1), x9, St.seq s8 (St.ifF c1 (St.ifF c2 (St.ifT c3 (St.sdo (St.app (n := c + 1) (M2 := s3.obj :: T1) rfl ⟨_, at1 A.hc⟩ (St.tup (ds := [d, .int ps[i]]) (St.cons epick (St.cons epop St.nil))) (at1 hc1) (by rw [List.length_map]; omega)))))), h3, ⟨?_, ?_, at_off (at_off A.hq A.pq) A.cq, A.cp, A.cq, A.pq, A.lc, A.lp, A.lq, ?_⟩, V.endp hpi hx, by rw [List.length_append, List.length_singleton]; omega, ?_⟩
    · rw [List.map_append, List.map_cons, List.map_nil, hxd]; exact at_set hc1
    · rw [← map_erase]; exact at_off (at_set A.hp) A.cp
    · exact (fset A.lp).seq (Fr.set (S := [c]) List.mem_cons_self) fun i hi => .inr (by obtain rfl := List.mem_singleton.mp hi; exact A.lc)
    · have := List.length_eraseIdx_le ps i
      omega
  · rw [decide_eq_false hp0] at c3
    have hp0' : ps = [] := List.length_eq_zero_iff.mp (by omega)
    subst hp0'
    have hq0 : (0 : Int) < (qs.length : Nat) := by simp at hpos; omega
    obtain ⟨r3, s3, d3, a3, b3, h3⟩ := ed (R := T) (n := (qs.length : Nat)) h2 hq0 (by omega)
    obtain ⟨i, rfl⟩ := Int.eq_ofNat_of_zero_le a3
    have hi : i < qs.length := by omega
    have hqi := List.getElem?_eq_getElem hi
    let T1 : MH := T.set q (.lst ((qs.map D.int).eraseIdx i))
    have epop : ePopAt (eVar 6) (eCall 2 m_law_draw (eCons (eVar 0) (eCons (eArgs dLen (eCons (eVar 6) (eNil))) (eNil)))) E (s2.obj :: T) = .ok (.int qs[i]) (s3.obj :: T1) := St.popAt (n := q + 1) rfl (at1 A.hq) (d3 _ _ fun s => St.cons rfl (St.cons (St.args (St.cons rfl St.nil) (lq' s)) St.nil)) (at1 A.hq) (by rw [List.getElem?_map, hqi]; rfl) (by rw [List.length_map]; omega)
    obtain ⟨x, hx, hxd⟩ := end_word hd qs[i]
    have hc1 : T1[c]? = some (.lst (calls.map Cl.d)) := at_off A.hc A.cq.symm
    let T2 : MH := T1.set c (.lst (calls.map Cl.d ++ [.tup [d, .int qs[i]]]))
    refine ⟨s3, T2, c, p, q, calls ++ [x], fresh, [], qs.eraseIdx i, some (.int r1), x9, St.seq s8 (St.ifF c1 (St.ifF c2 (St.ifF c3 (St.sdo (St.app (n := c + 1) (M2 := s3.obj :: T1) rfl ⟨_, at1 A.hc⟩ (St.tup (ds := [d, .int qs[i]]) (St.cons epick (St.cons epop St.nil))) (at1 hc1) (by rw [List.length_map]; omega)))))), h3, ⟨?_, at_off (at_off A.hp A.pq.symm) A.cp, ?_, A.cp, A.cq, A.pq, A.lc, A.lp, A.lq, ?_⟩, V.endq hqi hx, by rw [List.length_append, List.length_singleton]; omega, ?_⟩
    · rw [List.map_append, List.map_cons, List.map_nil, hxd]; exact at_set hc1
    · rw [← map_erase]; exact at_off (at_set A.hq) A.cq
    · exact (fset A.lq).seq (Fr.set (S := [c]) List.mem_cons_self) fun i hi => .inr (by obtain rfl := List.mem_singleton.mp hi; exact A.lc)
    · have := List.length_eraseIdx_le qs i
      simp at hn ⊢
      omega
end
end K80
-- T19a
namespace K80
open PySem L2 T2
/-! ### the calls of a law -/
theorem Go.cl {wh kp : Str} : ∀ {cs : List Cl} {B : List Br}, Go wh kp B cs → ∀ c ∈ cs, ClOk c
  | [], _, _, _, h => by cases h
  | c :: cs, B, g, x, h => by
    obtain ⟨m, co, g2⟩ := g.len_next
    rcases List.mem_cons.mp h with rfl | h
    · exact co
    · exact Go.cl g2 x h
theorem in_turn_run {wh kp : Str} {s : Bx} {R : MH} {t : Str} {m : Nat} (hs : BxOk s) (ht : PyData.strOk t = true) (hm : m ≤ 16) :
    ∃ (cs : List Cl) (s' : Bx), m_law_in_turn [.ref 0, .str t, .int (m : Nat)] (s.obj :: R) = .ok (.fro (cs.map Cl.d)) (s'.obj :: R) ∧ BxOk s' ∧ cs.length ≤ 80 ∧ Go wh kp [] cs ∧ opn (runC wh kp [] cs) = [] := by
  let L := R.length
  let T0 : MH := R ++ [.lst [], .lst [], .lst []]
  have l0 : T0.length = L + 3 := by simp [T0, L]
  have A0 : InAt R T0 L (L + 1) (L + 2) [] [] [] := ⟨by simp [T0, L], by simp [T0, L], by simp [T0, L], by omega, by omega, by omega, by omega, by omega, by omega, Fr.app⟩
  obtain ⟨e', M', lp, s', T', c, p, q, calls, fresh, ps, qs, x7, x8, x9, rfl, rfl, h1, h2, h3, h4, h5⟩ := loop_inv (body := lp_law_in_turn_1) (tg := tgName 7) (I := fun k e M => ∃ (s' : Bx) (T' : MH) (c p q : Nat) (calls : List Cl) (fresh : Int) (ps qs : List Int) (x7 x8 x9 : Option D), e = iE t (m : Nat) c fresh p q x7 x8 x9 ∧ M = s'.obj :: T' ∧ BxOk s' ∧ InAt R T' c p q calls ps qs ∧ Tn wh kp calls fresh ps qs ∧ calls.length ≤ 4 * k ∧ ps.length + qs.length ≤ k) (rangeD 0 m) 0 (iE t (m : Nat) L 0 (L + 1) (L + 2) none none none) (s.obj :: T0) ⟨s, T0, L, L + 1, L + 2, [], 0, [], [], none, none, none, rfl, rfl, hs, A0, tn_0, by simp, by simp⟩ (fun j hj e M h => by
    obtain ⟨s', T', c, p, q, calls, fresh, ps, qs, x7, x8, x9, rfl, rfl, h1, h2, h3, h4, h5⟩ := h
    rw [rangeD_len] at hj
    obtain ⟨s2, T2, c2, p2, q2, calls2, fresh2, ps2, qs2, y8, y9, r1, r2, r3, r4, r5, r6⟩ := turn_run (m := (m : Nat)) (x7 := some ((rangeD 0 m)[j]'(by rw [rangeD_len]; exact hj))) (x8 := x8) (x9 := x9) h1 ht h2 h3 h4 h5 (by omega)
    exact ⟨_, _, _, rfl, r1, s2, T2, c2, p2, q2, calls2, fresh2, ps2, qs2, _, y8, y9, rfl, rfl, r2, r3, r4, r5, r6⟩)
  rw [Nat.zero_add, rangeD_len] at h4 h5
  obtain ⟨g, hop⟩ := h3.fin
  let cs : List Cl := calls ++ (qs ++ ps).map Cl.en
  have fr : Fr [] R T' := h2.fr
  obtain ⟨G, rfl⟩ := fr.ext
  refine ⟨cs, s', frzB_low (f := fnB 11 b_law_in_turn) (s := s) (s' := s') (T := R) (G := G ++ [.lst (((qs ++ ps).map Cl.en).map Cl.d)]) (d := .fro (cs.map Cl.d)) ?_ (low_fro fun a ha => ?_), h1, ?_, g, hop⟩
  · let E : Env2 := iE t (m : Nat) c fresh p q x7 x8 x9
    have a3 : sSet 3 (eLst (eNil)) [some (.ref 0), some (.str t), some (.int (m : Nat)), none, none, none, none, none, none, none, none] (s.obj :: R) = .nx [some (.ref 0), some (.str t), some (.int (m : Nat)), some (.ref (L + 1)), none, none, none, none, none, none, none] (s.obj :: (R ++ [.lst []])) := St.set (St.lst (M1 := s.obj :: R) St.nil)
    have a5 : sSet 5 (eLst (eNil)) [some (.ref 0), some (.str t), some (.int (m : Nat)), some (.ref (L + 1)), some (.int 0), none, none, none, none, none, none] (s.obj :: (R ++ [.lst []])) = .nx [some (.ref 0), some (.str t), some (.int (m : Nat)), some (.ref (L + 1)), some (.int 0), some (.ref (L + 1 + 1)), none, none, none, none, none] (s.obj :: (R ++ [.lst [], .lst []])) := by
      have := St.set (i := 5) (e := [some (.ref 0), some (.str t), some (.int (m : Nat)), some (.ref (L + 1)), some (.int 0), none, none, none, none, none, none]) (St.lst (M1 := s.obj :: (R ++ [.lst []])) (e := [some (.ref 0), some (.str t), some (.int (m : Nat)), some (.ref (L + 1)), some (.int 0), none, none, none, none, none, none]) (M := s.obj :: (R ++ [.lst []])) St.nil)
      rw [this]
      have hl : (s.obj :: (R ++ [MO.lst []])).length = L + 1 + 1 := by simp [L]
      have hm : (s.obj :: (R ++ [MO.lst []])) ++ [MO.lst []] = s.obj :: (R ++ [.lst [], .lst []]) := by simp
      rw [hl, hm]
      rfl
    have a6 : sSet 6 (eLst (eNil)) [some (.ref 0), some (.str t), some (.int (m : Nat)), some (.ref (L + 1)), some (.int 0), some (.ref (L + 1 + 1)), none, none, none, none, none] (s.obj :: (R ++ [.lst [], .lst []])) = .nx (iE t (m : Nat) L 0 (L + 1) (L + 2) none none none) (s.obj :: T0) := by
      have := St.set (i := 6) (e := [some (.ref 0), some (.str t), some (.int (m : Nat)), some (.ref (L + 1)), some (.int 0), some (.ref (L + 1 + 1)), none, none, none, none, none]) (St.lst (M1 := s.obj :: (R ++ [.lst [], .lst []])) (e := [some (.ref 0), some (.str t), some (.int (m : Nat)), some (.ref (L + 1)), some (.int 0), some (.ref (L + 1 + 1)), none, none, none, none, none]) (M := s.obj :: (R ++ [.lst [], .lst []])) St.nil)
      rw [this]
      have hl : (s.obj :: (R ++ [MO.lst [], MO.lst []])).length = L + 2 + 1 := by simp [L]
      have hm : (s.obj :: (R ++ [MO.lst [], MO.lst []])) ++ [MO.lst []] = s.obj :: T0 := by simp [T0]
      rw [hl, hm]
      rfl
    have hr := St.itR (m := eVar 2) (e := iE t (m : Nat) L 0 (L + 1) (L + 2) none none none) (M := s.obj :: T0) (M1 := s.obj :: T0) (i := (m : Nat)) rfl (by omega) (by omega)
    rw [Int.toNat_natCast] at hr
    let N : MH := s'.obj :: (R ++ G)
    have hcat : dCat mkF (.ref (q + 1)) (.ref (p + 1)) N = .ok (.fro ((qs ++ ps).map D.int)) N := by
      rw [cat_F (row_li (at1 h2.hq)) (row_li (at1 h2.hp)) (by rw [List.length_map, List.length_map]; omega), List.map_append]
    have lc := lc_each (mo := eBin (dCat mkF) (eVar 6) (eVar 5)) (tg := tgName 10) (m := eTup (eCons (eC (.str "end")) (eCons (eVar 10) (eNil)))) (vs := [10]) (e := E) (M0 := N) (M := N) (l := .fro ((qs ++ ps).map D.int)) (f := D.int) (g := fun x => (Cl.en x).d) (xs := qs ++ ps) (St.bin (f := dCat mkF) rfl rfl hcat) rfl (fun x _ acc => rfl) (by rw [List.length_append]; omega)
    have hm : N ++ [.lst ((qs ++ ps).map fun x => (Cl.en x).d)] = s'.obj :: (R ++ (G ++ [.lst (((qs ++ ps).map Cl.en).map Cl.d)])) := by
      rw [List.map_map]
      simp [N, Function.comp_def]
    rw [hm] at lc
    have hN : (s'.obj :: (R ++ (G ++ [MO.lst (((qs ++ ps).map Cl.en).map Cl.d)])))[N.length]? = some (.lst (((qs ++ ps).map Cl.en).map Cl.d)) := by
      rw [← List.append_assoc]
      exact at_last N _
    have hC : (s'.obj :: (R ++ (G ++ [MO.lst (((qs ++ ps).map Cl.en).map Cl.d)])))[c + 1]? = some (.lst (calls.map Cl.d)) := by
      rw [← List.append_assoc]
      exact at1 (at_app h2.hc)
    have hret := cat_F (row_li hC) (row_li hN) (by simp only [List.length_map, List.length_append]; omega)
    rw [← List.map_append] at hret
    exact St.fn (St.seq a3 (St.seq (St.set rfl) (St.seq a5 (St.seq a6 (St.seq (for_nx hr lp) (St.ret (St.bin (f := dCat mkF) rfl lc hret)))))))
  · obtain ⟨c, hc, rfl⟩ := List.mem_map.mp ha
    exact ok_low (g.cl c hc)
  · simp only [cs, List.length_append, List.length_map]
    omega
end K80
-- T19a
namespace K80
open PySem L2 T2
/-! ### the book of a log is made -/
theorem chkW {e : Env2} {N : MH} {i : Nat} {w : Str} {ws : List D} (h : e[i]? = some (some (.str w))) (hl : ws.length ≤ 10) (ck : m_check_word [.str "log", .str w, .tup ws] N = .ok .non N) : sDo (eCallR 2 m_check_word (eCons (eC (.str "log")) (eCons (eVar i) (eStar (eC (.tup ws)) (eNil))))) e N = .nx e N := by
  have hst : eStar (eC (.tup ws)) eNil e N = .ok ws N := by
    unfold eStar
    rw [show eC (.tup ws) e N = .ok (.tup ws) N from rfl, Res.bind_ok]
    show Res.bind (eNil e N) _ = _
    rw [z_anil, Res.bind_ok, List.append_nil]
  have ar : (eCons (eC (.str "log")) (eCons (eVar i) (eStar (eC (.tup ws)) (eNil))) : AM) e N = .ok (.str "log" :: .str w :: ws) N := St.cons rfl (St.cons (var_ok h) hst)
  refine St.sdo (d := .non) ?_
  unfold eCallR
  refine St.args ar ?_
  unfold fCallR
  rw [if_pos ⟨by simp, by simp; omega⟩]
  exact ck
section
variable {M : MH} {wn wh kp cf ct : Str}
theorem lbinit_run (hw : wn = "begin" ∨ wn = "end") (hh : wh = "image" ∨ wh = "statement") (hk : kp = "own" ∨ kp = "logged") (hf : cf = "with" ∨ cf = "behind" ∨ cf = "ahead") (ht : ct = "never" ∨ ct = "least" ∨ ct = "greatest") :
    m_LogBook___init__ [.ref M.length, .str wn, .str wh, .str kp, .str cf, .str ct] (M ++ [.ob 22 [] []]) = .ok .non (M ++ [.ob 22 bkN [.str wn, .str wh, .str kp, .str cf, .str ct]]) := by
  refine St.fnN (e1 := [some (.ref M.length), some (.str wn), some (.str wh), some (.str kp), some (.str cf), some (.str ct)]) ?_
  refine St.seq (chkW (w := wn) rfl (by decide) (by rcases hw with rfl | rfl <;> kernel_rfl)) ?_
  refine St.seq (chkW (w := wh) rfl (by decide) (by rcases hh with rfl | rfl <;> kernel_rfl)) ?_
  refine St.seq (chkW (w := kp) rfl (by decide) (by rcases hk with rfl | rfl <;> kernel_rfl)) ?_
  refine St.seq (chkW (w := cf) rfl (by decide) (by rcases hf with rfl | rfl | rfl <;> kernel_rfl)) ?_
  refine St.seq (chkW (w := ct) rfl (by decide) (by rcases ht with rfl | rfl | rfl <;> kernel_rfl)) ?_
  refine St.seq (St.putG (G := []) (G' := []) (ns := []) (ds := []) (ns' := ["when"]) (ds' := [.str wn]) rfl rfl (by kernel_rfl)) ?_
  refine St.seq (St.putG (G := []) (G' := []) (ns' := ["when", "what"]) (ds' := [.str wn, .str wh]) rfl rfl (by kernel_rfl)) ?_
  refine St.seq (St.putG (G := []) (G' := []) (ns' := ["when", "what", "kept"]) (ds' := [.str wn, .str wh, .str kp]) rfl rfl (by kernel_rfl)) ?_
  refine St.seq (St.putG (G := []) (G' := []) (ns' := ["when", "what", "kept", "confirm"]) (ds' := [.str wn, .str wh, .str kp, .str cf]) rfl rfl (by kernel_rfl)) ?_
  exact St.putG (G := []) (G' := []) (ns' := bkN) (ds' := [.str wn, .str wh, .str kp, .str cf, .str ct]) rfl rfl (by kernel_rfl)
end
theorem lbook_run {s : Bx} {T : MH} {wn wh kp cf ct : Str} (hw : wn = "begin" ∨ wn = "end") (hh : wh = "image" ∨ wh = "statement") (hk : kp = "own" ∨ kp = "logged") (hf : cf = "with" ∨ cf = "behind" ∨ cf = "ahead") (ht : ct = "never" ∨ ct = "least" ∨ ct = "greatest") :
    m_law_log_book [.fro [.str wn, .str wh, .str kp, .str cf, .str ct]] (s.obj :: T) = .ok (bkO wn wh kp cf ct) (s.obj :: T) := by
  refine frzO_ok (G := [.ob 22 bkN [.str wn, .str wh, .str kp, .str cf, .str ct]]) (d := .ref (s.obj :: T).length) ?_ box_low (fzO_ob' (M := s.obj :: T) (Nat.le_refl _) (at_last (s.obj :: T) _) rfl)
  refine St.fn (St.ret ?_)
  have i := lbinit_run (M := s.obj :: T) hw hh hk hf ht
  let E : Env2 := [some (.fro [.str wn, .str wh, .str kp, .str cf, .str ct])]
  have ix : ∀ (i : Nat) (d : D), [D.str wn, .str wh, .str kp, .str cf, .str ct][i]? = some d → eBin dIxA (eVar 0) (eC (.int (i : Nat))) E (s.obj :: T) = .ok d (s.obj :: T) := fun i d h => St.bin (f := dIxA) (M1 := s.obj :: T) (M2 := s.obj :: T) rfl rfl (SeqOf.ix (t := "list") (.inr ⟨rfl, rfl⟩) h)
  have ar : (eCons (eBin dIxA (eVar 0) (eC (.int 0))) (eCons (eBin dIxA (eVar 0) (eC (.int 1))) (eCons (eBin dIxA (eVar 0) (eC (.int 2))) (eCons (eBin dIxA (eVar 0) (eC (.int 3))) (eCons (eBin dIxA (eVar 0) (eC (.int 4))) (eNil))))) : AM) E (s.obj :: T) = .ok [.str wn, .str wh, .str kp, .str cf, .str ct] (s.obj :: T) :=
    St.cons (ix 0 _ rfl) (St.cons (ix 1 _ rfl) (St.cons (ix 2 _ rfl) (St.cons (ix 3 _ rfl) (St.cons (ix 4 _ rfl) St.nil))))
  show eMakeK _ _ _ _ _ _ _ _ = _
  unfold eMakeK
  have ar' : (eCons (eBin dIxA (eVar 0) (eC (.int 0))) (eCons (eBin dIxA (eVar 0) (eC (.int 1))) (eCons (eBin dIxA (eVar 0) (eC (.int 2))) (eCons (eBin dIxA (eVar 0) (eC (.int 3))) (eCons (eBin dIxA (eVar 0) (eC (.int 4))) (eNil))))) : AM) (env0 1 [D.fro [D.str wn, D.str wh, D.str kp, D.str cf, D.str ct]]) (s.obj :: T) = _ := ar
  rw [ar', Res.bind_ok, if_pos (show [D.str wn, .str wh, .str kp, .str cf, .str ct].length = 5 from rfl)]
  rw [show gd_LogBook___init___1_when_what_kept_confirm_cut [.ref (s.obj :: T).length] [.str wn, .str wh, .str kp, .str cf, .str ct] = [.ref (s.obj :: T).length, .str wn, .str wh, .str kp, .str cf, .str ct] from rfl, i]
  rfl
end K80
-- T19a
namespace K80
open PySem L2 T2
/-! ### two logs side by side -/
theorem in_ints {n : Int} {is : List Int} {M : MH} {p : Nat} (h : M[p]? = some (.lst (is.map D.int))) : dInA (.int n) (.ref p) M = .ok (.bl (decide (n ∈ is))) M := by
  have fl : (is.map D.int).all flatD = true := by
    rw [List.all_eq_true]
    intro d hd
    obtain ⟨z, _, rfl⟩ := List.mem_map.mp hd
    rfl
  have me : memD (.int n) (is.map D.int) = decide (n ∈ is) := by
    unfold memD inV
    rw [List.map_map, List.any_map, Bool.eq_iff_iff]
    simp only [List.any_eq_true, decide_eq_true_eq, Function.comp_apply, vOf, eqV, beq_iff_eq]
    exact ⟨fun ⟨a, h, e⟩ => e ▸ h, fun h => ⟨n, h, rfl⟩⟩
  unfold dInA inResA inRes T2.items
  dsimp only
  rw [h]
  dsimp only
  rw [if_pos ⟨rfl, fl⟩, me]
theorem isib : IsiB isi := by constructor <;> rfl
theorem alike_is : m_law_alike 8 = alikeM isi 8 := rfl
theorem alike_ok {M : MH} {x y : D} (h : Same M 8 x y) : m_law_alike 8 [x, y] M = .ok (.bl true) M := by rw [alike_is]; exact alike_same isib 8 x y h
theorem alike_i {M : MH} {i : Int} : m_law_alike 8 [.int i, .int i] M = .ok (.bl true) M := alike_ok (.inr (.inr (.inl ⟨i, rfl, rfl⟩)))
theorem LogB.keep {M M' : MH} {wn wh kp cf ct : Str} {q : Lp} {S S' : List Nat} {k : Nat} {B : List Br} (A : LogB M wn wh kp cf ct q S k B) (f : Fr S' M M') (h : ∀ i ∈ S', i ∉ S) : LogB M' wn wh kp cf ct q S k B := by
  obtain ⟨pl, hS, A2⟩ := A.ex
  subst hS
  exact ⟨pl, rfl, LgAt.keep A2 f h⟩
theorem LogB.lt {M : MH} {wn wh kp cf ct : Str} {q : Lp} {S : List Nat} {k : Nat} {B : List Br} (A : LogB M wn wh kp cf ct q S k B) : ∀ i ∈ S, i < M.length := by
  obtain ⟨pl, hS, A2⟩ := A.ex
  subst hS
  obtain ⟨es, g, _, _⟩ := A2.ov
  intro i hi
  unfold foot at hi
  simp only [List.mem_cons] at hi
  rcases hi with rfl | rfl | rfl | rfl | rfl | rfl | hi
  · exact at_lt A2.ob
  · exact at_lt A2.un
  · exact at_lt A2.dr
  · exact at_lt g
  · exact at_lt A2.wr
  · exact at_lt A2.la
  · obtain ⟨b, hb, rfl⟩ := List.mem_map.mp hi
    exact at_lt (A2.ps b hb)
structure Sv (M : MH) (wh kp cf ct : Str) (k : Nat) (B : List Br) (S1 S2 : List Nat) : Prop where
  e : LogB M "begin" wh kp cf ct (qAt 1) S1 k B
  l : LogB M "end" wh kp cf ct (qAt 7) S2 k B
  o : ∀ i ∈ S1, i ∉ S2
  s1 : ∀ i ∈ S1, i ∉ [0, 13, 14, 15]
  s2 : ∀ i ∈ S2, i ∉ [0, 13, 14, 15]
  ml : 16 ≤ M.length
section
variable {wh kp cf ct : Str} {k : Nat} {B : List Br} {M : MH} {S1 S2 : List Nat} {c : Cl}
theorem four_lt {i n : Nat} (h : 16 ≤ n) (hi : n ≤ i) : i ∉ [0, 13, 14, 15] := by
  simp only [List.mem_cons, List.not_mem_nil, or_false]
  omega
theorem two_run (hk : kp = "own" ∨ kp = "logged") (hh : wh = "image" ∨ wh = "statement") (I : Inv B) (bd : Bd k B) (m : May B c) (co : ClOk c) (A : Sv M wh kp cf ct k B S1 S2) :
    ∃ M1 M2 S1' S2', m_law_run_calls [.ref 1, .fro [c.d]] M = .ok .non M1 ∧ m_law_run_calls [.ref 7, .fro [c.d]] M1 = .ok .non M2 ∧ Sv M2 wh kp cf ct (k + 1) (next wh kp B c) S1' S2' ∧ ∀ i ∈ [0, 13, 14, 15], ∀ o, M[i]? = some o → M2[i]? = some o := by
  obtain ⟨M1, S1', r1, L1, f1, n1⟩ := call_run (.inl rfl) hk hh I bd m co A.e
  have l1 := A.l.keep f1 A.o
  obtain ⟨M2, S2', r2, L2, f2, n2⟩ := call_run (.inr rfl) hk hh I bd m co l1
  have ml1 := A.ml
  have len1 := f1.len
  have len2 := f2.len
  have k1 : ∀ i ∈ S1', i ∉ S2 := fun i hi z => (n1 i hi).elim (fun h => A.o i h z) fun h => by
    have := A.l.lt i z
    omega
  have e2 := L1.keep f2 fun i hi z => k1 i z hi
  refine ⟨M1, M2, S1', S2', r1, r2, ⟨e2, L2, fun i hi z => (n2 i z).elim (k1 i hi) fun h => ?_, fun i hi => (n1 i hi).elim (A.s1 i) fun h => four_lt ml1 h, fun i hi => (n2 i hi).elim (A.s2 i) fun h => four_lt (by omega) h, by omega⟩, fun i hi o ho => f2.keep i o (f1.keep i o ho fun z => A.s1 i z hi) fun z => A.s2 i z hi⟩
  have := L1.lt i hi
  omega
theorem Sv.keep {M' : MH} (A : Sv M wh kp cf ct k B S1 S2) (f : Fr [13, 14, 15] M M') : Sv M' wh kp cf ct k B S1 S2 :=
  ⟨A.e.keep f fun i hi z => A.s1 i z (List.mem_cons_of_mem _ hi), A.l.keep f fun i hi z => A.s2 i z (List.mem_cons_of_mem _ hi), A.o, A.s1, A.s2, Nat.le_trans A.ml f.len⟩
/-! what the law notes down -/
structure Nt (M : MH) (B : List Br) (ws : List Int) : Prop where
  r : M[13]? = some (.lst (((opn B).map Br.n).map D.int))
  w : M[14]? = some (.lst (ws.map D.int))
  d : M[15]? = some (.lst (((dn B).map Br.n).map D.int))
  nw : ∀ b ∈ B, (b.n ∈ ws ↔ b.w = true)
  ww : ∀ x ∈ ws, ∃ b ∈ B, b.n = x
def vE (x0 : Option D) (tb fr cl us : D) (x11 x12 x13 x14 : Option D) : Env2 := [x0, some tb, some (.ref 0), some fr, some cl, some (.ref 1), some (.ref 7), some us, some (.ref 13), some (.ref 14), some (.ref 15), x11, x12, x13, x14, none]
theorem opn_snoc (n : Int) : opn (B ++ [⟨n, [], false, false⟩]) = opn B ++ [⟨n, [], false, false⟩] := by
  unfold opn
  rw [List.filter_append]
  rfl
theorem opn_wr {n : Int} {st : D} {cs : List Ch} : (opn (B.map (bWr wh kp n st cs))).map Br.n = (opn B).map Br.n := by
  unfold opn
  rw [List.filter_map, List.map_map, show ((fun b : Br => !b.ov) ∘ bWr wh kp n st cs) = fun b => !b.ov from funext fun b => by show (!(bWr wh kp n st cs b).ov) = _; rw [bWr_ov]]
  exact List.map_congr_left fun b _ => bWr_n
theorem opn_erase (I : Inv B) {n : Int} {f : Br → Br} (hf : ∀ b, f b = if b.n = n then (f b) else b) (ho : ∀ b, b.n = n → (f b).ov = true) : (opn (B.map f)).map Br.n = ((opn B).map Br.n).erase n := by
  have nd : ((opn B).map Br.n).Nodup := (List.filter_sublist.map _).nodup I.nd
  rw [opn_end hf ho, nd.erase_eq_filter, List.filter_map]
  congr 1
  refine List.filter_congr fun b _ => ?_
  show decide (b.n ≠ n) = (b.n != n)
  by_cases e : b.n = n <;> simp [e]
end
end K80
-- T19a
namespace K80
open PySem L2 T2
/-! ### what is noted down after a call -/
section
variable {wh kp cf ct : Str} {k : Nat} {B : List Br} {M : MH} {S1 S2 : List Nat} {c : Cl} {x0 x11 x14 : Option D} {tb fr cl us : D} {ws : List Int}
theorem cw_ok (c : Cl) : PyData.strOk c.w = true := by
  cases c
  · exact wok_b
  · exact wok_w
  · exact wok_u
  · exact wok_e
  · exact wok_k
theorem cwv {x : Str} {N : MH} (hx : PyData.strOk x = true) : bVal (eBin dEq (eVar 12) (eC (.str x))) (vE x0 tb fr cl us x11 (some (.str c.w)) (some (.int c.n)) x14) N = .ok (decide (c.w = x)) N := St.val (St.bin (f := dEq) rfl rfl (eqS (cw_ok c) hx))
theorem note_run (I : Inv B) (bd : Bd k B) (m : May B c) (N : Nt M B ws) (hl : ws.length ≤ k) :
    ∃ M' ws', (∀ r : SM, sSeq (sIf (bVal (eBin dEq (eVar 12) (eC (.str "begin")))) (sDo (eApp (eVar 8) (eVar 13))) (sNil))
      (sSeq (sIf (bVal (eBin dEq (eVar 12) (eC (.str "wrote")))) (sDo (eApp (eVar 9) (eVar 13))) (sNil))
      (sSeq (sIf (bAnd (bVal (eBin dEq (eVar 12) (eC (.str "end")))) (bVal (eBin dInA (eVar 13) (eVar 9)))) (sDo (eApp (eVar 10) (eVar 13))) (sNil))
      (sSeq (sIf (bOr (bVal (eBin dEq (eVar 12) (eC (.str "end")))) (bVal (eBin dEq (eVar 12) (eC (.str "back"))))) (sDo (eRem (eVar 8) (eVar 13))) (sNil)) r))) (vE x0 tb fr cl us x11 (some (.str c.w)) (some (.int c.n)) x14) M = r (vE x0 tb fr cl us x11 (some (.str c.w)) (some (.int c.n)) x14) M') ∧ Nt M' (next wh kp B c) ws' ∧ Fr [13, 14, 15] M M' ∧ ws'.length ≤ k + 1 := by
  have bk := bd.k
  have bl := bd.l
  have ol : ((opn B).map Br.n).length ≤ 100 := by
    rw [List.length_map]
    have : (opn B).length ≤ B.length := List.length_filter_le _ _
    omega
  have dl : ((dn B).map Br.n).length ≤ 100 := by
    rw [List.length_map]
    have : (dn B).length ≤ B.length := List.length_filter_le _ _
    omega
  have cb : ∀ N : MH, _ := fun N => cwv (c := c) (x0 := x0) (tb := tb) (fr := fr) (cl := cl) (us := us) (x11 := x11) (x14 := x14) (N := N) wok_b
  have cwr : ∀ N : MH, _ := fun N => cwv (c := c) (x0 := x0) (tb := tb) (fr := fr) (cl := cl) (us := us) (x11 := x11) (x14 := x14) (N := N) wok_w
  have ce : ∀ N : MH, _ := fun N => cwv (c := c) (x0 := x0) (tb := tb) (fr := fr) (cl := cl) (us := us) (x11 := x11) (x14 := x14) (N := N) wok_e
  have ck : ∀ N : MH, _ := fun N => cwv (c := c) (x0 := x0) (tb := tb) (fr := fr) (cl := cl) (us := us) (x11 := x11) (x14 := x14) (N := N) wok_k
  cases c with
  | beg n =>
    have h1 : ∀ N, _ := fun N => (cb N).trans (congrArg (fun b => Res.ok b N) (decide_eq_true rfl))
    have h2 : ∀ N, _ := fun N => (cwr N).trans (congrArg (fun b => Res.ok b N) (decide_eq_false (by show ¬ ("begin" : Str) = "wrote"; decide)))
    have h3 : ∀ N, _ := fun N => (ce N).trans (congrArg (fun b => Res.ok b N) (decide_eq_false (by show ¬ ("begin" : Str) = "end"; decide)))
    have h4 : ∀ N, _ := fun N => (ck N).trans (congrArg (fun b => Res.ok b N) (decide_eq_false (by show ¬ ("begin" : Str) = "back"; decide)))
    have m : ∀ b ∈ B, b.n < n := m
    refine ⟨M.set 13 (.lst (((opn B).map Br.n).map D.int ++ [.int n])), ws, fun r => St.seq (St.ifT (h1 _) (St.sdo (St.app (n := 13) rfl ⟨_, N.r⟩ rfl N.r (by rw [List.length_map]; omega)))) (St.seq (St.ifF (h2 _) y_nil) (St.seq (St.ifF (St.bandF (h3 _)) y_nil) (St.seq (St.ifF (St.borF (h3 _) (h4 _)) y_nil) rfl))), ⟨?_, at_off N.w (by decide), ?_, fun b hb => ?_, fun x hx => ?_⟩, Fr.set List.mem_cons_self, by omega⟩
    · rw [show next wh kp B (.beg n) = B ++ [⟨n, [], false, false⟩] from rfl, opn_snoc, List.map_append, List.map_append]
      exact at_set N.r
    · rw [show next wh kp B (.beg n) = B ++ [⟨n, [], false, false⟩] from rfl, dn_snoc]
      exact at_off N.d (by decide)
    · rcases List.mem_append.mp (show b ∈ B ++ [⟨n, [], false, false⟩] from hb) with hb | hb
      · exact N.nw b hb
      · obtain rfl := List.mem_singleton.mp hb
        refine ⟨fun h => ?_, fun h => by cases h⟩
        obtain ⟨b, hb, e⟩ := N.ww _ h
        have := m b hb
        exact absurd e (by show ¬ b.n = n; omega)
    · obtain ⟨b, hb, e⟩ := N.ww x hx
      exact ⟨b, List.mem_append.mpr (.inl hb), e⟩
  | wr n st cs =>
    have h1 : ∀ N, _ := fun N => (cb N).trans (congrArg (fun b => Res.ok b N) (decide_eq_false (by show ¬ ("wrote" : Str) = "begin"; decide)))
    have h2 : ∀ N, _ := fun N => (cwr N).trans (congrArg (fun b => Res.ok b N) (decide_eq_true rfl))
    have h3 : ∀ N, _ := fun N => (ce N).trans (congrArg (fun b => Res.ok b N) (decide_eq_false (by show ¬ ("wrote" : Str) = "end"; decide)))
    have h4 : ∀ N, _ := fun N => (ck N).trans (congrArg (fun b => Res.ok b N) (decide_eq_false (by show ¬ ("wrote" : Str) = "back"; decide)))
    obtain ⟨⟨b0, hb0, e0, o0⟩, m2, m3, m4⟩ := m
    refine ⟨M.set 14 (.lst (ws.map D.int ++ [.int n])), ws ++ [n], fun r => St.seq (St.ifF (h1 _) y_nil) (St.seq (St.ifT (h2 _) (St.sdo (St.app (n := 14) rfl ⟨_, N.w⟩ rfl N.w (by rw [List.length_map]; omega)))) (St.seq (St.ifF (St.bandF (h3 _)) y_nil) (St.seq (St.ifF (St.borF (h3 _) (h4 _)) y_nil) rfl))), ⟨?_, ?_, ?_, fun b hb => ?_, fun x hx => ?_⟩, Fr.set (by simp), by rw [List.length_append, List.length_singleton]; omega⟩
    · rw [show next wh kp B (.wr n st cs) = B.map (bWr wh kp n st cs) from rfl, opn_wr]
      exact at_off N.r (by decide)
    · rw [List.map_append]; exact at_set N.w
    · have : (dn (B.map (bWr wh kp n st cs))) = dn B := dn_map (fun b => bWr_ov b) fun b hb ho => by
        rw [bWr_if, if_neg fun e => ?_]
        have := I.same hb hb0 (e.trans e0.symm)
        rw [this, o0] at ho; cases ho
      rw [show next wh kp B (.wr n st cs) = B.map (bWr wh kp n st cs) from rfl, this]
      exact at_off N.d (by decide)
    · obtain ⟨b, hb2, rfl⟩ := List.mem_map.mp (show b ∈ B.map (bWr wh kp n st cs) from hb)
      clear hb
      have hb := hb2
      rw [bWr_n, List.mem_append, List.mem_singleton]
      by_cases e : b.n = n
      · exact ⟨fun _ => by unfold bWr; rw [if_pos e], fun _ => .inr e⟩
      · have hw : (bWr wh kp n st cs b).w = b.w := by unfold bWr; rw [if_neg e]
        rw [hw]
        exact ⟨fun h => h.elim (N.nw b hb).mp fun h => absurd h e, fun h => .inl ((N.nw b hb).mpr h)⟩
    · rcases List.mem_append.mp hx with hx | hx
      · obtain ⟨b, hb, e⟩ := N.ww x hx
        exact ⟨_, List.mem_map.mpr ⟨b, hb, rfl⟩, by rw [bWr_n]; exact e⟩
      · obtain rfl := List.mem_singleton.mp hx
        exact ⟨_, List.mem_map.mpr ⟨b0, hb0, rfl⟩, by rw [bWr_n]; exact e0⟩
  | un n cs =>
    have h1 : ∀ N, _ := fun N => (cb N).trans (congrArg (fun b => Res.ok b N) (decide_eq_false (by show ¬ ("undone" : Str) = "begin"; decide)))
    have h2 : ∀ N, _ := fun N => (cwr N).trans (congrArg (fun b => Res.ok b N) (decide_eq_false (by show ¬ ("undone" : Str) = "wrote"; decide)))
    have h3 : ∀ N, _ := fun N => (ce N).trans (congrArg (fun b => Res.ok b N) (decide_eq_false (by show ¬ ("undone" : Str) = "end"; decide)))
    have h4 : ∀ N, _ := fun N => (ck N).trans (congrArg (fun b => Res.ok b N) (decide_eq_false (by show ¬ ("undone" : Str) = "back"; decide)))
    exact ⟨M, ws, fun r => St.seq (St.ifF (h1 _) y_nil) (St.seq (St.ifF (h2 _) y_nil) (St.seq (St.ifF (St.bandF (h3 _)) y_nil) (St.seq (St.ifF (St.borF (h3 _) (h4 _)) y_nil) rfl))), N, Fr.refl, by omega⟩
  | en n =>
    have h1 : ∀ N, _ := fun N => (cb N).trans (congrArg (fun b => Res.ok b N) (decide_eq_false (by show ¬ ("end" : Str) = "begin"; decide)))
    have h2 : ∀ N, _ := fun N => (cwr N).trans (congrArg (fun b => Res.ok b N) (decide_eq_false (by show ¬ ("end" : Str) = "wrote"; decide)))
    have h3 : ∀ N, _ := fun N => (ce N).trans (congrArg (fun b => Res.ok b N) (decide_eq_true rfl))
    obtain ⟨b0, hb0, rfl, o0⟩ := m
    have hr : b0.n ∈ (opn B).map Br.n := List.mem_map.mpr ⟨b0, opn_mem.mpr ⟨hb0, o0⟩, rfl⟩
    have hin : ∀ {N2 : MH}, N2[14]? = some (.lst (ws.map D.int)) → bAnd (bVal (eBin dEq (eVar 12) (eC (.str "end")))) (bVal (eBin dInA (eVar 13) (eVar 9))) (vE x0 tb fr cl us x11 (some (.str (Cl.en b0.n).w)) (some (.int (Cl.en b0.n).n)) x14) N2 = .ok (decide (b0.n ∈ ws)) N2 := fun h => St.bandT (h3 _) (St.val (St.bin (f := dInA) rfl rfl (in_ints h)))
    have hop := opn_erase I (n := b0.n) (f := bEn b0.n) (fun b => bEn_if _ _) (fun b e => by unfold bEn; rw [if_pos e])
    have hdn := dn_en I hb0 o0
    have hne : b0.n ∈ ws ↔ b0.ne = true := (N.nw b0 hb0).trans (I.w b0 hb0 o0)
    have hnw : ∀ b ∈ next wh kp B (.en b0.n), (b.n ∈ ws ↔ b.w = true) := fun b hb => by
      obtain ⟨b, hb2, rfl⟩ := List.mem_map.mp (show b ∈ B.map (bEn b0.n) from hb)
      clear hb
      have hb := hb2
      rw [bEn_n, N.nw b hb]
      unfold bEn
      split <;> exact Iff.rfl
    have hww : ∀ x ∈ ws, ∃ b ∈ next wh kp B (.en b0.n), b.n = x := fun x hx => by
      obtain ⟨b, hb, e⟩ := N.ww x hx
      exact ⟨_, List.mem_map.mpr ⟨b, hb, rfl⟩, by rw [bEn_n]; exact e⟩
    by_cases hx : b0.n ∈ ws
    · rw [if_pos (hne.mp hx)] at hdn
      have h7 := hin N.w
      rw [decide_eq_true hx] at h7
      let M1 : MH := M.set 15 (.lst (((dn B).map Br.n).map D.int ++ [.int b0.n]))
      have hr1 : M1[13]? = some (.lst (((opn B).map Br.n).map D.int)) := at_off N.r (by decide)
      refine ⟨M1.set 13 (.lst ((((opn B).map Br.n).erase b0.n).map D.int)), ws, fun r => St.seq (St.ifF (h1 _) y_nil) (St.seq (St.ifF (h2 _) y_nil) (St.seq (St.ifT h7 (St.sdo (St.app (n := 15) rfl ⟨_, N.d⟩ rfl N.d (by rw [List.length_map]; omega)))) (St.seq (St.ifT (St.borT (h3 _)) (St.sdo (St.rem (n := 13) rfl hr1 rfl hr1 hr))) rfl))), ⟨?_, at_off (at_off N.w (by decide)) (by decide), ?_, hnw, hww⟩, (Fr.set (by simp)).trans (Fr.set (by simp)), by omega⟩
      · rw [show next wh kp B (.en b0.n) = B.map (bEn b0.n) from rfl, hop]
        exact at_set hr1
      · rw [show next wh kp B (.en b0.n) = B.map (bEn b0.n) from rfl, hdn, List.map_append, List.map_append]
        exact at_off (at_set N.d) (by decide)
    · rw [if_neg fun h => hx (hne.mpr h)] at hdn
      have h7 := hin N.w
      rw [decide_eq_false hx] at h7
      refine ⟨M.set 13 (.lst ((((opn B).map Br.n).erase b0.n).map D.int)), ws, fun r => St.seq (St.ifF (h1 _) y_nil) (St.seq (St.ifF (h2 _) y_nil) (St.seq (St.ifF h7 y_nil) (St.seq (St.ifT (St.borT (h3 _)) (St.sdo (St.rem (n := 13) rfl N.r rfl N.r hr))) rfl))), ⟨?_, at_off N.w (by decide), ?_, hnw, hww⟩, Fr.set (by simp), by omega⟩
      · rw [show next wh kp B (.en b0.n) = B.map (bEn b0.n) from rfl, hop]
        exact at_set N.r
      · rw [show next wh kp B (.en b0.n) = B.map (bEn b0.n) from rfl, hdn]
        exact at_off N.d (by decide)
  | bk n =>
    have h1 : ∀ N, _ := fun N => (cb N).trans (congrArg (fun b => Res.ok b N) (decide_eq_false (by show ¬ ("back" : Str) = "begin"; decide)))
    have h2 : ∀ N, _ := fun N => (cwr N).trans (congrArg (fun b => Res.ok b N) (decide_eq_false (by show ¬ ("back" : Str) = "wrote"; decide)))
    have h3 : ∀ N, _ := fun N => (ce N).trans (congrArg (fun b => Res.ok b N) (decide_eq_false (by show ¬ ("back" : Str) = "end"; decide)))
    have h4 : ∀ N, _ := fun N => (ck N).trans (congrArg (fun b => Res.ok b N) (decide_eq_true rfl))
    obtain ⟨b0, hb0, rfl, o0⟩ := m
    have hr : b0.n ∈ (opn B).map Br.n := List.mem_map.mpr ⟨b0, opn_mem.mpr ⟨hb0, o0⟩, rfl⟩
    have hop := opn_erase I (n := b0.n) (f := bBk b0.n) (fun b => bBk_if _ _) (fun b e => by unfold bBk; rw [if_pos e])
    have hdn := dn_bk I hb0 o0
    refine ⟨M.set 13 (.lst ((((opn B).map Br.n).erase b0.n).map D.int)), ws, fun r => St.seq (St.ifF (h1 _) y_nil) (St.seq (St.ifF (h2 _) y_nil) (St.seq (St.ifF (St.bandF (h3 _)) y_nil) (St.seq (St.ifT (St.borF (h3 _) (h4 _)) (St.sdo (St.rem (n := 13) rfl N.r rfl N.r hr))) rfl))), ⟨?_, at_off N.w (by decide), ?_, fun b hb => ?_, fun x hx => ?_⟩, Fr.set (by simp), by omega⟩
    · rw [show next wh kp B (.bk b0.n) = B.map (bBk b0.n) from rfl, hop]
      exact at_set N.r
    · rw [show next wh kp B (.bk b0.n) = B.map (bBk b0.n) from rfl, hdn]
      exact at_off N.d (by decide)
    · obtain ⟨b, hb2, rfl⟩ := List.mem_map.mp (show b ∈ B.map (bBk b0.n) from hb)
      clear hb
      have hb := hb2
      rw [bBk_n, N.nw b hb]
      unfold bBk
      split <;> exact Iff.rfl
    · obtain ⟨b, hb, e⟩ := N.ww x hx
      exact ⟨_, List.mem_map.mpr ⟨b, hb, rfl⟩, by rw [bBk_n]; exact e⟩
end
end K80
-- T19a
namespace K80
open PySem L2 T2
/-! ### one turn of the law's loop -/
theorem cut_one {ds : List D} {i : Nat} {x : D} (h : ds[i]? = some x) : cutD ds (some (i : Int)) (some ((i : Int) + 1)) = [x] := by
  have hi := (List.getElem?_eq_some_iff.mp h).1
  have h1 : ¬ ((i : Int) < 0) := by omega
  have h2 : ¬ ((i : Int) + 1 < 0) := by omega
  unfold cutD
  simp only [HT.sIx, h1, h2, if_false]
  rw [show min (i : Int).toNat ds.length = i by omega, show min ((i : Int) + 1).toNat ds.length = i + 1 by omega, show i + 1 - i = 1 by omega, List.drop_eq_getElem_cons hi]
  have : ds[i] = x := (List.getElem?_eq_some_iff.mp h).2
  rw [this]
  rfl
section
variable {wh kp cf ct : Str} {k : Nat} {B : List Br} {M : MH} {S1 S2 : List Nat} {c : Cl} {x0 x11 x12 x13 x14 : Option D} {tb fr cl us : D} {ws : List Int}
theorem free_run (I : Inv B) (N : Nt M B ws) (hl : B.length ≤ 100) : eLc (iSeq (eVar 10)) (tgName 15) (bOr (bVal (eBin dEq (eArgs dLen (eCons (eVar 8) (eNil))) (eC (.int 0)))) (bVal (eBin dLt (eVar 15) (eBin dIxA (eVar 8) (eC (.int 0)))))) (eVar 15) [15] (vE x0 tb fr cl us x11 x12 x13 x14) M = .ok (.ref M.length) (M ++ [.lst (((eU B).map Br.n).map D.int)]) := by
  have dl : (dn B).length ≤ B.length := List.length_filter_le _ _
  rw [eU_dn I]
  let P : Int → Bool := fun k => decide (opn B = [] ∨ ∃ b ∈ (opn B).head?, k < b.n)
  have hP : (((dn B).map Br.n).filter P).map D.int = ((dn B).map Br.n).filterMap fun x => if P x = true then some (D.int x) else none := fm_if.symm
  show _ = Res.ok (D.ref M.length) (M ++ [.lst ((((dn B).map Br.n).filter P).map D.int)])
  rw [hP]
  refine lc_all (l := .ref 15) (M := M) (f := D.int) rfl (row_it N.d) (fun x hx acc => ?_) (by rw [List.length_map]; omega)
  let E : Env2 := [x0, some tb, some (.ref 0), some fr, some cl, some (.ref 1), some (.ref 7), some us, some (.ref 13), some (.ref 14), some (.ref 15), x11, x12, x13, x14, some (.int x)]
  let A : MH := M ++ [.lst acc]
  have hr : A[13]? = some (.lst (((opn B).map Br.n).map D.int)) := at_app N.r
  have hlen : bVal (eBin dEq (eArgs dLen (eCons (eVar 8) (eNil))) (eC (.int 0))) E A = .ok (decide ((((opn B).map Br.n).map D.int).length = (0 : Int))) A := St.val (St.bin (f := dEq) (St.args (St.cons rfl St.nil) (row_len hr)) rfl o_eqi)
  have ht : bOr (bVal (eBin dEq (eArgs dLen (eCons (eVar 8) (eNil))) (eC (.int 0)))) (bVal (eBin dLt (eVar 15) (eBin dIxA (eVar 8) (eC (.int 0))))) E A = .ok (P x) A := by
    cases ho : opn B with
    | nil =>
      rw [ho] at hlen
      have : P x = true := decide_eq_true (.inl ho)
      rw [this]
      exact St.borT hlen
    | cons b r =>
      rw [ho] at hlen hr
      have hf : bVal (eBin dEq (eArgs dLen (eCons (eVar 8) (eNil))) (eC (.int 0))) E A = .ok false A := hlen.trans (congrArg (fun b => Res.ok b A) (decide_eq_false (by simp only [List.length_map, List.length_cons]; omega)))
      have hx : P x = decide (x < b.n) := by
        show decide (opn B = [] ∨ ∃ b ∈ (opn B).head?, x < b.n) = _
        rw [ho]
        simp
      rw [hx]
      exact St.borF hf (St.val (St.bin (f := dLt) rfl (St.bin (f := dIxA) rfl rfl (row_ix (i := 0) hr rfl)) o_lt))
  rw [u_step]
  show (noX (bOr _ _ E A)).bind _ = _
  rw [ht, u_nox, y_bind_ok]
  cases P x <;> rfl
theorem turn1_run (hk : kp = "own" ∨ kp = "logged") (hh : wh = "image" ∨ wh = "statement") (I : Inv B) (bd : Bd k B) (hk2 : k + 1 ≤ 100) (m : May B c) (co : ClOk c) (A : Sv M wh kp cf ct k B S1 S2) (N : Nt M B ws) (hl : ws.length ≤ k) {ds : List D} (hc : ds[k]? = some c.d) {b0 : MO} (h0 : M[0]? = some b0) :
    ∃ M' S1' S2' ws' y12 y13 y14, lp_law_1 (vE x0 tb fr (.fro ds) us (some (.int (k : Nat))) x12 x13 x14) M = .nx (vE x0 tb fr (.fro ds) us (some (.int (k : Nat))) y12 y13 y14) M' ∧ Sv M' wh kp cf ct (k + 1) (next wh kp B c) S1' S2' ∧ Nt M' (next wh kp B c) ws' ∧ ws'.length ≤ k + 1 ∧ M'[0]? = some b0 := by
  obtain ⟨M1, M2, S1', S2', r1, r2, A2, kp4⟩ := two_run hk hh I bd m co A
  let B2 := next wh kp B c
  have I2 : Inv B2 := I.next m
  have bd2 : Bd (k + 1) B2 := bd.next co hk2
  have N2 : Nt M2 B ws := ⟨kp4 13 (by simp) _ N.r, kp4 14 (by simp) _ N.w, kp4 15 (by simp) _ N.d, N.nw, N.ww⟩
  let E1 : Env2 := vE x0 tb fr (.fro ds) us (some (.int (k : Nat))) (some (.str c.w)) (some (.int c.n)) x14
  obtain ⟨M3, ws', nt, N3, f3, l3⟩ := note_run (wh := wh) (kp := kp) (x0 := x0) (tb := tb) (fr := fr) (cl := .fro ds) (us := us) (x11 := some (.int (k : Nat))) (x14 := x14) I bd m N2 hl
  have A3 : Sv M3 wh kp cf ct (k + 1) B2 S1' S2' := A2.keep f3
  have h03 : M3[0]? = some b0 := f3.keep 0 _ (kp4 0 (by simp) _ h0) (by simp)
  have bl := bd2.l
  have fr' := free_run (x0 := x0) (tb := tb) (fr := fr) (cl := .fro ds) (us := us) (x11 := some (.int (k : Nat))) (x12 := some (.str c.w)) (x13 := some (.int c.n)) (x14 := x14) I2 N3 (by omega)
  let M4 : MH := M3 ++ [.lst (((eU B2).map Br.n).map D.int)]
  have A4 : Sv M4 wh kp cf ct (k + 1) B2 S1' S2' := A3.keep Fr.app
  have N4 : Nt M4 B2 ws' := ⟨at_app N3.r, at_app N3.w, at_app N3.d, N3.nw, N3.ww⟩
  let E2 : Env2 := vE x0 tb fr (.fro ds) us (some (.int (k : Nat))) (some (.str c.w)) (some (.int c.n)) (some (.ref M3.length))
  have hsl : ∀ M : MH, dSl mkF (.fro ds) (some (k : Int)) (some ((k : Int) + 1)) M = .ok (.fro [c.d]) M := fun M => by
    show mkF (cutD ds (some (k : Int)) (some ((k : Int) + 1))) M = _
    rw [cut_one hc]
    rfl
  have hix : ∀ (M : MH) (x12 x13 x14 : Option D), eBin dIxA (eVar 4) (eVar 11) (vE x0 tb fr (.fro ds) us (some (.int (k : Nat))) x12 x13 x14) M = .ok c.d M := fun M _ _ _ => St.bin (f := dIxA) rfl rfl (SeqOf.ix (t := "list") (.inr ⟨rfl, rfl⟩) hc)
  have run : ∀ (i p : Nat) (M M' : MH), (vE x0 tb fr (.fro ds) us (some (.int (k : Nat))) x12 x13 x14)[i]? = some (some (.ref p)) → m_law_run_calls [.ref p, .fro [c.d]] M = .ok .non M' → sDo (eCall 2 m_law_run_calls (eCons (eVar i) (eCons (eSl mkF (eVar 4) (oSome (eVar 11)) (oSome (eBin dAdd (eVar 11) (eC (.int 1))))) (eNil)))) (vE x0 tb fr (.fro ds) us (some (.int (k : Nat))) x12 x13 x14) M = .nx (vE x0 tb fr (.fro ds) us (some (.int (k : Nat))) x12 x13 x14) M' := fun i p M M' hi hr => St.sdo (St.call (St.cons (var_ok hi) (St.cons (St.sl (M1 := M) rfl (St.oS (M1 := M) rfl) (St.oS (St.bin (f := dAdd) (M1 := M) rfl rfl o_add)) (hsl M)) St.nil)) rfl hr)
  obtain ⟨ple, _, Ae⟩ := A4.e.ex
  obtain ⟨pll, _, Al⟩ := A4.l.ex
  have lu := LU_len (B := B2) (wn := "begin")
  have lu2 := LU_len (B := B2) (wn := "end")
  have hbe : (UB "begin" B2).length = (eU B2).length := by unfold UB; rw [if_pos rfl]
  have hen : (UB "end" B2).length = (dn B2).length := by unfold UB; rw [if_neg (by decide)]
  have le : eLenO 6 m_Log___len__ (eCons (eVar 5) (eNil)) E2 M4 = .ok (.int ((UB "begin" B2).length : Nat)) M4 := St.lenO (St.cons rfl St.nil) (ins_lg Ae.ob) (len_run A4.e) (by omega)
  have ll : eLenO 6 m_Log___len__ (eCons (eVar 6) (eNil)) E2 M4 = .ok (.int ((UB "end" B2).length : Nat)) M4 := St.lenO (St.cons rfl St.nil) (ins_lg Al.ob) (len_run A4.l) (by omega)
  have d10 : eArgs dLen (eCons (eVar 10) (eNil)) E2 M4 = .ok (.int ((UB "end" B2).length : Nat)) M4 := St.args (St.cons rfl St.nil) (by
    rw [row_len N4.d, List.length_map, List.length_map, hen])
  have d14 : eArgs dLen (eCons (eVar 14) (eNil)) E2 M4 = .ok (.int ((UB "begin" B2).length : Nat)) M4 := St.args (St.cons rfl St.nil) (by
    rw [row_len (at_last M3 _), List.length_map, List.length_map, hbe])
  have q1 := St.not (St.val (St.call (n := 2) (St.cons ll (St.cons d10 St.nil)) rfl alike_i))
  have q2 := St.not (St.val (St.call (n := 2) (St.cons le (St.cons d14 St.nil)) rfl alike_i))
  refine ⟨M4, S1', S2', ws', some (.str c.w), some (.int c.n), some (.ref M3.length), ?_, A4, N4, l3, at_app h03⟩
  refine St.seq (run 5 1 M M1 rfl r1) (St.seq (run 6 7 M1 M2 rfl r2) (St.seq (St.set (St.bin (f := dIxA) (hix M2 x12 x13 x14) rfl ixw)) (St.seq (St.set (St.bin (f := dIxA) (hix M2 (some (.str c.w)) x13 x14) rfl ixn)) ?_)))
  refine (nt _).trans ?_
  exact St.seq (St.set fr') (St.ifF (St.borF q1 q2) y_nil)
theorem loop1_run (hk : kp = "own" ∨ kp = "logged") (hh : wh = "image" ∨ wh = "statement") {cs : List Cl} (g : Go wh kp [] cs) (hl : cs.length ≤ 99) {s : Bx} {T : MH} (A : Sv (s.obj :: T) wh kp cf ct 0 [] S1 S2) (N : Nt (s.obj :: T) [] []) :
    ∃ T' S1' S2' ws' y11 y12 y13 y14, sForI (iRange1 (eArgs dLen (eCons (eVar 4) (eNil)))) (tgName 11) lp_law_1 (vE x0 tb fr (.fro (cs.map Cl.d)) us none none none none) (s.obj :: T) = .nx (vE x0 tb fr (.fro (cs.map Cl.d)) us y11 y12 y13 y14) (s.obj :: T') ∧ Sv (s.obj :: T') wh kp cf ct cs.length (runC wh kp [] cs) S1' S2' ∧ Nt (s.obj :: T') (runC wh kp [] cs) ws' := by
  have hi : iRange1 (eArgs dLen (eCons (eVar 4) (eNil))) (vE x0 tb fr (.fro (cs.map Cl.d)) us none none none none) (s.obj :: T) = .ok (.vals (rangeD 0 cs.length)) (s.obj :: T) := by
    have := St.itR (m := eArgs dLen (eCons (eVar 4) (eNil))) (e := vE x0 tb fr (.fro (cs.map Cl.d)) us none none none none) (M := s.obj :: T) (M1 := s.obj :: T) (i := ((cs.map Cl.d).length : Nat)) (St.args (St.cons rfl St.nil) o_lenF) (by omega) (by rw [List.length_map]; omega)
    rw [Int.toNat_natCast, List.length_map] at this
    exact this
  obtain ⟨e', M', lp, pre, post, y11, y12, y13, y14, S1', S2', ws', rfl, hpre, hlen, g', I', bd', A', N', hw', h0'⟩ := loop_inv (body := lp_law_1) (tg := tgName 11) (I := fun k e M => ∃ (pre post : List Cl) (y11 y12 y13 y14 : Option D) (S1' S2' : List Nat) (ws' : List Int), e = vE x0 tb fr (.fro (cs.map Cl.d)) us y11 y12 y13 y14 ∧ cs = pre ++ post ∧ pre.length = k ∧ Go wh kp (runC wh kp [] pre) post ∧ Inv (runC wh kp [] pre) ∧ Bd k (runC wh kp [] pre) ∧ Sv M wh kp cf ct k (runC wh kp [] pre) S1' S2' ∧ Nt M (runC wh kp [] pre) ws' ∧ ws'.length ≤ k ∧ M[0]? = some s.obj) (rangeD 0 cs.length) 0 (vE x0 tb fr (.fro (cs.map Cl.d)) us none none none none) (s.obj :: T) ⟨[], cs, none, none, none, none, S1, S2, [], rfl, rfl, rfl, g, inv_nil, ⟨Nat.le_refl _, fun b hb => (by cases hb), by omega⟩, A, N, Nat.le_refl _, rfl⟩ (fun j hj e M h => by
    obtain ⟨pre, post, y11, y12, y13, y14, S1', S2', ws', rfl, hpre, hlen, g', I', bd', A', N', hw', h0'⟩ := h
    rw [rangeD_len] at hj
    rw [Nat.zero_add] at hlen bd' A' hw' ⊢
    subst hlen
    cases post with
    | nil => rw [hpre, List.append_nil] at hj; omega
    | cons c post =>
      obtain ⟨m, co, g2⟩ := g'.len_next
      have hc : (cs.map Cl.d)[pre.length]? = some c.d := by
        rw [hpre, List.map_append, List.getElem?_append_right (by rw [List.length_map]; exact Nat.le_refl _), List.length_map, Nat.sub_self]
        rfl
      obtain ⟨M2, T1, T2, ws2, z12, z13, z14, r, A2, N2, hw2, h2⟩ := turn1_run (x0 := x0) (tb := tb) (fr := fr) (us := us) (x12 := y12) (x13 := y13) (x14 := y14) hk hh I' bd' (by omega) m co A' N' hw' hc h0'
      have hrun : runC wh kp [] (pre ++ [c]) = next wh kp (runC wh kp [] pre) c := by rw [runC_app]; rfl
      have hj' : (rangeD 0 cs.length)[pre.length]'(by rw [rangeD_len]; exact hj) = D.int (pre.length : Nat) := by
        simp [rangeD]
      refine ⟨vE x0 tb fr (.fro (cs.map Cl.d)) us (some (.int (pre.length : Nat))) y12 y13 y14, _, _, ?_, r, pre ++ [c], post, _, z12, z13, z14, T1, T2, ws2, rfl, by rw [hpre, List.append_assoc]; rfl, by rw [List.length_append, List.length_singleton], ?_, ?_, ?_, ?_, ?_, hw2, h2⟩
      · rw [hj']; rfl
      · rw [hrun]; exact g2
      · rw [hrun]; exact I'.next m
      · rw [hrun]; exact bd'.next co (by omega)
      · rw [hrun]; exact A2
      · rw [hrun]; exact N2)
  rw [Nat.zero_add, rangeD_len] at hlen bd' A'
  have hpost : post = [] := by
    have := congrArg List.length hpre
    rw [List.length_append] at this
    exact List.length_eq_zero_iff.mp (by omega)
  rw [hpost, List.append_nil] at hpre
  subst hpre
  cases M' with
  | nil => cases h0'
  | cons b T' =>
    obtain rfl := Option.some.inj h0'
    exact ⟨T', S1', S2', ws', y11, y12, y13, y14, for_nx hi lp, A', N'⟩
end
end K80
-- T19a
namespace K80
open PySem L2 T2
/-! ### the law -/
theorem Go.bd {wh kp : Str} : ∀ {cs : List Cl} {B : List Br} {k : Nat}, Go wh kp B cs → Bd k B → k + cs.length ≤ 100 → Bd (k + cs.length) (runC wh kp B cs)
  | [], _, _, _, h, _ => h
  | c :: cs, B, k, g, h, hl => by
    obtain ⟨m, co, g2⟩ := g.len_next
    rw [List.length_cons] at hl
    have := Go.bd g2 (h.next co (by omega)) (by omega)
    rw [List.length_cons, show k + (cs.length + 1) = k + 1 + cs.length by omega]
    exact this
section
variable {wh kp cf ct : Str} {k : Nat} {B : List Br} {M : MH} {S1 S2 : List Nat} {x0 x11 x12 x13 x14 : Option D} {tb fr cl us : D}
theorem loop2_run (A : Sv M wh kp cf ct k B S1 S2) (I : Inv B) (ho : opn B = []) (hl : (dn B).length ≤ 100) {U : List D} (hU : U.length = (dn B).length) :
    ∃ y11, sForI (iRange1 (eBin dAdd (eArgs dLen (eCons (eVar 7) (eNil))) (eC (.int 1)))) (tgName 11) lp_law_2 (vE x0 tb fr cl (.fro U) x11 x12 x13 x14) M = .nx (vE x0 tb fr cl (.fro U) y11 x12 x13 x14) M := by
  obtain ⟨h1, _⟩ := all_over ho
  have hbe : UB "begin" B = dn B := by unfold UB; rw [if_pos rfl]; exact h1
  have hen : UB "end" B = dn B := by unfold UB; rw [if_neg (by decide)]
  have hi : iRange1 (eBin dAdd (eArgs dLen (eCons (eVar 7) (eNil))) (eC (.int 1))) (vE x0 tb fr cl (.fro U) x11 x12 x13 x14) M = .ok (.vals (rangeD 0 ((dn B).length + 1))) M := by
    have := St.itR (m := eBin dAdd (eArgs dLen (eCons (eVar 7) (eNil))) (eC (.int 1))) (e := vE x0 tb fr cl (.fro U) x11 x12 x13 x14) (M := M) (M1 := M) (i := (U.length : Nat) + 1) (St.bin (f := dAdd) (M1 := M) (St.args (St.cons rfl St.nil) o_lenF) rfl o_add) (by omega) (by omega)
    rw [this, hU]
    congr 3
  obtain ⟨ple, _, Ae⟩ := A.e.ex
  obtain ⟨pll, _, Al⟩ := A.l.ex
  obtain ⟨e', M', lp, y11, rfl, rfl⟩ := loop_inv (body := lp_law_2) (tg := tgName 11) (I := fun k e M' => ∃ y11, e = vE x0 tb fr cl (.fro U) y11 x12 x13 x14 ∧ M' = M) (rangeD 0 ((dn B).length + 1)) 0 (vE x0 tb fr cl (.fro U) x11 x12 x13 x14) M ⟨x11, rfl, rfl⟩ (fun j hj e M' h => by
    obtain ⟨y11, rfl, rfl⟩ := h
    rw [rangeD_len] at hj
    have hj' : (rangeD 0 ((dn B).length + 1))[j]'(by rw [rangeD_len]; exact hj) = D.int (j : Nat) := by
      simp [rangeD]
    let E : Env2 := vE x0 tb fr cl (.fro U) (some (.int (j : Nat))) x12 x13 x14
    have c1 := St.meth (c := 6) (n := 2) (nm := "script_count") (o := .ref (qAt 1).a) (ds := [.int (j : Nat)]) (e := E) (mo := eVar 5) (ma := eCons (eVar 11) (eNil)) (M := M') (M1 := M') rfl (ins_lg Ae.ob) (by decide +kernel) (St.cons rfl St.nil) rfl (count_run A.e I hbe (m := j) (by omega))
    have c2 := St.meth (c := 6) (n := 2) (nm := "script_count") (o := .ref (qAt 7).a) (ds := [.int (j : Nat)]) (e := E) (mo := eVar 6) (ma := eCons (eVar 11) (eNil)) (M := M') (M1 := M') rfl (ins_lg Al.ob) (by decide +kernel) (St.cons rfl St.nil) rfl (count_run A.l I hen (m := j) (by omega))
    have q1 := St.not (St.val (St.call (n := 2) (St.cons (r := eCons (eVar 11) (eNil)) c1 (St.cons (M1 := M') rfl St.nil)) rfl alike_i))
    have q2 := St.not (St.val (St.call (n := 2) (St.cons (r := eCons (eVar 11) (eNil)) c2 (St.cons (M1 := M') rfl St.nil)) rfl alike_i))
    exact ⟨E, E, M', by rw [hj']; rfl, St.ifF (St.borF q1 q2) y_nil, _, rfl, rfl⟩)
  exact ⟨y11, for_nx hi lp⟩
end
theorem law_true (ns : List Int) (hl : ns.length ≤ 63) : ∃ M', m_law [.fro (ns.map D.int)] [] = .ok (.bl true) M' := by
  -- the name of the table
  let a0 : Option D := some (.fro (ns.map D.int))
  let E0 : Env2 := [a0, none, none, none, none, none, none, none, none, none, none, none, none, none, none, none]
  have eb : m_law_box [.fro (ns.map D.int)] [] = .ok (.ref 0) [(⟨ns, 0, 0, 0, 0⟩ : Bx).obj] := box_run hl
  have eb2 : m_law_box [.fro (ns.reverse.map D.int)] [] = .ok (.ref 0) [(⟨ns.reverse, 0, 0, 0, 0⟩ : Bx).obj] := box_run (by rw [List.length_reverse]; exact hl)
  obtain ⟨zs, sz, ez, hz, hzl, zok⟩ := names_fro (s := ⟨ns.reverse, 0, 0, 0, 0⟩) (n := 1) (R := []) ⟨Int.le_refl 0⟩ (by decide)
  obtain ⟨t, rfl⟩ : ∃ t, zs = [t] := by
    match zs, hzl with
    | [t], _ => exact ⟨t, rfl⟩
  have ht := zok t List.mem_cons_self
  have rv : fRev mkF (.fro (ns.map D.int)) [] = .ok (.fro (ns.reverse.map D.int)) [] := by
    unfold fRev
    show mkF (ns.map D.int).reverse [] = _
    rw [← List.map_reverse]
    rfl
  have s1 : sSet 1 (eFz (eBin dIxA (eCall 2 m_law_names (eCons (eCall 1 m_law_box (eCons (eUn (fRev mkF) (eVar 0)) (eNil))) (eCons (eC (.int 1)) (eNil)))) (eC (.int 0)))) E0 [] = .nx [a0, some (.str t), none, none, none, none, none, none, none, none, none, none, none, none, none, none] [] :=
    St.set (eFz_pd (k := 1) (M := []) (G := [sz.obj]) (St.bin (f := dIxA) (M1 := [sz.obj]) (St.call (n := 2) (M1 := [(⟨ns.reverse, 0, 0, 0, 0⟩ : Bx).obj]) (St.cons (St.call (n := 1) (M1 := []) (St.cons (St.un (f := fRev mkF) rfl rv) St.nil) rfl eb2) (St.cons rfl St.nil)) rfl ez) rfl (SeqOf.ix (t := "list") (j := 0) (.inr ⟨rfl, rfl⟩) rfl)) (pd_str ht))
  let s0 : Bx := ⟨ns, 0, 0, 0, 0⟩
  have h0 : BxOk s0 := ⟨Int.le_refl 0⟩
  have s2 : sSet 2 (eCall 1 m_law_box (eCons (eVar 0) (eNil))) [a0, some (.str t), none, none, none, none, none, none, none, none, none, none, none, none, none, none] [] = .nx [a0, some (.str t), some (.ref 0), none, none, none, none, none, none, none, none, none, none, none, none, none] [s0.obj] := St.set (St.call (n := 1) (M1 := []) (St.cons rfl St.nil) rfl eb)
  obtain ⟨w0, wh, kp, cf, ct, b1, e1, h1, hh, hk, hf, hct⟩ := words_run (R := []) h0
  let fr : D := .fro [.str w0, .str wh, .str kp, .str cf, .str ct]
  have s3 : sSet 3 (eCall 1 m_law_log_words (eCons (eVar 2) (eNil))) [a0, some (.str t), some (.ref 0), none, none, none, none, none, none, none, none, none, none, none, none, none] [s0.obj] = .nx [a0, some (.str t), some (.ref 0), some fr, none, none, none, none, none, none, none, none, none, none, none, none] [b1.obj] := St.set (St.call (n := 1) (M1 := [s0.obj]) (St.cons rfl St.nil) rfl e1)
  obtain ⟨r2, b2, d2, r20, r2b, h2⟩ := ed (R := []) (n := 14) h1 (by decide) (by decide)
  obtain ⟨m, rfl⟩ := Int.eq_ofNat_of_zero_le r20
  obtain ⟨cs, b3, e3, h3, csl, g, ho⟩ := in_turn_run (wh := wh) (kp := kp) (R := []) (m := 3 + m) h2 ht (by omega)
  have e3 : m_law_in_turn [.ref 0, .str t, .int (3 + (m : Nat))] [b2.obj] = .ok (.fro (cs.map Cl.d)) [b3.obj] := e3
  let cl : D := .fro (cs.map Cl.d)
  let E4 : Env2 := [a0, some (.str t), some (.ref 0), some fr, some cl, none, none, none, none, none, none, none, none, none, none, none]
  have s4 : sSet 4 (eCall 3 m_law_in_turn (eCons (eVar 2) (eCons (eVar 1) (eCons (eBin dAdd (eC (.int 3)) (eCall 2 m_law_draw (eCons (eVar 2) (eCons (eC (.int 14)) (eNil))))) (eNil))))) [a0, some (.str t), some (.ref 0), some fr, none, none, none, none, none, none, none, none, none, none, none, none] [b1.obj] = .nx E4 [b3.obj] := St.set (St.call (n := 3) (M1 := [b2.obj]) (St.cons (M1 := [b1.obj]) rfl (St.cons (M1 := [b1.obj]) rfl (St.cons (St.bin (f := dAdd) (M1 := [b1.obj]) rfl (d2 _ _ fun _ => rfl) o_add) St.nil))) rfl e3)
  -- the logs
  have bk : ∀ (wn : Str) (T : MH) (E : Env2), (wn = "begin" ∨ wn = "end") → E[3]? = some (some fr) → eCall 1 m_law_log_book (eCons (eBin (dCat mkF) (eFro (eCons (eC (.str wn)) (eNil))) (eSl mkF (eVar 3) (oSome (eC (.int 1))) (oNone))) (eNil)) E (b3.obj :: T) = .ok (bkO wn wh kp cf ct) (b3.obj :: T) := fun wn T E hw h3 => by
    have hsl : dSl mkF fr (some 1) none (b3.obj :: T) = .ok (.fro [.str wh, .str kp, .str cf, .str ct]) (b3.obj :: T) := rfl
    have hc : dCat mkF (.fro [.str wn]) (.fro [.str wh, .str kp, .str cf, .str ct]) (b3.obj :: T) = .ok (.fro [.str wn, .str wh, .str kp, .str cf, .str ct]) (b3.obj :: T) := cat_F (xs := [.str wn]) (ys := [.str wh, .str kp, .str cf, .str ct]) rfl rfl (by show 1 + 4 ≤ 1000; decide)
    exact St.call (n := 1) (St.cons (St.bin (f := dCat mkF) (St.fro (ds := [.str wn]) (St.cons rfl St.nil)) (St.sl (var_ok h3) (St.oS rfl) St.oN hsl) hc) St.nil) rfl (lbook_run hw hh hk hf hct)
  let L (wn : Str) (n : Nat) : MH := [lgO (bkO wn wh kp cf ct) (qAt n), .lst [], .dk [] [], .dk [] [], .lst [], .dk [] []]
  let M5 : MH := b3.obj :: L "begin" 1
  let M6 : MH := M5 ++ L "end" 7
  let E5 : Env2 := [a0, some (.str t), some (.ref 0), some fr, some cl, some (.ref 1), none, none, none, none, none, none, none, none, none, none]
  let E6 : Env2 := [a0, some (.str t), some (.ref 0), some fr, some cl, some (.ref 1), some (.ref 7), none, none, none, none, none, none, none, none, none]
  have s5 : sSet 5 (eMake 6 2 m_Log___init__ (eCons (eCall 1 m_law_log_book (eCons (eBin (dCat mkF) (eFro (eCons (eC (.str "begin")) (eNil))) (eSl mkF (eVar 3) (oSome (eC (.int 1))) (oNone))) (eNil))) (eNil))) E4 [b3.obj] = .nx E5 M5 := St.set (lmake_run (M := [b3.obj]) (St.cons (bk "begin" [] E4 (.inl rfl) rfl) St.nil))
  have s6 : sSet 6 (eMake 6 2 m_Log___init__ (eCons (eCall 1 m_law_log_book (eCons (eBin (dCat mkF) (eFro (eCons (eC (.str "end")) (eNil))) (eSl mkF (eVar 3) (oSome (eC (.int 1))) (oNone))) (eNil))) (eNil))) E5 M5 = .nx E6 M6 := St.set (lmake_run (M := M5) (St.cons (bk "end" _ E5 (.inr rfl) rfl) St.nil))
  obtain ⟨es, eu⟩ := units_run (s := b3) (T := M6.tail) h3 hk hh g (by omega)
  have eu : m_law_units_due [.str "end", .str wh, .str kp, cl] M6 = .ok (.fro [.fro ((dn (runC wh kp [] cs)).map Br.u), .fro (es.map D.int)]) M6 := eu
  let B := runC wh kp [] cs
  let us : D := .fro ((dn B).map Br.u)
  let E7 : Env2 := [a0, some (.str t), some (.ref 0), some fr, some cl, some (.ref 1), some (.ref 7), some us, none, none, none, none, none, none, none, none]
  have fx : ∀ (i : Nat) (d : D), [D.str w0, .str wh, .str kp, .str cf, .str ct][i]? = some d → eBin dIxA (eVar 3) (eC (.int (i : Nat))) E6 M6 = .ok d M6 := fun i d h => St.bin (f := dIxA) (M1 := M6) (M2 := M6) rfl rfl (SeqOf.ix (t := "list") (.inr ⟨rfl, rfl⟩) h)
  have s7 : sSet 7 (eBin dIxA (eCall 4 m_law_units_due (eCons (eC (.str "end")) (eCons (eBin dIxA (eVar 3) (eC (.int 1))) (eCons (eBin dIxA (eVar 3) (eC (.int 2))) (eCons (eVar 4) (eNil)))))) (eC (.int 0))) E6 M6 = .nx E7 M6 := St.set (St.bin (f := dIxA) (M1 := M6) (M2 := M6) (St.call (n := 4) (M1 := M6) (St.cons (M1 := M6) rfl (St.cons (fx 1 _ rfl) (St.cons (fx 2 _ rfl) (St.cons (M1 := M6) rfl St.nil)))) rfl eu) rfl (SeqOf.ix (t := "list") (j := 0) (.inr ⟨rfl, rfl⟩) rfl))
  let M10 : MH := M6 ++ [.lst [], .lst [], .lst []]
  have s8 : sSet 8 (eLst (eNil)) E7 M6 = .nx (E7.set 8 (some (.ref 13))) (M6 ++ [.lst []]) := St.set (St.lst (M1 := M6) St.nil)
  have s9 : sSet 9 (eLst (eNil)) (E7.set 8 (some (.ref 13))) (M6 ++ [.lst []]) = .nx ((E7.set 8 (some (.ref 13))).set 9 (some (.ref 14))) (M6 ++ [.lst []] ++ [.lst []]) := St.set (St.lst (M1 := M6 ++ [.lst []]) St.nil)
  have s10 : sSet 10 (eLst (eNil)) ((E7.set 8 (some (.ref 13))).set 9 (some (.ref 14))) (M6 ++ [.lst []] ++ [.lst []]) = .nx (vE a0 (.str t) fr cl us none none none none) M10 := St.set (St.lst (M1 := M6 ++ [.lst []] ++ [.lst []]) St.nil)
  -- both run
  have A0 : Sv M10 wh kp cf ct 0 [] [1, 2, 3, 4, 5, 6] [7, 8, 9, 10, 11, 12] := by
    have le : LogB M5 "begin" wh kp cf ct (qAt 1) [1, 2, 3, 4, 5, 6] 0 [] := log_new (M := [b3.obj])
    have ll : LogB M6 "end" wh kp cf ct (qAt 7) [7, 8, 9, 10, 11, 12] 0 [] := log_new (M := M5)
    exact ⟨(le.keep (S' := []) Fr.app (by simp)).keep (S' := []) Fr.app (by simp), ll.keep (S' := []) Fr.app (by simp), by decide, by decide, by decide, by show 16 ≤ 16; decide⟩
  have N0 : Nt M10 [] [] := ⟨rfl, rfl, rfl, fun b hb => (by cases hb), fun x hx => (by cases hx)⟩
  obtain ⟨T', S1', S2', ws', y11, y12, y13, y14, lp1, A1, N1⟩ := loop1_run (x0 := a0) (tb := .str t) (fr := fr) (us := us) hk hh g (by omega) (s := b3) (T := M10.tail) A0 N0
  have I : Inv B := g.inv inv_nil
  have bd : Bd (0 + cs.length) B := g.bd ⟨Nat.le_refl _, fun b hb => (by cases hb), by decide⟩ (by omega)
  rw [Nat.zero_add] at bd
  have bl := bd.l
  have dl : (dn B).length ≤ 80 := by
    have : (dn B).length ≤ B.length := List.length_filter_le _ _
    omega
  have hpd : ∀ b ∈ dn B, Pd 7 b.u := fun b hb => by
    have hb' := (dn_mem.mp hb).1
    exact u_pd (run_pd g (fun b hb => (by cases hb)) b hb') (by have := bd.ps b hb'; omega)
  obtain ⟨ha1, _⟩ := all_over (B := B) ho
  have hbe : UB "begin" B = dn B := by unfold UB; rw [if_pos rfl]; exact ha1
  have hen : UB "end" B = dn B := by unfold UB; rw [if_neg (by decide)]
  let E : Env2 := vE a0 (.str t) fr cl us y11 y12 y13 y14
  let M : MH := b3.obj :: T'
  have li1 := listed_run A1.e (by rw [hbe]; exact hpd) (by rw [hbe]; omega)
  rw [hbe] at li1
  have li2 := listed_run A1.l (by rw [hen]; exact hpd) (by rw [hen]; omega)
  rw [hen] at li2
  have al : ∀ {i p : Nat}, E[i]? = some (some (.ref p)) → m_law_listed [.ref p] M = .ok us M → bNot (bVal (eCall 2 (m_law_alike 8) (eCons (eCall 1 m_law_listed (eCons (eVar i) (eNil))) (eCons (eVar 7) (eNil))))) E M = .ok false M := fun hi h => St.not (St.val (St.call (n := 2) (M1 := M) (St.cons (St.call (n := 1) (M1 := M) (St.cons (var_ok hi) St.nil) rfl h) (St.cons (M1 := M) rfl St.nil)) rfl (alike_ok (same_list (xs := (dn B).map Br.u) rfl rfl (by rw [List.length_map]; omega) fun a ha => by
    obtain ⟨b, hb, rfl⟩ := List.mem_map.mp ha
    exact hpd b hb))))
  have cn : bVal (eBin dNe (eArgs dLen (eCons (eVar 7) (eNil))) (eArgs dLen (eCons (eVar 10) (eNil)))) E M = .ok false M := by
    have h := St.val (St.bin (f := dNe) (e := E) (M1 := M) (St.args (f := dLen) (ma := eCons (eVar 7) (eNil)) (M := M) (M1 := M) (St.cons (M1 := M) rfl St.nil) o_lenF) (St.args (f := dLen) (ma := eCons (eVar 10) (eNil)) (M := M) (M1 := M) (St.cons (M1 := M) rfl St.nil) (row_len N1.d)) o_nei)
    rw [List.length_map, List.length_map, List.length_map] at h
    rw [h]
    simp [B]
  obtain ⟨z11, lp2⟩ := loop2_run (x0 := a0) (tb := .str t) (fr := fr) (cl := cl) (x11 := y11) (x12 := y12) (x13 := y13) (x14 := y14) A1 I ho (Nat.le_trans dl (by decide)) (U := (dn B).map Br.u) (List.length_map _)
  exact ⟨M, St.fn (St.seq s1 (St.seq s2 (St.seq s3 (St.seq s4 (St.seq s5 (St.seq s6 (St.seq s7 (St.seq s8 (St.seq s9 (St.seq s10 (St.seq lp1 (St.seq (St.ifF (St.borF cn (St.borF (al (i := 5) rfl li1) (al (i := 6) rfl li2))) y_nil) (St.seq lp2 (St.ret rfl))))))))))))))⟩
theorem law_sp {K : PySem.W.Frag} {ad : Nat → Addr} {vs : List V} {H : Hp} {Q : VK} {E : L2.XK} (hs : spLaw K vs H Q E) : spD ⟨K, ad⟩ 1 m_law vs H Q E := sp_of_true law_true hs
end K80
namespace K80
open PySem L2 T2
theorem walk {l : PySem.W.OpenLaw} {q : Program} {loose : List Str} {XP : (Str → Option Value) → Heap → Prop} {YP : World → Heap → Prop} {d : DefRec} {K : Params → PySem.W.Frag} (hn : l.most = some 63) (hdf : d.params.defaults = [])
    (hY : ∀ (w : World) (h : Heap), YP w h → (K w.params).In h)
    (F : ∀ (w : World) (mg : Str → Option Value) (fa : Addr) (h : Heap), (K w.params).In h → h.Ns mainGlobals mg → mg d.name = some (.ref fa) →
      ∃ fd : FuncData, (∀ (s : Shared) (u : Value), BindsTo s fd ⟨[u], []⟩ [("_law_script", u)]) ∧ ∀ base : Heap, (K w.params).In base → base.Ns mainGlobals mg → ∃ ad : Nat → Addr, FnOk l.prog w (K w.params) mg base (L2N.CX l.prog w) 18 fa fd ["_law_script"] (spD ⟨K w.params, ad⟩ 1 m_law)) :
    PySem.W.WalkO q loose XP YP l.row.toRowW d [] (fun f vs => PySem.call f vs) :=
  L2.walk_of (n := 63) (k := 18) (x := "_law_script") (CX := fun w => L2N.CX l.prog w) (sp := fun w => spLaw (K w.params)) hn (by decide) hdf ⟨rfl, by decide, by decide⟩ hY (fun w mg fa h KI GN hmg => (F w mg fa h KI GN hmg).imp fun fd hF => ⟨hF.1, fun base b1 b2 => (hF.2 base b1 b2).elim fun ad hok => hok.imp fun vs H Q Ex hs => law_sp hs⟩) (fun w H a ns hl _ hS => ⟨a, ns, rfl, hl, hS, fun _ => rfl⟩) fun w H s e s' hc => no_exc hc
end K80
namespace K80
open PySem L2 T2
theorem all_mk {l : PySem.W.OpenLaw} {w : World} {K : PySem.W.Frag} {h : Heap} {mg : Str → Option Value} {fa : Addr} (X : K.In h) (G : h.Ns mainGlobals mg) (hfa : mg "law" = some (.ref fa))
    {f6 f2 f22 f4 f28 f30 f27 f29 f33 f31 f36 f35 f41 f42 f7 f5 z108 z109 z121 f21 f23 z145 f34 f37 f38 f39 f10 f12 f13 f11 f14 f15 f18 f16 f17 f40 f32 f8 f3 z309 z310 z322 f9 f43 f20 f44 z371 z378 z384 z390 z397 : Addr} {z1 z3 z4 z5 z7 z8 z10 z12 z13 z14 z16 z17 z19 z21 z22 z23 z25 z26 z28 z30 z31 z32 z34 z35 z37 z39 z40 z41 z43 z44 z46 z48 z49 z50 z52 z53 z55 z57 z58 z59 z61 z62 z64 z66 z67 z68 z70 z71 z73 z75 z76 z77 z79 z80 z82 z84 z85 z86 z88 z89 z91 z93 z94 z95 z97 z98 z100 z102 z103 z104 z106 z110 z116 z134 z136 z137 z138 z140 z141 z143 z146 z147 z149 z150 z157 z159 z160 z161 z163 z164 z166 z168 z169 z170 z172 z173 z175 z177 z178 z179 z181 z182 z184 z186 z187 z188 z190 z191 z193 z195 z196 z197 z199 z200 z202 z204 z205 z206 z208 z209 z211 z213 z214 z215 z217 z218 z220 z222 z223 z224 z226 z227 z229 z231 z232 z233 z235 z236 z238 z240 z241 z242 z244 z245 z247 z249 z250 z251 z253 z254 z256 z258 z259 z260 z262 z263 z265 z267 z268 z269 z271 z272 z274 z276 z277 z278 z280 z281 z283 z285 z286 z287 z289 z290 z292 z294 z295 z296 z298 z299 z301 z303 z304 z305 z307 z311 z317 z335 z337 z338 z339 z341 z342 z344 z346 z347 z348 z350 z351 z353 z355 z356 z357 z359 z360 z362 z364 z365 z366 z368 z369 : Value} {z2 z6 z11 z15 z20 z24 z29 z33 z38 z42 z47 z51 z56 z60 z65 z69 z74 z78 z83 z87 z92 z96 z101 z105 z111 z117 z128 z135 z139 z144 z148 z158 z162 z167 z171 z176 z180 z185 z189 z194 z198 z203 z207 z212 z216 z221 z225 z230 z234 z239 z243 z248 z252 z257 z261 z266 z270 z275 z279 z284 z288 z293 z297 z302 z306 z312 z318 z329 z336 z340 z345 z349 z354 z358 z363 z367 z377 z383 z389 z396 z403 : Option Addr} {z9 z18 z27 z36 z45 z54 z63 z72 z81 z90 z99 z107 z113 z118 z142 z151 z165 z174 z183 z192 z201 z210 z219 z228 z237 z246 z255 z264 z273 z282 z291 z300 z308 z314 z319 z343 z352 z361 z370 z376 z382 z388 z395 z402 : Array (Option Value)} {z112 z313 : Array Value} {z114 z119 z120 z315 z320 z321 : Str} {z115 z152 z153 z154 z155 z156 z316 z372 z373 z374 z379 z380 z385 z386 z391 z392 z393 z398 z399 z400 : Tok} {z122 z123 z125 z323 z324 z326 : List Value} {z124 z325 : List Str} {z126 z327 : Bool} {z127 z328 : Option Bool} {z129 z130 z131 z132 z133 z330 z331 z332 z333 z334 : Option Value} {z375 z381 z387 z394 z401 : Nat}
    (a6 : PySem.W.nsIn K mainGlobals "Log" = some (some (.ref f6)))
    (a2 : PySem.W.nsIn K mainGlobals "UnknownNumber" = some (some (.ref f2)))
    (a22 : PySem.W.nsIn K mainGlobals "LogBook" = some (some (.ref f22)))
    (a4 : PySem.W.nsIn K mainGlobals "InvalidBook" = some (some (.ref f4)))
    (a28 : PySem.W.nsIn K mainGlobals "_law_draw" = some (some (.ref f28)))
    (l28 : K.lookup f28 = some ⟨z1, z2, .func (PySem.W.fnOf "_law_draw" "_law_draw" (defArgs s_law_draw) (defBody s_law_draw) (defScope s_law_draw) .none z3 z4 z5 z6 z7 z8), z9⟩)
    (c28 : PySem.W.codeIn K z7 "_law_draw" = true)
    (k28 : PySem.W.keepIn K (.ref f28) = true)
    (a30 : PySem.W.nsIn K mainGlobals "_law_names" = some (some (.ref f30)))
    (l30 : K.lookup f30 = some ⟨z10, z11, .func (PySem.W.fnOf "_law_names" "_law_names" (defArgs s_law_names) (defBody s_law_names) (defScope s_law_names) .none z12 z13 z14 z15 z16 z17), z18⟩)
    (c30 : PySem.W.codeIn K z16 "_law_names" = true)
    (k30 : PySem.W.keepIn K (.ref f30) = true)
    (a27 : PySem.W.nsIn K mainGlobals "_law_box" = some (some (.ref f27)))
    (l27 : K.lookup f27 = some ⟨z19, z20, .func (PySem.W.fnOf "_law_box" "_law_box" (defArgs s_law_box) (defBody s_law_box) (defScope s_law_box) .none z21 z22 z23 z24 z25 z26), z27⟩)
    (c27 : PySem.W.codeIn K z25 "_law_box" = true)
    (k27 : PySem.W.keepIn K (.ref f27) = true)
    (a29 : PySem.W.nsIn K mainGlobals "_law_pick" = some (some (.ref f29)))
    (l29 : K.lookup f29 = some ⟨z28, z29, .func (PySem.W.fnOf "_law_pick" "_law_pick" (defArgs s_law_pick) (defBody s_law_pick) (defScope s_law_pick) .none z30 z31 z32 z33 z34 z35), z36⟩)
    (c29 : PySem.W.codeIn K z34 "_law_pick" = true)
    (k29 : PySem.W.keepIn K (.ref f29) = true)
    (a33 : PySem.W.nsIn K mainGlobals "_law_log_words" = some (some (.ref f33)))
    (l33 : K.lookup f33 = some ⟨z37, z38, .func (PySem.W.fnOf "_law_log_words" "_law_log_words" (defArgs s_law_log_words) (defBody s_law_log_words) (defScope s_law_log_words) .none z39 z40 z41 z42 z43 z44), z45⟩)
    (c33 : PySem.W.codeIn K z43 "_law_log_words" = true)
    (k33 : PySem.W.keepIn K (.ref f33) = true)
    (a31 : PySem.W.nsIn K mainGlobals "_law_row" = some (some (.ref f31)))
    (l31 : K.lookup f31 = some ⟨z46, z47, .func (PySem.W.fnOf "_law_row" "_law_row" (defArgs s_law_row) (defBody s_law_row) (defScope s_law_row) .none z48 z49 z50 z51 z52 z53), z54⟩)
    (c31 : PySem.W.codeIn K z52 "_law_row" = true)
    (k31 : PySem.W.keepIn K (.ref f31) = true)
    (a36 : PySem.W.nsIn K mainGlobals "_law_changes" = some (some (.ref f36)))
    (l36 : K.lookup f36 = some ⟨z55, z56, .func (PySem.W.fnOf "_law_changes" "_law_changes" (defArgs s_law_changes) (defBody s_law_changes) (defScope s_law_changes) .none z57 z58 z59 z60 z61 z62), z63⟩)
    (c36 : PySem.W.codeIn K z61 "_law_changes" = true)
    (k36 : PySem.W.keepIn K (.ref f36) = true)
    (a35 : PySem.W.nsIn K mainGlobals "_law_flat" = some (some (.ref f35)))
    (l35 : K.lookup f35 = some ⟨z64, z65, .func (PySem.W.fnOf "_law_flat" "_law_flat" (defArgs s_law_flat) (defBody s_law_flat) (defScope s_law_flat) .none z66 z67 z68 z69 z70 z71), z72⟩)
    (c35 : PySem.W.codeIn K z70 "_law_flat" = true)
    (k35 : PySem.W.keepIn K (.ref f35) = true)
    (a41 : PySem.W.nsIn K mainGlobals "_law_written" = some (some (.ref f41)))
    (l41 : K.lookup f41 = some ⟨z73, z74, .func (PySem.W.fnOf "_law_written" "_law_written" (defArgs s_law_written) (defBody s_law_written) (defScope s_law_written) .none z75 z76 z77 z78 z79 z80), z81⟩)
    (c41 : PySem.W.codeIn K z79 "_law_written" = true)
    (k41 : PySem.W.keepIn K (.ref f41) = true)
    (a42 : PySem.W.nsIn K mainGlobals "_law_in_turn" = some (some (.ref f42)))
    (l42 : K.lookup f42 = some ⟨z82, z83, .func (PySem.W.fnOf "_law_in_turn" "_law_in_turn" (defArgs s_law_in_turn) (defBody s_law_in_turn) (defScope s_law_in_turn) .none z84 z85 z86 z87 z88 z89), z90⟩)
    (c42 : PySem.W.codeIn K z88 "_law_in_turn" = true)
    (k42 : PySem.W.keepIn K (.ref f42) = true)
    (om7 : PySem.W.findIn K (.ref f6) "__init__" = some (some (.ref f7)))
    (l7 : K.lookup f7 = some ⟨z91, z92, .func (PySem.W.fnOf "__init__" "Log.__init__" (defArgs s_Log___init__) (defBody s_Log___init__) (defScope s_Log___init__) .none z93 z94 z95 z96 z97 z98), z99⟩)
    (c7 : PySem.W.codeIn K z97 "Log.__init__" = true)
    (k7 : PySem.W.keepIn K (.ref f7) = true)
    (om5 : PySem.W.findIn K (.ref f4) "__init__" = some (some (.ref f5)))
    (l5 : K.lookup f5 = some ⟨z100, z101, .func (PySem.W.ksFn "__init__" "InvalidBook.__init__" (defArgs s_InvalidBook___init__) (defBody s_InvalidBook___init__) (defScope s_InvalidBook___init__) .none z102 z103 z104 z105 (.ref z108) z106 z109), z107⟩)
    (c5 : PySem.W.codeIn K (.ref z108) "InvalidBook.__init__" = true)
    (oc5 : K.lookup z108 = some ⟨z110, z111, .fields z112, z113⟩)
    (ov5 : z112[2]? = some (.str z114 z115))
    (of_5 : ((l.prog.main.file : Str) == z114) = true)
    (oe5 : K.lookup z109 = some ⟨z116, z117, .cell (some (.ref f4)), z118⟩)
    (om_4 : PySem.W.mroIn K f4 (.ref f4) = some true)
    (n_super : PySem.W.nsIn K mainGlobals "super" = some none)
    (othird : PySem.W.nsIn K cStatics "thirdparty.any" = some none)
    (osin4 : PySem.W.ks_superIn K f4 f4 "__init__" = some (some (.builtin "ValueError.__init__")))
    (oisv4 : PySem.W.subIn K (.ref f4) (.type "ValueError") = some true)
    (otop : (l.prog.main.scope.names.lookup ("super" : Str)).isSome = false)
    (ok_4 : K.lookup f4 = some (excClassObj z119 z120 f4 z121 z122 z123 true z124 z125 z126 z127 z128 z129 z130 z131 z132 z133 "ValueError.__new__"))
    (ob_4 : PySem.HandSPX.refsVE z123 = true)
    (csa4 : PySem.W.findIn K (.ref f4) "__setattr__" = some (some (.builtin "object.__setattr__")))
    (xb4 : PySem.W.subIn K (.ref f4) (.type "BaseException") = some true)
    (xt4 : PySem.W.typeIn K (.ref f4) = some (.type "type"))
    (kp4 : PySem.W.keepIn K (.ref f4) = true)
    (ot4 : PySem.W.typeIn K (.ref f5) = some (.type "function"))
    (ofl4_part : PySem.W.findIn K (.ref f4) "part" = some none)
    (a21 : PySem.W.nsIn K mainGlobals "check_word" = some (some (.ref f21)))
    (l21 : K.lookup f21 = some ⟨z134, z135, .func (PySem.W.fnOf "check_word" "check_word" (defArgs s_check_word) (defBody s_check_word) (defScope s_check_word) .none z136 z137 z138 z139 z140 z141), z142⟩)
    (c21 : PySem.W.codeIn K z140 "check_word" = true)
    (k21 : PySem.W.keepIn K (.ref f21) = true)
    (om23 : PySem.W.findIn K (.ref f22) "__init__" = some (some (.ref f23)))
    (l23 : K.lookup f23 = some ⟨z143, z144, .func (PySem.W.fnOf "__init__" "LogBook.__init__" (defArgs s_LogBook___init__) (defBody s_LogBook___init__) (defScope s_LogBook___init__) .none (.ref z145) z146 z147 z148 z149 z150), z151⟩)
    (c23 : PySem.W.codeIn K z149 "LogBook.__init__" = true)
    (k23 : PySem.W.keepIn K (.ref f23) = true)
    (w23_0 : PySem.W.nsIn K z145 "when" = some (some (.str "end" z152)))
    (w23_1 : PySem.W.nsIn K z145 "what" = some (some (.str "image" z153)))
    (w23_2 : PySem.W.nsIn K z145 "kept" = some (some (.str "own" z154)))
    (w23_3 : PySem.W.nsIn K z145 "confirm" = some (some (.str "with" z155)))
    (w23_4 : PySem.W.nsIn K z145 "cut" = some (some (.str "never" z156)))
    (a34 : PySem.W.nsIn K mainGlobals "_law_log_book" = some (some (.ref f34)))
    (l34 : K.lookup f34 = some ⟨z157, z158, .func (PySem.W.fnOf "_law_log_book" "_law_log_book" (defArgs s_law_log_book) (defBody s_law_log_book) (defScope s_law_log_book) .none z159 z160 z161 z162 z163 z164), z165⟩)
    (c34 : PySem.W.codeIn K z163 "_law_log_book" = true)
    (k34 : PySem.W.keepIn K (.ref f34) = true)
    (a37 : PySem.W.nsIn K mainGlobals "_law_portions" = some (some (.ref f37)))
    (l37 : K.lookup f37 = some ⟨z166, z167, .func (PySem.W.fnOf "_law_portions" "_law_portions" (defArgs s_law_portions) (defBody s_law_portions) (defScope s_law_portions) .none z168 z169 z170 z171 z172 z173), z174⟩)
    (c37 : PySem.W.codeIn K z172 "_law_portions" = true)
    (k37 : PySem.W.keepIn K (.ref f37) = true)
    (a38 : PySem.W.nsIn K mainGlobals "_law_call_portions" = some (some (.ref f38)))
    (l38 : K.lookup f38 = some ⟨z175, z176, .func (PySem.W.fnOf "_law_call_portions" "_law_call_portions" (defArgs s_law_call_portions) (defBody s_law_call_portions) (defScope s_law_call_portions) .none z177 z178 z179 z180 z181 z182), z183⟩)
    (c38 : PySem.W.codeIn K z181 "_law_call_portions" = true)
    (k38 : PySem.W.keepIn K (.ref f38) = true)
    (a39 : PySem.W.nsIn K mainGlobals "_law_units_due" = some (some (.ref f39)))
    (l39 : K.lookup f39 = some ⟨z184, z185, .func (PySem.W.fnOf "_law_units_due" "_law_units_due" (defArgs s_law_units_due) (defBody s_law_units_due) (defScope s_law_units_due) .none z186 z187 z188 z189 z190 z191), z192⟩)
    (c39 : PySem.W.codeIn K z190 "_law_units_due" = true)
    (k39 : PySem.W.keepIn K (.ref f39) = true)
    (om10 : PySem.W.findIn K (.ref f6) "begin" = some (some (.ref f10)))
    (l10 : K.lookup f10 = some ⟨z193, z194, .func (PySem.W.fnOf "begin" "Log.begin" (defArgs s_Log_begin) (defBody s_Log_begin) (defScope s_Log_begin) .none z195 z196 z197 z198 z199 z200), z201⟩)
    (c10 : PySem.W.codeIn K z199 "Log.begin" = true)
    (k10 : PySem.W.keepIn K (.ref f10) = true)
    (om12 : PySem.W.findIn K (.ref f6) "summary_parts" = some (some (.ref f12)))
    (l12 : K.lookup f12 = some ⟨z202, z203, .func (PySem.W.fnOf "summary_parts" "Log.summary_parts" (defArgs s_Log_summary_parts) (defBody s_Log_summary_parts) (defScope s_Log_summary_parts) .none z204 z205 z206 z207 z208 z209), z210⟩)
    (c12 : PySem.W.codeIn K z208 "Log.summary_parts" = true)
    (k12 : PySem.W.keepIn K (.ref f12) = true)
    (om13 : PySem.W.findIn K (.ref f6) "portions" = some (some (.ref f13)))
    (l13 : K.lookup f13 = some ⟨z211, z212, .func (PySem.W.fnOf "portions" "Log.portions" (defArgs s_Log_portions) (defBody s_Log_portions) (defScope s_Log_portions) .none z213 z214 z215 z216 z217 z218), z219⟩)
    (c13 : PySem.W.codeIn K z217 "Log.portions" = true)
    (k13 : PySem.W.keepIn K (.ref f13) = true)
    (om11 : PySem.W.findIn K (.ref f6) "append_unit" = some (some (.ref f11)))
    (l11 : K.lookup f11 = some ⟨z220, z221, .func (PySem.W.fnOf "append_unit" "Log.append_unit" (defArgs s_Log_append_unit) (defBody s_Log_append_unit) (defScope s_Log_append_unit) .none z222 z223 z224 z225 z226 z227), z228⟩)
    (c11 : PySem.W.codeIn K z226 "Log.append_unit" = true)
    (k11 : PySem.W.keepIn K (.ref f11) = true)
    (om14 : PySem.W.findIn K (.ref f6) "wrote" = some (some (.ref f14)))
    (l14 : K.lookup f14 = some ⟨z229, z230, .func (PySem.W.fnOf "wrote" "Log.wrote" (defArgs s_Log_wrote) (defBody s_Log_wrote) (defScope s_Log_wrote) .none z231 z232 z233 z234 z235 z236), z237⟩)
    (c14 : PySem.W.codeIn K z235 "Log.wrote" = true)
    (k14 : PySem.W.keepIn K (.ref f14) = true)
    (om15 : PySem.W.findIn K (.ref f6) "undone" = some (some (.ref f15)))
    (l15 : K.lookup f15 = some ⟨z238, z239, .func (PySem.W.fnOf "undone" "Log.undone" (defArgs s_Log_undone) (defBody s_Log_undone) (defScope s_Log_undone) .none z240 z241 z242 z243 z244 z245), z246⟩)
    (c15 : PySem.W.codeIn K z244 "Log.undone" = true)
    (k15 : PySem.W.keepIn K (.ref f15) = true)
    (om18 : PySem.W.findIn K (.ref f6) "pass_on" = some (some (.ref f18)))
    (l18 : K.lookup f18 = some ⟨z247, z248, .func (PySem.W.fnOf "pass_on" "Log.pass_on" (defArgs s_Log_pass_on) (defBody s_Log_pass_on) (defScope s_Log_pass_on) .none z249 z250 z251 z252 z253 z254), z255⟩)
    (c18 : PySem.W.codeIn K z253 "Log.pass_on" = true)
    (k18 : PySem.W.keepIn K (.ref f18) = true)
    (om16 : PySem.W.findIn K (.ref f6) "end" = some (some (.ref f16)))
    (l16 : K.lookup f16 = some ⟨z256, z257, .func (PySem.W.fnOf "end" "Log.end" (defArgs s_Log_end) (defBody s_Log_end) (defScope s_Log_end) .none z258 z259 z260 z261 z262 z263), z264⟩)
    (c16 : PySem.W.codeIn K z262 "Log.end" = true)
    (k16 : PySem.W.keepIn K (.ref f16) = true)
    (om17 : PySem.W.findIn K (.ref f6) "back" = some (some (.ref f17)))
    (l17 : K.lookup f17 = some ⟨z265, z266, .func (PySem.W.fnOf "back" "Log.back" (defArgs s_Log_back) (defBody s_Log_back) (defScope s_Log_back) .none z267 z268 z269 z270 z271 z272), z273⟩)
    (c17 : PySem.W.codeIn K z271 "Log.back" = true)
    (k17 : PySem.W.keepIn K (.ref f17) = true)
    (a40 : PySem.W.nsIn K mainGlobals "_law_run_calls" = some (some (.ref f40)))
    (l40 : K.lookup f40 = some ⟨z274, z275, .func (PySem.W.fnOf "_law_run_calls" "_law_run_calls" (defArgs s_law_run_calls) (defBody s_law_run_calls) (defScope s_law_run_calls) .none z276 z277 z278 z279 z280 z281), z282⟩)
    (c40 : PySem.W.codeIn K z280 "_law_run_calls" = true)
    (k40 : PySem.W.keepIn K (.ref f40) = true)
    (a32 : PySem.W.nsIn K mainGlobals "_law_alike" = some (some (.ref f32)))
    (l32 : K.lookup f32 = some ⟨z283, z284, .func (PySem.W.fnOf "_law_alike" "_law_alike" (defArgs s_law_alike) (defBody s_law_alike) (defScope s_law_alike) .none z285 z286 z287 z288 z289 z290), z291⟩)
    (c32 : PySem.W.codeIn K z289 "_law_alike" = true)
    (k32 : PySem.W.keepIn K (.ref f32) = true)
    (om8 : PySem.W.findIn K (.ref f6) "__len__" = some (some (.ref f8)))
    (l8 : K.lookup f8 = some ⟨z292, z293, .func (PySem.W.fnOf "__len__" "Log.__len__" (defArgs s_Log___len__) (defBody s_Log___len__) (defScope s_Log___len__) .none z294 z295 z296 z297 z298 z299), z300⟩)
    (c8 : PySem.W.codeIn K z298 "Log.__len__" = true)
    (k8 : PySem.W.keepIn K (.ref f8) = true)
    (om3 : PySem.W.findIn K (.ref f2) "__init__" = some (some (.ref f3)))
    (l3 : K.lookup f3 = some ⟨z301, z302, .func (PySem.W.ksFn "__init__" "UnknownNumber.__init__" (defArgs s_UnknownNumber___init__) (defBody s_UnknownNumber___init__) (defScope s_UnknownNumber___init__) .none z303 z304 z305 z306 (.ref z309) z307 z310), z308⟩)
    (c3 : PySem.W.codeIn K (.ref z309) "UnknownNumber.__init__" = true)
    (oc3 : K.lookup z309 = some ⟨z311, z312, .fields z313, z314⟩)
    (ov3 : z313[2]? = some (.str z315 z316))
    (of_3 : ((l.prog.main.file : Str) == z315) = true)
    (oe3 : K.lookup z310 = some ⟨z317, z318, .cell (some (.ref f2)), z319⟩)
    (om_2 : PySem.W.mroIn K f2 (.ref f2) = some true)
    (osin2 : PySem.W.ks_superIn K f2 f2 "__init__" = some (some (.builtin "ValueError.__init__")))
    (oisv2 : PySem.W.subIn K (.ref f2) (.type "ValueError") = some true)
    (ok_2 : K.lookup f2 = some (excClassObj z320 z321 f2 z322 z323 z324 true z325 z326 z327 z328 z329 z330 z331 z332 z333 z334 "ValueError.__new__"))
    (ob_2 : PySem.HandSPX.refsVE z324 = true)
    (csa2 : PySem.W.findIn K (.ref f2) "__setattr__" = some (some (.builtin "object.__setattr__")))
    (xb2 : PySem.W.subIn K (.ref f2) (.type "BaseException") = some true)
    (xt2 : PySem.W.typeIn K (.ref f2) = some (.type "type"))
    (kp2 : PySem.W.keepIn K (.ref f2) = true)
    (ot2 : PySem.W.typeIn K (.ref f3) = some (.type "function"))
    (ofl2_number : PySem.W.findIn K (.ref f2) "number" = some none)
    (om9 : PySem.W.findIn K (.ref f6) "unit" = some (some (.ref f9)))
    (l9 : K.lookup f9 = some ⟨z335, z336, .func (PySem.W.fnOf "unit" "Log.unit" (defArgs s_Log_unit) (defBody s_Log_unit) (defScope s_Log_unit) .none z337 z338 z339 z340 z341 z342), z343⟩)
    (c9 : PySem.W.codeIn K z341 "Log.unit" = true)
    (k9 : PySem.W.keepIn K (.ref f9) = true)
    (a43 : PySem.W.nsIn K mainGlobals "_law_listed" = some (some (.ref f43)))
    (l43 : K.lookup f43 = some ⟨z344, z345, .func (PySem.W.fnOf "_law_listed" "_law_listed" (defArgs s_law_listed) (defBody s_law_listed) (defScope s_law_listed) .none z346 z347 z348 z349 z350 z351), z352⟩)
    (c43 : PySem.W.codeIn K z350 "_law_listed" = true)
    (k43 : PySem.W.keepIn K (.ref f43) = true)
    (om20 : PySem.W.findIn K (.ref f6) "script_count" = some (some (.ref f20)))
    (l20 : K.lookup f20 = some ⟨z353, z354, .func (PySem.W.fnOf "script_count" "Log.script_count" (defArgs s_Log_script_count) (defBody s_Log_script_count) (defScope s_Log_script_count) .none z355 z356 z357 z358 z359 z360), z361⟩)
    (c20 : PySem.W.codeIn K z359 "Log.script_count" = true)
    (k20 : PySem.W.keepIn K (.ref f20) = true)
    (a44 : PySem.W.nsIn K mainGlobals "law" = some (some (.ref f44)))
    (l44 : K.lookup f44 = some ⟨z362, z363, .func (PySem.W.fnOf "law" "law" (defArgs s_law) (defBody s_law) (defScope s_law) .none z364 z365 z366 z367 z368 z369), z370⟩)
    (c44 : PySem.W.codeIn K z368 "law" = true)
    (k44 : PySem.W.keepIn K (.ref f44) = true)
    (mm6 : PySem.W.makesIn K f6 = true)
    (of7 : PySem.W.isFn K (.ref f7) = true)
    (kp6 : PySem.W.keepIn K (.ref f6) = true)
    (n_range : PySem.W.nsIn K mainGlobals "range" = some none)
    (n_len : PySem.W.nsIn K mainGlobals "len" = some none)
    (of8 : PySem.W.isFn K (.ref f8) = true)
    (sf6 : PySem.W.selfFirst K f6 = true)
    (cpg6 : PySem.W.plainGet K f6 Str.empty = true)
    (chd6 : PySem.W.hasDictIn K f6 = true)
    (cpo6 : PySem.W.plainOver K f6 = true)
    (csa6 : PySem.W.findIn K (.ref f6) "__setattr__" = some (some (.builtin "object.__setattr__")))
    (of20 : PySem.W.isFn K (.ref f20) = true)
    (na6_written : PySem.W.findIn K (.ref f6) "written" = some none)
    (na6_lasts : PySem.W.findIn K (.ref f6) "lasts" = some none)
    (n_isinstance : PySem.W.nsIn K mainGlobals "isinstance" = some none)
    (n_bool : PySem.W.nsIn K mainGlobals "bool" = some none)
    (n_int : PySem.W.nsIn K mainGlobals "int" = some none)
    (n_str : PySem.W.nsIn K mainGlobals "str" = some none)
    (n_tuple : PySem.W.nsIn K mainGlobals "tuple" = some none)
    (n_list : PySem.W.nsIn K mainGlobals "list" = some none)
    (of9 : PySem.W.isFn K (.ref f9) = true)
    (na6_start : PySem.W.findIn K (.ref f6) "start" = some none)
    (na6_units : PySem.W.findIn K (.ref f6) "units" = some none)
    (of10 : PySem.W.isFn K (.ref f10) = true)
    (of14 : PySem.W.isFn K (.ref f14) = true)
    (of15 : PySem.W.isFn K (.ref f15) = true)
    (of16 : PySem.W.isFn K (.ref f16) = true)
    (of17 : PySem.W.isFn K (.ref f17) = true)
    (na6_drafts : PySem.W.findIn K (.ref f6) "drafts" = some none)
    (of18 : PySem.W.isFn K (.ref f18) = true)
    (na6_over : PySem.W.findIn K (.ref f6) "over" = some none)
    (of11 : PySem.W.isFn K (.ref f11) = true)
    (na6_book : PySem.W.findIn K (.ref f6) "book" = some none)
    (cpg22 : PySem.W.plainGet K f22 Str.empty = true)
    (chd22 : PySem.W.hasDictIn K f22 = true)
    (cpo22 : PySem.W.plainOver K f22 = true)
    (csa22 : PySem.W.findIn K (.ref f22) "__setattr__" = some (some (.builtin "object.__setattr__")))
    (na22_when : PySem.W.findIn K (.ref f22) "when" = some none)
    (na22_what : PySem.W.findIn K (.ref f22) "what" = some none)
    (of13 : PySem.W.isFn K (.ref f13) = true)
    (of12 : PySem.W.isFn K (.ref f12) = true)
    (na22_kept : PySem.W.findIn K (.ref f22) "kept" = some none)
    (mm22 : PySem.W.makesIn K f22 = true)
    (of23 : PySem.W.isFn K (.ref f23) = true)
    (kp22 : PySem.W.keepIn K (.ref f22) = true)
    (ctp22 : PySem.W.typeIn K (.ref f22) = some (.type "type"))
    (crd22 : PySem.W.readsIn K f22 (.type "type") = true)
    (cga22 : PySem.W.specialIn K (.ref f22) "__getattribute__" = some (some (.builtin "type.__getattribute__")))
    (cv22_WHEN : PySem.W.findCls K (.ref f22) (.type "type") "WHEN" = some (.val (.ref z371)))
    (ctr22_WHEN : K.lookup z371 = some ⟨.type "tuple", z377, .seq #[.str "end" z372, .str "begin" z373, .str "write" z374] z375, z376⟩)
    (cv22_WHAT : PySem.W.findCls K (.ref f22) (.type "type") "WHAT" = some (.val (.ref z378)))
    (ctr22_WHAT : K.lookup z378 = some ⟨.type "tuple", z383, .seq #[.str "image" z379, .str "statement" z380] z381, z382⟩)
    (cv22_KEPT : PySem.W.findCls K (.ref f22) (.type "type") "KEPT" = some (.val (.ref z384)))
    (ctr22_KEPT : K.lookup z384 = some ⟨.type "tuple", z389, .seq #[.str "own" z385, .str "logged" z386] z387, z388⟩)
    (cv22_CONFIRM : PySem.W.findCls K (.ref f22) (.type "type") "CONFIRM" = some (.val (.ref z390)))
    (ctr22_CONFIRM : K.lookup z390 = some ⟨.type "tuple", z396, .seq #[.str "with" z391, .str "behind" z392, .str "ahead" z393] z394, z395⟩)
    (cv22_CUT : PySem.W.findCls K (.ref f22) (.type "type") "CUT" = some (.val (.ref z397)))
    (ctr22_CUT : K.lookup z397 = some ⟨.type "tuple", z403, .seq #[.str "never" z398, .str "least" z399, .str "greatest" z400] z401, z402⟩)
    (na22_confirm : PySem.W.findIn K (.ref f22) "confirm" = some none)
    (na22_cut : PySem.W.findIn K (.ref f22) "cut" = some none)
    (n_abs : PySem.W.nsIn K mainGlobals "abs" = some none)
    : ∃ fd : FuncData, (∀ (s : Shared) (v : Value), BindsTo s fd ⟨[v], []⟩ [("_law_script", v)]) ∧ ∀ base : Heap, K.In base → base.Ns mainGlobals mg → ∃ ad : Nat → Addr, FnOk l.prog w K mg base (L2N.CX l.prog w) 18 fa fd ["_law_script"] (spD ⟨K, ad⟩ 1 m_law) := by
  have efa : fa = f44 := Value.ref.inj (Option.some.inj (hfa.symm.trans (PySem.W.mg_of X G a44)))
  have F28 := fun_mk (st := s_law_draw) l28 c28 k28
  have b28 := F28.binds (ps := ["_law_box_here", "_law_size"]) fun _ _ _ _ _ _ us hl => match us, hl with | [_, _], _ => rfl
  have F30 := fun_mk (st := s_law_names) l30 c30 k30
  have b30 := F30.binds (ps := ["_law_box_here", "_law_many"]) fun _ _ _ _ _ _ us hl => match us, hl with | [_, _], _ => rfl
  have F27 := fun_mk (st := s_law_box) l27 c27 k27
  have b27 := F27.binds (ps := ["_law_script"]) fun _ _ _ _ _ _ us hl => match us, hl with | [_], _ => rfl
  have F29 := fun_mk (st := s_law_pick) l29 c29 k29
  have b29 := F29.binds (ps := ["_law_box_here", "_law_menu"]) fun _ _ _ _ _ _ us hl => match us, hl with | [_, _], _ => rfl
  have F33 := fun_mk (st := s_law_log_words) l33 c33 k33
  have b33 := F33.binds (ps := ["_law_box_here"]) fun _ _ _ _ _ _ us hl => match us, hl with | [_], _ => rfl
  have F31 := fun_mk (st := s_law_row) l31 c31 k31
  have b31 := F31.binds (ps := ["_law_box_here"]) fun _ _ _ _ _ _ us hl => match us, hl with | [_], _ => rfl
  have F36 := fun_mk (st := s_law_changes) l36 c36 k36
  have b36 := F36.binds (ps := ["_law_box_here", "_law_table", "_law_many"]) fun _ _ _ _ _ _ us hl => match us, hl with | [_, _, _], _ => rfl
  have F35 := fun_mk (st := s_law_flat) l35 c35 k35
  have b35 := F35.binds (ps := ["_law_box_here"]) fun _ _ _ _ _ _ us hl => match us, hl with | [_], _ => rfl
  have F41 := fun_mk (st := s_law_written) l41 c41 k41
  have b41 := F41.binds (ps := ["_law_box_here", "_law_table", "_law_number"]) fun _ _ _ _ _ _ us hl => match us, hl with | [_, _, _], _ => rfl
  have F42 := fun_mk (st := s_law_in_turn) l42 c42 k42
  have b42 := F42.binds (ps := ["_law_box_here", "_law_table", "_law_many"]) fun _ _ _ _ _ _ us hl => match us, hl with | [_, _, _], _ => rfl
  have F7 := fun_mk (st := s_Log___init__) l7 c7 k7
  have b7 := F7.binds (ps := ["self", "book"]) fun _ _ _ _ _ _ us hl => match us, hl with | [_, _], _ => rfl
  have b5 : Binds K (PySem.W.ksFn "__init__" "InvalidBook.__init__" (defArgs s_InvalidBook___init__) (defBody s_InvalidBook___init__) (defScope s_InvalidBook___init__) .none z102 z103 z104 z105 (.ref z108) z106 z109) ["self", "part"] [] := Binds.all fun us hl => match us, hl with | [_, _], _ => rfl
  have F21 := fun_mk (st := s_check_word) l21 c21 k21
  have vb21 : ∀ us rest : List Value, us.length = 2 → bindArgs (PySem.W.fnOf "check_word" "check_word" (defArgs s_check_word) (defBody s_check_word) (defScope s_check_word) .none z136 z137 z138 z139 z140 z141) ⟨us ++ rest, []⟩ = (newTuple rest >>= fun t => pure ((["part", "word"] : List Str).zip us ++ [(("words" : Str), t)])) := fun us rest hl => StX.bind_star2 (B := fun l => bindArgs (PySem.W.fnOf "check_word" "check_word" (defArgs s_check_word) (defBody s_check_word) (defScope s_check_word) .none z136 z137 z138 z139 z140 z141) ⟨l, []⟩) (p1 := "part") (p2 := "word") (pv := "words") (fun _ _ => rfl) (fun _ _ _ _ => rfl) us rest hl
  have F23 : FunD K "__init__" "LogBook.__init__" (defArgs s_LogBook___init__) (defBody s_LogBook___init__) (defScope s_LogBook___init__) [] [("when", (.str "end" : V)), ("what", (.str "image" : V)), ("kept", (.str "own" : V)), ("confirm", (.str "with" : V)), ("cut", (.str "never" : V))] f23 (PySem.W.fnOf "__init__" "LogBook.__init__" (defArgs s_LogBook___init__) (defBody s_LogBook___init__) (defScope s_LogBook___init__) .none (.ref z145) z146 z147 z148 z149 z150) := ⟨⟨_, _, _, _, _, _, _, _, _, _, rfl, l23, c23, .inl ⟨rfl, rfl⟩, .inr ⟨_, rfl, fun q hq => by
      simp only [List.mem_cons, List.not_mem_nil, or_false] at hq
      rcases hq with rfl | rfl | rfl | rfl | rfl
      · exact ⟨_, w23_0, ⟨_, rfl⟩⟩
      · exact ⟨_, w23_1, ⟨_, rfl⟩⟩
      · exact ⟨_, w23_2, ⟨_, rfl⟩⟩
      · exact ⟨_, w23_3, ⟨_, rfl⟩⟩
      · exact ⟨_, w23_4, ⟨_, rfl⟩⟩
    ⟩⟩, k23⟩
  have F34 := fun_mk (st := s_law_log_book) l34 c34 k34
  have b34 := F34.binds (ps := ["_law_words"]) fun _ _ _ _ _ _ us hl => match us, hl with | [_], _ => rfl
  have F37 := fun_mk (st := s_law_portions) l37 c37 k37
  have b37 := F37.binds (ps := ["_law_what", "_law_kept", "_law_statement", "_law_changes_here"]) fun _ _ _ _ _ _ us hl => match us, hl with | [_, _, _, _], _ => rfl
  have F38 := fun_mk (st := s_law_call_portions) l38 c38 k38
  have b38 := F38.binds (ps := ["_law_when", "_law_what", "_law_kept", "_law_call"]) fun _ _ _ _ _ _ us hl => match us, hl with | [_, _, _, _], _ => rfl
  have F39 := fun_mk (st := s_law_units_due) l39 c39 k39
  have b39 := F39.binds (ps := ["_law_when", "_law_what", "_law_kept", "_law_calls"]) fun _ _ _ _ _ _ us hl => match us, hl with | [_, _, _, _], _ => rfl
  have F10 := fun_mk (st := s_Log_begin) l10 c10 k10
  have b10 := F10.binds (ps := ["self", "script"]) fun _ _ _ _ _ _ us hl => match us, hl with | [_, _], _ => rfl
  have F12 := fun_mk (st := s_Log_summary_parts) l12 c12 k12
  have b12 := F12.binds (ps := ["self", "differences"]) fun _ _ _ _ _ _ us hl => match us, hl with | [_, _], _ => rfl
  have F13 := fun_mk (st := s_Log_portions) l13 c13 k13
  have b13 := F13.binds (ps := ["self", "statement", "changes"]) fun _ _ _ _ _ _ us hl => match us, hl with | [_, _, _], _ => rfl
  have F11 := fun_mk (st := s_Log_append_unit) l11 c11 k11
  have b11 := F11.binds (ps := ["self", "script", "parts"]) fun _ _ _ _ _ _ us hl => match us, hl with | [_, _, _], _ => rfl
  have F14 := fun_mk (st := s_Log_wrote) l14 c14 k14
  have b14 := F14.binds (ps := ["self", "script", "statement", "changes"]) fun _ _ _ _ _ _ us hl => match us, hl with | [_, _, _, _], _ => rfl
  have F15 := fun_mk (st := s_Log_undone) l15 c15 k15
  have b15 := F15.binds (ps := ["self", "script", "changes"]) fun _ _ _ _ _ _ us hl => match us, hl with | [_, _, _], _ => rfl
  have F18 := fun_mk (st := s_Log_pass_on) l18 c18 k18
  have b18 := F18.binds (ps := ["self", "script"]) fun _ _ _ _ _ _ us hl => match us, hl with | [_, _], _ => rfl
  have F16 := fun_mk (st := s_Log_end) l16 c16 k16
  have b16 := F16.binds (ps := ["self", "script"]) fun _ _ _ _ _ _ us hl => match us, hl with | [_, _], _ => rfl
  have F17 := fun_mk (st := s_Log_back) l17 c17 k17
  have b17 := F17.binds (ps := ["self", "script"]) fun _ _ _ _ _ _ us hl => match us, hl with | [_, _], _ => rfl
  have F40 := fun_mk (st := s_law_run_calls) l40 c40 k40
  have b40 := F40.binds (ps := ["_law_log", "_law_calls"]) fun _ _ _ _ _ _ us hl => match us, hl with | [_, _], _ => rfl
  have F32 := fun_mk (st := s_law_alike) l32 c32 k32
  have b32 := F32.binds (ps := ["_law_actual", "_law_due"]) fun _ _ _ _ _ _ us hl => match us, hl with | [_, _], _ => rfl
  have F8 := fun_mk (st := s_Log___len__) l8 c8 k8
  have b8 := F8.binds (ps := ["self"]) fun _ _ _ _ _ _ us hl => match us, hl with | [_], _ => rfl
  have b3 : Binds K (PySem.W.ksFn "__init__" "UnknownNumber.__init__" (defArgs s_UnknownNumber___init__) (defBody s_UnknownNumber___init__) (defScope s_UnknownNumber___init__) .none z303 z304 z305 z306 (.ref z309) z307 z310) ["self", "number"] [] := Binds.all fun us hl => match us, hl with | [_, _], _ => rfl
  have F9 := fun_mk (st := s_Log_unit) l9 c9 k9
  have b9 := F9.binds (ps := ["self", "at"]) fun _ _ _ _ _ _ us hl => match us, hl with | [_, _], _ => rfl
  have F43 := fun_mk (st := s_law_listed) l43 c43 k43
  have b43 := F43.binds (ps := ["_law_log"]) fun _ _ _ _ _ _ us hl => match us, hl with | [_], _ => rfl
  have F20 := fun_mk (st := s_Log_script_count) l20 c20 k20
  have b20 := F20.binds (ps := ["self", "applied"]) fun _ _ _ _ _ _ us hl => match us, hl with | [_, _], _ => rfl
  have F44 := fun_mk (st := s_law) l44 c44 k44
  have b44 := F44.binds (ps := ["_law_script"]) fun _ _ _ _ _ _ us hl => match us, hl with | [_], _ => rfl
  have kb_LogBook___init___1_when_what_kept_confirm_cut := kbn0 F23 (ps := ["self", "when", "what", "kept", "confirm", "cut"]) 1 ["when", "what", "kept", "confirm", "cut"] [] (fun us mv ws => pick [0, 1, 2, 3, 4, 5] (us ++ mv ++ ws)) (by intro h; cases h) (by decide) (fun r1 r2 r3 => pick_vals ((r1.append r2).append r3) _) (fun D doc pm an cdv ct us mv ws h1 h2 h3 => match us, mv, ws, h1, h2, h3 with | [_], [], [_, _, _, _, _], _, _, _ => rfl)
  obtain ⟨ad, had⟩ : ∃ ad : Nat → Addr, ad = fun n => ([0, 0, f2, f3, f4, f5, f6, f7, f8, f9, f10, f11, f12, f13, f14, f15, f16, f17, f18, 0, f20, f21, f22, f23, 0, 0, 0, f27, f28, f29, f30, f31, f32, f33, f34, f35, f36, f37, f38, f39, f40, f41, f42, f43, f44] : List Addr).getD n 0 := ⟨_, rfl⟩
  obtain ⟨fd, hfd⟩ : ∃ fd : Nat → FuncData, fd = fun n => match n with
    | 3 => PySem.W.ksFn "__init__" "UnknownNumber.__init__" (defArgs s_UnknownNumber___init__) (defBody s_UnknownNumber___init__) (defScope s_UnknownNumber___init__) .none z303 z304 z305 z306 (.ref z309) z307 z310
    | 5 => PySem.W.ksFn "__init__" "InvalidBook.__init__" (defArgs s_InvalidBook___init__) (defBody s_InvalidBook___init__) (defScope s_InvalidBook___init__) .none z102 z103 z104 z105 (.ref z108) z106 z109
    | 7 => PySem.W.fnOf "__init__" "Log.__init__" (defArgs s_Log___init__) (defBody s_Log___init__) (defScope s_Log___init__) .none z93 z94 z95 z96 z97 z98
    | 8 => PySem.W.fnOf "__len__" "Log.__len__" (defArgs s_Log___len__) (defBody s_Log___len__) (defScope s_Log___len__) .none z294 z295 z296 z297 z298 z299
    | 9 => PySem.W.fnOf "unit" "Log.unit" (defArgs s_Log_unit) (defBody s_Log_unit) (defScope s_Log_unit) .none z337 z338 z339 z340 z341 z342
    | 10 => PySem.W.fnOf "begin" "Log.begin" (defArgs s_Log_begin) (defBody s_Log_begin) (defScope s_Log_begin) .none z195 z196 z197 z198 z199 z200
    | 11 => PySem.W.fnOf "append_unit" "Log.append_unit" (defArgs s_Log_append_unit) (defBody s_Log_append_unit) (defScope s_Log_append_unit) .none z222 z223 z224 z225 z226 z227
    | 12 => PySem.W.fnOf "summary_parts" "Log.summary_parts" (defArgs s_Log_summary_parts) (defBody s_Log_summary_parts) (defScope s_Log_summary_parts) .none z204 z205 z206 z207 z208 z209
    | 13 => PySem.W.fnOf "portions" "Log.portions" (defArgs s_Log_portions) (defBody s_Log_portions) (defScope s_Log_portions) .none z213 z214 z215 z216 z217 z218
    | 14 => PySem.W.fnOf "wrote" "Log.wrote" (defArgs s_Log_wrote) (defBody s_Log_wrote) (defScope s_Log_wrote) .none z231 z232 z233 z234 z235 z236
    | 15 => PySem.W.fnOf "undone" "Log.undone" (defArgs s_Log_undone) (defBody s_Log_undone) (defScope s_Log_undone) .none z240 z241 z242 z243 z244 z245
    | 16 => PySem.W.fnOf "end" "Log.end" (defArgs s_Log_end) (defBody s_Log_end) (defScope s_Log_end) .none z258 z259 z260 z261 z262 z263
    | 17 => PySem.W.fnOf "back" "Log.back" (defArgs s_Log_back) (defBody s_Log_back) (defScope s_Log_back) .none z267 z268 z269 z270 z271 z272
    | 18 => PySem.W.fnOf "pass_on" "Log.pass_on" (defArgs s_Log_pass_on) (defBody s_Log_pass_on) (defScope s_Log_pass_on) .none z249 z250 z251 z252 z253 z254
    | 20 => PySem.W.fnOf "script_count" "Log.script_count" (defArgs s_Log_script_count) (defBody s_Log_script_count) (defScope s_Log_script_count) .none z355 z356 z357 z358 z359 z360
    | 21 => PySem.W.fnOf "check_word" "check_word" (defArgs s_check_word) (defBody s_check_word) (defScope s_check_word) .none z136 z137 z138 z139 z140 z141
    | 23 => PySem.W.fnOf "__init__" "LogBook.__init__" (defArgs s_LogBook___init__) (defBody s_LogBook___init__) (defScope s_LogBook___init__) .none (.ref z145) z146 z147 z148 z149 z150
    | 27 => PySem.W.fnOf "_law_box" "_law_box" (defArgs s_law_box) (defBody s_law_box) (defScope s_law_box) .none z21 z22 z23 z24 z25 z26
    | 28 => PySem.W.fnOf "_law_draw" "_law_draw" (defArgs s_law_draw) (defBody s_law_draw) (defScope s_law_draw) .none z3 z4 z5 z6 z7 z8
    | 29 => PySem.W.fnOf "_law_pick" "_law_pick" (defArgs s_law_pick) (defBody s_law_pick) (defScope s_law_pick) .none z30 z31 z32 z33 z34 z35
    | 30 => PySem.W.fnOf "_law_names" "_law_names" (defArgs s_law_names) (defBody s_law_names) (defScope s_law_names) .none z12 z13 z14 z15 z16 z17
    | 31 => PySem.W.fnOf "_law_row" "_law_row" (defArgs s_law_row) (defBody s_law_row) (defScope s_law_row) .none z48 z49 z50 z51 z52 z53
    | 32 => PySem.W.fnOf "_law_alike" "_law_alike" (defArgs s_law_alike) (defBody s_law_alike) (defScope s_law_alike) .none z285 z286 z287 z288 z289 z290
    | 33 => PySem.W.fnOf "_law_log_words" "_law_log_words" (defArgs s_law_log_words) (defBody s_law_log_words) (defScope s_law_log_words) .none z39 z40 z41 z42 z43 z44
    | 34 => PySem.W.fnOf "_law_log_book" "_law_log_book" (defArgs s_law_log_book) (defBody s_law_log_book) (defScope s_law_log_book) .none z159 z160 z161 z162 z163 z164
    | 35 => PySem.W.fnOf "_law_flat" "_law_flat" (defArgs s_law_flat) (defBody s_law_flat) (defScope s_law_flat) .none z66 z67 z68 z69 z70 z71
    | 36 => PySem.W.fnOf "_law_changes" "_law_changes" (defArgs s_law_changes) (defBody s_law_changes) (defScope s_law_changes) .none z57 z58 z59 z60 z61 z62
    | 37 => PySem.W.fnOf "_law_portions" "_law_portions" (defArgs s_law_portions) (defBody s_law_portions) (defScope s_law_portions) .none z168 z169 z170 z171 z172 z173
    | 38 => PySem.W.fnOf "_law_call_portions" "_law_call_portions" (defArgs s_law_call_portions) (defBody s_law_call_portions) (defScope s_law_call_portions) .none z177 z178 z179 z180 z181 z182
    | 39 => PySem.W.fnOf "_law_units_due" "_law_units_due" (defArgs s_law_units_due) (defBody s_law_units_due) (defScope s_law_units_due) .none z186 z187 z188 z189 z190 z191
    | 40 => PySem.W.fnOf "_law_run_calls" "_law_run_calls" (defArgs s_law_run_calls) (defBody s_law_run_calls) (defScope s_law_run_calls) .none z276 z277 z278 z279 z280 z281
    | 41 => PySem.W.fnOf "_law_written" "_law_written" (defArgs s_law_written) (defBody s_law_written) (defScope s_law_written) .none z75 z76 z77 z78 z79 z80
    | 42 => PySem.W.fnOf "_law_in_turn" "_law_in_turn" (defArgs s_law_in_turn) (defBody s_law_in_turn) (defScope s_law_in_turn) .none z84 z85 z86 z87 z88 z89
    | 43 => PySem.W.fnOf "_law_listed" "_law_listed" (defArgs s_law_listed) (defBody s_law_listed) (defScope s_law_listed) .none z346 z347 z348 z349 z350 z351
    | 44 => PySem.W.fnOf "law" "law" (defArgs s_law) (defBody s_law) (defScope s_law) .none z364 z365 z366 z367 z368 z369
    | _ => PySem.W.fnOf "law" "law" (defArgs s_law) (defBody s_law) (defScope s_law) .none z364 z365 z366 z367 z368 z369 := ⟨_, rfl⟩
  have ea2x : ad 2 = f2 := by rw [had]; rfl
  have ea3x : ad 3 = f3 := by rw [had]; rfl
  have ea4x : ad 4 = f4 := by rw [had]; rfl
  have ea5x : ad 5 = f5 := by rw [had]; rfl
  have ea6x : ad 6 = f6 := by rw [had]; rfl
  have ea7x : ad 7 = f7 := by rw [had]; rfl
  have ea8x : ad 8 = f8 := by rw [had]; rfl
  have ea9x : ad 9 = f9 := by rw [had]; rfl
  have ea10x : ad 10 = f10 := by rw [had]; rfl
  have ea11x : ad 11 = f11 := by rw [had]; rfl
  have ea12x : ad 12 = f12 := by rw [had]; rfl
  have ea13x : ad 13 = f13 := by rw [had]; rfl
  have ea14x : ad 14 = f14 := by rw [had]; rfl
  have ea15x : ad 15 = f15 := by rw [had]; rfl
  have ea16x : ad 16 = f16 := by rw [had]; rfl
  have ea17x : ad 17 = f17 := by rw [had]; rfl
  have ea18x : ad 18 = f18 := by rw [had]; rfl
  have ea20x : ad 20 = f20 := by rw [had]; rfl
  have ea21x : ad 21 = f21 := by rw [had]; rfl
  have ea22x : ad 22 = f22 := by rw [had]; rfl
  have ea23x : ad 23 = f23 := by rw [had]; rfl
  have ea27x : ad 27 = f27 := by rw [had]; rfl
  have ea28x : ad 28 = f28 := by rw [had]; rfl
  have ea29x : ad 29 = f29 := by rw [had]; rfl
  have ea30x : ad 30 = f30 := by rw [had]; rfl
  have ea31x : ad 31 = f31 := by rw [had]; rfl
  have ea32x : ad 32 = f32 := by rw [had]; rfl
  have ea33x : ad 33 = f33 := by rw [had]; rfl
  have ea34x : ad 34 = f34 := by rw [had]; rfl
  have ea35x : ad 35 = f35 := by rw [had]; rfl
  have ea36x : ad 36 = f36 := by rw [had]; rfl
  have ea37x : ad 37 = f37 := by rw [had]; rfl
  have ea38x : ad 38 = f38 := by rw [had]; rfl
  have ea39x : ad 39 = f39 := by rw [had]; rfl
  have ea40x : ad 40 = f40 := by rw [had]; rfl
  have ea41x : ad 41 = f41 := by rw [had]; rfl
  have ea42x : ad 42 = f42 := by rw [had]; rfl
  have ea43x : ad 43 = f43 := by rw [had]; rfl
  have ea44x : ad 44 = f44 := by rw [had]; rfl
  have ef3x : fd 3 = PySem.W.ksFn "__init__" "UnknownNumber.__init__" (defArgs s_UnknownNumber___init__) (defBody s_UnknownNumber___init__) (defScope s_UnknownNumber___init__) .none z303 z304 z305 z306 (.ref z309) z307 z310 := by rw [hfd]; rfl
  have ef5x : fd 5 = PySem.W.ksFn "__init__" "InvalidBook.__init__" (defArgs s_InvalidBook___init__) (defBody s_InvalidBook___init__) (defScope s_InvalidBook___init__) .none z102 z103 z104 z105 (.ref z108) z106 z109 := by rw [hfd]; rfl
  have ef7x : fd 7 = PySem.W.fnOf "__init__" "Log.__init__" (defArgs s_Log___init__) (defBody s_Log___init__) (defScope s_Log___init__) .none z93 z94 z95 z96 z97 z98 := by rw [hfd]; rfl
  have ef8x : fd 8 = PySem.W.fnOf "__len__" "Log.__len__" (defArgs s_Log___len__) (defBody s_Log___len__) (defScope s_Log___len__) .none z294 z295 z296 z297 z298 z299 := by rw [hfd]; rfl
  have ef9x : fd 9 = PySem.W.fnOf "unit" "Log.unit" (defArgs s_Log_unit) (defBody s_Log_unit) (defScope s_Log_unit) .none z337 z338 z339 z340 z341 z342 := by rw [hfd]; rfl
  have ef10x : fd 10 = PySem.W.fnOf "begin" "Log.begin" (defArgs s_Log_begin) (defBody s_Log_begin) (defScope s_Log_begin) .none z195 z196 z197 z198 z199 z200 := by rw [hfd]; rfl
  have ef11x : fd 11 = PySem.W.fnOf "append_unit" "Log.append_unit" (defArgs s_Log_append_unit) (defBody s_Log_append_unit) (defScope s_Log_append_unit) .none z222 z223 z224 z225 z226 z227 := by rw [hfd]; rfl
  have ef12x : fd 12 = PySem.W.fnOf "summary_parts" "Log.summary_parts" (defArgs s_Log_summary_parts) (defBody s_Log_summary_parts) (defScope s_Log_summary_parts) .none z204 z205 z206 z207 z208 z209 := by rw [hfd]; rfl
  have ef13x : fd 13 = PySem.W.fnOf "portions" "Log.portions" (defArgs s_Log_portions) (defBody s_Log_portions) (defScope s_Log_portions) .none z213 z214 z215 z216 z217 z218 := by rw [hfd]; rfl
  have ef14x : fd 14 = PySem.W.fnOf "wrote" "Log.wrote" (defArgs s_Log_wrote) (defBody s_Log_wrote) (defScope s_Log_wrote) .none z231 z232 z233 z234 z235 z236 := by rw [hfd]; rfl
  have ef15x : fd 15 = PySem.W.fnOf "undone" "Log.undone" (defArgs s_Log_undone) (defBody s_Log_undone) (defScope s_Log_undone) .none z240 z241 z242 z243 z244 z245 := by rw [hfd]; rfl
  have ef16x : fd 16 = PySem.W.fnOf "end" "Log.end" (defArgs s_Log_end) (defBody s_Log_end) (defScope s_Log_end) .none z258 z259 z260 z261 z262 z263 := by rw [hfd]; rfl
  have ef17x : fd 17 = PySem.W.fnOf "back" "Log.back" (defArgs s_Log_back) (defBody s_Log_back) (defScope s_Log_back) .none z267 z268 z269 z270 z271 z272 := by rw [hfd]; rfl
  have ef18x : fd 18 = PySem.W.fnOf "pass_on" "Log.pass_on" (defArgs s_Log_pass_on) (defBody s_Log_pass_on) (defScope s_Log_pass_on) .none z249 z250 z251 z252 z253 z254 := by rw [hfd]; rfl
  have ef20x : fd 20 = PySem.W.fnOf "script_count" "Log.script_count" (defArgs s_Log_script_count) (defBody s_Log_script_count) (defScope s_Log_script_count) .none z355 z356 z357 z358 z359 z360 := by rw [hfd]; rfl
  have ef21x : fd 21 = PySem.W.fnOf "check_word" "check_word" (defArgs s_check_word) (defBody s_check_word) (defScope s_check_word) .none z136 z137 z138 z139 z140 z141 := by rw [hfd]; rfl
  have ef23x : fd 23 = PySem.W.fnOf "__init__" "LogBook.__init__" (defArgs s_LogBook___init__) (defBody s_LogBook___init__) (defScope s_LogBook___init__) .none (.ref z145) z146 z147 z148 z149 z150 := by rw [hfd]; rfl
  have ef27x : fd 27 = PySem.W.fnOf "_law_box" "_law_box" (defArgs s_law_box) (defBody s_law_box) (defScope s_law_box) .none z21 z22 z23 z24 z25 z26 := by rw [hfd]; rfl
  have ef28x : fd 28 = PySem.W.fnOf "_law_draw" "_law_draw" (defArgs s_law_draw) (defBody s_law_draw) (defScope s_law_draw) .none z3 z4 z5 z6 z7 z8 := by rw [hfd]; rfl
  have ef29x : fd 29 = PySem.W.fnOf "_law_pick" "_law_pick" (defArgs s_law_pick) (defBody s_law_pick) (defScope s_law_pick) .none z30 z31 z32 z33 z34 z35 := by rw [hfd]; rfl
  have ef30x : fd 30 = PySem.W.fnOf "_law_names" "_law_names" (defArgs s_law_names) (defBody s_law_names) (defScope s_law_names) .none z12 z13 z14 z15 z16 z17 := by rw [hfd]; rfl
  have ef31x : fd 31 = PySem.W.fnOf "_law_row" "_law_row" (defArgs s_law_row) (defBody s_law_row) (defScope s_law_row) .none z48 z49 z50 z51 z52 z53 := by rw [hfd]; rfl
  have ef32x : fd 32 = PySem.W.fnOf "_law_alike" "_law_alike" (defArgs s_law_alike) (defBody s_law_alike) (defScope s_law_alike) .none z285 z286 z287 z288 z289 z290 := by rw [hfd]; rfl
  have ef33x : fd 33 = PySem.W.fnOf "_law_log_words" "_law_log_words" (defArgs s_law_log_words) (defBody s_law_log_words) (defScope s_law_log_words) .none z39 z40 z41 z42 z43 z44 := by rw [hfd]; rfl
  have ef34x : fd 34 = PySem.W.fnOf "_law_log_book" "_law_log_book" (defArgs s_law_log_book) (defBody s_law_log_book) (defScope s_law_log_book) .none z159 z160 z161 z162 z163 z164 := by rw [hfd]; rfl
  have ef35x : fd 35 = PySem.W.fnOf "_law_flat" "_law_flat" (defArgs s_law_flat) (defBody s_law_flat) (defScope s_law_flat) .none z66 z67 z68 z69 z70 z71 := by rw [hfd]; rfl
  have ef36x : fd 36 = PySem.W.fnOf "_law_changes" "_law_changes" (defArgs s_law_changes) (defBody s_law_changes) (defScope s_law_changes) .none z57 z58 z59 z60 z61 z62 := by rw [hfd]; rfl
  have ef37x : fd 37 = PySem.W.fnOf "_law_portions" "_law_portions" (defArgs s_law_portions) (defBody s_law_portions) (defScope s_law_portions) .none z168 z169 z170 z171 z172 z173 := by rw [hfd]; rfl
  have ef38x : fd 38 = PySem.W.fnOf "_law_call_portions" "_law_call_portions" (defArgs s_law_call_portions) (defBody s_law_call_portions) (defScope s_law_call_portions) .none z177 z178 z179 z180 z181 z182 := by rw [hfd]; rfl
  have ef39x : fd 39 = PySem.W.fnOf "_law_units_due" "_law_units_due" (defArgs s_law_units_due) (defBody s_law_units_due) (defScope s_law_units_due) .none z186 z187 z188 z189 z190 z191 := by rw [hfd]; rfl
  have ef40x : fd 40 = PySem.W.fnOf "_law_run_calls" "_law_run_calls" (defArgs s_law_run_calls) (defBody s_law_run_calls) (defScope s_law_run_calls) .none z276 z277 z278 z279 z280 z281 := by rw [hfd]; rfl
  have ef41x : fd 41 = PySem.W.fnOf "_law_written" "_law_written" (defArgs s_law_written) (defBody s_law_written) (defScope s_law_written) .none z75 z76 z77 z78 z79 z80 := by rw [hfd]; rfl
  have ef42x : fd 42 = PySem.W.fnOf "_law_in_turn" "_law_in_turn" (defArgs s_law_in_turn) (defBody s_law_in_turn) (defScope s_law_in_turn) .none z84 z85 z86 z87 z88 z89 := by rw [hfd]; rfl
  have ef43x : fd 43 = PySem.W.fnOf "_law_listed" "_law_listed" (defArgs s_law_listed) (defBody s_law_listed) (defScope s_law_listed) .none z346 z347 z348 z349 z350 z351 := by rw [hfd]; rfl
  have ef44x : fd 44 = PySem.W.fnOf "law" "law" (defArgs s_law) (defBody s_law) (defScope s_law) .none z364 z365 z366 z367 z368 z369 := by rw [hfd]; rfl
  have T : Txt l.prog w K mg ad fd := by
    constructor
    · rw [ea30x]; exact PySem.W.mg_of X G a30
    · rw [ea27x]; exact PySem.W.mg_of X G a27
    · rw [ea33x]; exact PySem.W.mg_of X G a33
    · rw [ea42x]; exact PySem.W.mg_of X G a42
    · rw [ea28x]; exact PySem.W.mg_of X G a28
    · rw [ea6x]; exact PySem.W.mg_of X G a6
    · rw [ea34x]; exact PySem.W.mg_of X G a34
    · rw [ea39x]; exact PySem.W.mg_of X G a39
    · rw [ea40x]; exact PySem.W.mg_of X G a40
    · rw [ea32x]; exact PySem.W.mg_of X G a32
    · rw [ea43x]; exact PySem.W.mg_of X G a43
    · rw [ea2x]; exact PySem.W.mg_of X G a2
    · rw [ea38x]; exact PySem.W.mg_of X G a38
    · rw [ea37x]; exact PySem.W.mg_of X G a37
    · rw [ea22x]; exact PySem.W.mg_of X G a22
    · rw [ea21x]; exact PySem.W.mg_of X G a21
    · rw [ea4x]; exact PySem.W.mg_of X G a4
    · rw [ea41x]; exact PySem.W.mg_of X G a41
    · rw [ea29x]; exact PySem.W.mg_of X G a29
    · rw [ea36x]; exact PySem.W.mg_of X G a36
    · rw [ea35x]; exact PySem.W.mg_of X G a35
    · rw [ea31x]; exact PySem.W.mg_of X G a31
    · rw [ea28x, ef28x]; exact F28
    · rw [ef28x]; exact b28
    · rw [ea30x, ef30x]; exact F30
    · rw [ef30x]; exact b30
    · rw [ea27x, ef27x]; exact F27
    · rw [ef27x]; exact b27
    · rw [ea29x, ef29x]; exact F29
    · rw [ef29x]; exact b29
    · rw [ea33x, ef33x]; exact F33
    · rw [ef33x]; exact b33
    · rw [ea31x, ef31x]; exact F31
    · rw [ef31x]; exact b31
    · rw [ea36x, ef36x]; exact F36
    · rw [ef36x]; exact b36
    · rw [ea35x, ef35x]; exact F35
    · rw [ef35x]; exact b35
    · rw [ea41x, ef41x]; exact F41
    · rw [ef41x]; exact b41
    · rw [ea42x, ef42x]; exact F42
    · rw [ef42x]; exact b42
    · rw [ea7x, ef7x]; exact F7
    · rw [ef7x]; exact b7
    · rw [ea4x, ea5x, ef5x]; exact ⟨⟨z109, z108, _, _, _, _, _, _, _, _, rfl, l5, c5, ⟨⟨_, _, _, l5⟩, ⟨_, rfl, rfl⟩, ⟨_, _, _, _, _, _, oc5, ov5, of_5⟩, ⟨_, _, _, oe5⟩, om_4, PySem.W.mg_none_of X G n_super, othird, osin4, oisv4, otop⟩⟩⟩
    · rw [ef5x]; exact b5
    · rw [ea4x]; exact ⟨⟨_, _, _, _, _, _, _, _, _, _, _, _, _, _, _, ok_4, ob_4⟩, csa4, xb4, xt4, kp4⟩
    · rw [ea4x, ea5x]; exact om5
    · rw [ea5x]; exact ot4
    · rw [ea4x]; exact ofl4_part
    · rw [ea21x, ef21x]; exact F21
    · rw [ef21x]; exact vb21
    · rw [ea23x, ef23x]; exact F23
    · rw [ea34x, ef34x]; exact F34
    · rw [ef34x]; exact b34
    · rw [ea37x, ef37x]; exact F37
    · rw [ef37x]; exact b37
    · rw [ea38x, ef38x]; exact F38
    · rw [ef38x]; exact b38
    · rw [ea39x, ef39x]; exact F39
    · rw [ef39x]; exact b39
    · rw [ea10x, ef10x]; exact F10
    · rw [ef10x]; exact b10
    · rw [ea12x, ef12x]; exact F12
    · rw [ef12x]; exact b12
    · rw [ea13x, ef13x]; exact F13
    · rw [ef13x]; exact b13
    · rw [ea11x, ef11x]; exact F11
    · rw [ef11x]; exact b11
    · rw [ea14x, ef14x]; exact F14
    · rw [ef14x]; exact b14
    · rw [ea15x, ef15x]; exact F15
    · rw [ef15x]; exact b15
    · rw [ea18x, ef18x]; exact F18
    · rw [ef18x]; exact b18
    · rw [ea16x, ef16x]; exact F16
    · rw [ef16x]; exact b16
    · rw [ea17x, ef17x]; exact F17
    · rw [ef17x]; exact b17
    · rw [ea40x, ef40x]; exact F40
    · rw [ef40x]; exact b40
    · rw [ea32x, ef32x]; exact F32
    · rw [ef32x]; exact b32
    · rw [ea8x, ef8x]; exact F8
    · rw [ef8x]; exact b8
    · rw [ea2x, ea3x, ef3x]; exact ⟨⟨z310, z309, _, _, _, _, _, _, _, _, rfl, l3, c3, ⟨⟨_, _, _, l3⟩, ⟨_, rfl, rfl⟩, ⟨_, _, _, _, _, _, oc3, ov3, of_3⟩, ⟨_, _, _, oe3⟩, om_2, PySem.W.mg_none_of X G n_super, othird, osin2, oisv2, otop⟩⟩⟩
    · rw [ef3x]; exact b3
    · rw [ea2x]; exact ⟨⟨_, _, _, _, _, _, _, _, _, _, _, _, _, _, _, ok_2, ob_2⟩, csa2, xb2, xt2, kp2⟩
    · rw [ea2x, ea3x]; exact om3
    · rw [ea3x]; exact ot2
    · rw [ea2x]; exact ofl2_number
    · rw [ea9x, ef9x]; exact F9
    · rw [ef9x]; exact b9
    · rw [ea43x, ef43x]; exact F43
    · rw [ef43x]; exact b43
    · rw [ea20x, ef20x]; exact F20
    · rw [ef20x]; exact b20
    · rw [ea44x, ef44x]; exact F44
    · rw [ef44x]; exact b44
    · rw [ef23x]; exact kb_LogBook___init___1_when_what_kept_confirm_cut
    · rw [ea6x, ea7x]; exact ⟨mm6, om7, of7, kp6⟩
    · exact PySem.W.mg_none_of X G n_range
    · exact PySem.W.mg_none_of X G n_len
    · rw [ea6x, ea8x]; exact om8
    · rw [ea8x]; exact of8
    · rw [ea6x]; exact sf6
    · rw [ea6x]; exact ⟨cpg6, chd6, cpo6, csa6⟩
    · rw [ea6x, ea20x]; exact ⟨om20, of20, k20⟩
    · exact ⟨fun c h => by
          simp only [List.contains_cons, List.contains_nil, Bool.or_false, Bool.or_eq_true, beq_iff_eq] at h
          rcases h with rfl
          · rw [ea6x]; exact ⟨cpg6, chd6, cpo6, csa6⟩
          , fun c h => by
          simp only [List.contains_cons, List.contains_nil, Bool.or_false, Bool.or_eq_true, beq_iff_eq] at h
          rcases h with rfl
          · rw [ea6x]; exact na6_written
          ⟩
    · exact ⟨fun c h => by
          simp only [List.contains_cons, List.contains_nil, Bool.or_false, Bool.or_eq_true, beq_iff_eq] at h
          rcases h with rfl
          · rw [ea6x]; exact ⟨cpg6, chd6, cpo6, csa6⟩
          , fun c h => by
          simp only [List.contains_cons, List.contains_nil, Bool.or_false, Bool.or_eq_true, beq_iff_eq] at h
          rcases h with rfl
          · rw [ea6x]; exact na6_lasts
          ⟩
    · exact PySem.W.mg_none_of X G n_isinstance
    · exact ⟨fun t c b h => blt_ok K _ _ (isiOf_mem h), fun c t b h => by
          have := isiOf_mem h
          simp [isiTab, bltTab] at this⟩
    · exact PySem.W.mg_none_of X G n_bool
    · exact PySem.W.mg_none_of X G n_int
    · exact PySem.W.mg_none_of X G n_str
    · exact PySem.W.mg_none_of X G n_tuple
    · exact PySem.W.mg_none_of X G n_list
    · rw [ea6x, ea9x]; exact ⟨om9, of9, k9⟩
    · exact ⟨fun c h => by
          simp only [List.contains_cons, List.contains_nil, Bool.or_false, Bool.or_eq_true, beq_iff_eq] at h
          rcases h with rfl
          · rw [ea6x]; exact ⟨cpg6, chd6, cpo6, csa6⟩
          , fun c h => by
          simp only [List.contains_cons, List.contains_nil, Bool.or_false, Bool.or_eq_true, beq_iff_eq] at h
          rcases h with rfl
          · rw [ea6x]; exact na6_start
          ⟩
    · exact ⟨fun c h => by
          simp only [List.contains_cons, List.contains_nil, Bool.or_false, Bool.or_eq_true, beq_iff_eq] at h
          rcases h with rfl
          · rw [ea6x]; exact ⟨cpg6, chd6, cpo6, csa6⟩
          , fun c h => by
          simp only [List.contains_cons, List.contains_nil, Bool.or_false, Bool.or_eq_true, beq_iff_eq] at h
          rcases h with rfl
          · rw [ea6x]; exact na6_units
          ⟩
    · rw [ea6x, ea10x]; exact ⟨om10, of10, k10⟩
    · rw [ea6x, ea14x]; exact ⟨om14, of14, k14⟩
    · rw [ea6x, ea15x]; exact ⟨om15, of15, k15⟩
    · rw [ea6x, ea16x]; exact ⟨om16, of16, k16⟩
    · rw [ea6x, ea17x]; exact ⟨om17, of17, k17⟩
    · exact ⟨fun c h => by
          simp only [List.contains_cons, List.contains_nil, Bool.or_false, Bool.or_eq_true, beq_iff_eq] at h
          rcases h with rfl
          · rw [ea6x]; exact ⟨cpg6, chd6, cpo6, csa6⟩
          , fun c h => by
          simp only [List.contains_cons, List.contains_nil, Bool.or_false, Bool.or_eq_true, beq_iff_eq] at h
          rcases h with rfl
          · rw [ea6x]; exact na6_drafts
          ⟩
    · rw [ea6x, ea18x]; exact ⟨om18, of18, k18⟩
    · exact ⟨fun c h => by
          simp only [List.contains_cons, List.contains_nil, Bool.or_false, Bool.or_eq_true, beq_iff_eq] at h
          rcases h with rfl
          · rw [ea6x]; exact ⟨cpg6, chd6, cpo6, csa6⟩
          , fun c h => by
          simp only [List.contains_cons, List.contains_nil, Bool.or_false, Bool.or_eq_true, beq_iff_eq] at h
          rcases h with rfl
          · rw [ea6x]; exact na6_over
          ⟩
    · rw [ea6x, ea11x]; exact ⟨om11, of11, k11⟩
    · exact ⟨fun c h => by
          simp only [List.contains_cons, List.contains_nil, Bool.or_false, Bool.or_eq_true, beq_iff_eq] at h
          rcases h with rfl
          · rw [ea6x]; exact ⟨cpg6, chd6, cpo6, csa6⟩
          , fun c h => by
          simp only [List.contains_cons, List.contains_nil, Bool.or_false, Bool.or_eq_true, beq_iff_eq] at h
          rcases h with rfl
          · rw [ea6x]; exact na6_book
          ⟩
    · exact ⟨fun c h => by
          simp only [List.contains_cons, List.contains_nil, Bool.or_false, Bool.or_eq_true, beq_iff_eq] at h
          rcases h with rfl
          · rw [ea22x]; exact ⟨cpg22, chd22, cpo22, csa22⟩
          , fun c h => by
          simp only [List.contains_cons, List.contains_nil, Bool.or_false, Bool.or_eq_true, beq_iff_eq] at h
          rcases h with rfl
          · rw [ea22x]; exact na22_when
          ⟩
    · exact ⟨fun c h => by
          simp only [List.contains_cons, List.contains_nil, Bool.or_false, Bool.or_eq_true, beq_iff_eq] at h
          rcases h with rfl
          · rw [ea22x]; exact ⟨cpg22, chd22, cpo22, csa22⟩
          , fun c h => by
          simp only [List.contains_cons, List.contains_nil, Bool.or_false, Bool.or_eq_true, beq_iff_eq] at h
          rcases h with rfl
          · rw [ea22x]; exact na22_what
          ⟩
    · rw [ea6x, ea13x]; exact ⟨om13, of13, k13⟩
    · rw [ea6x, ea12x]; exact ⟨om12, of12, k12⟩
    · exact ⟨fun c h => by
          simp only [List.contains_cons, List.contains_nil, Bool.or_false, Bool.or_eq_true, beq_iff_eq] at h
          rcases h with rfl
          · rw [ea22x]; exact ⟨cpg22, chd22, cpo22, csa22⟩
          , fun c h => by
          simp only [List.contains_cons, List.contains_nil, Bool.or_false, Bool.or_eq_true, beq_iff_eq] at h
          rcases h with rfl
          · rw [ea22x]; exact na22_kept
          ⟩
    · rw [ea22x, ea23x]; exact ⟨mm22, om23, of23, kp22⟩
    · rw [ea22x]; exact ⟨crd22, cga22⟩
    · rw [ea22x]; exact ⟨_, _, ⟨cv22_WHEN, rfl⟩, fun _ _ => .tup (vs := [(.str "end" : V), (.str "begin" : V), (.str "write" : V)]) (.inr ⟨_, _, _, ctr22_WHEN, rfl, rfl, (by show 3 ≤ sizeLine; decide), .cons ⟨_, rfl⟩ (.cons ⟨_, rfl⟩ (.cons ⟨_, rfl⟩ (.nil)))⟩) (.cons (.str _) (.cons (.str _) (.cons (.str _) (.nil))))⟩
    · rw [ea22x]; exact ⟨_, _, ⟨cv22_WHAT, rfl⟩, fun _ _ => .tup (vs := [(.str "image" : V), (.str "statement" : V)]) (.inr ⟨_, _, _, ctr22_WHAT, rfl, rfl, (by show 2 ≤ sizeLine; decide), .cons ⟨_, rfl⟩ (.cons ⟨_, rfl⟩ (.nil))⟩) (.cons (.str _) (.cons (.str _) (.nil)))⟩
    · rw [ea22x]; exact ⟨_, _, ⟨cv22_KEPT, rfl⟩, fun _ _ => .tup (vs := [(.str "own" : V), (.str "logged" : V)]) (.inr ⟨_, _, _, ctr22_KEPT, rfl, rfl, (by show 2 ≤ sizeLine; decide), .cons ⟨_, rfl⟩ (.cons ⟨_, rfl⟩ (.nil))⟩) (.cons (.str _) (.cons (.str _) (.nil)))⟩
    · rw [ea22x]; exact ⟨_, _, ⟨cv22_CONFIRM, rfl⟩, fun _ _ => .tup (vs := [(.str "with" : V), (.str "behind" : V), (.str "ahead" : V)]) (.inr ⟨_, _, _, ctr22_CONFIRM, rfl, rfl, (by show 3 ≤ sizeLine; decide), .cons ⟨_, rfl⟩ (.cons ⟨_, rfl⟩ (.cons ⟨_, rfl⟩ (.nil)))⟩) (.cons (.str _) (.cons (.str _) (.cons (.str _) (.nil))))⟩
    · rw [ea22x]; exact ⟨_, _, ⟨cv22_CUT, rfl⟩, fun _ _ => .tup (vs := [(.str "never" : V), (.str "least" : V), (.str "greatest" : V)]) (.inr ⟨_, _, _, ctr22_CUT, rfl, rfl, (by show 3 ≤ sizeLine; decide), .cons ⟨_, rfl⟩ (.cons ⟨_, rfl⟩ (.cons ⟨_, rfl⟩ (.nil)))⟩) (.cons (.str _) (.cons (.str _) (.cons (.str _) (.nil))))⟩
    · exact ⟨fun c h => by
          simp only [List.contains_cons, List.contains_nil, Bool.or_false, Bool.or_eq_true, beq_iff_eq] at h
          rcases h with rfl
          · rw [ea22x]; exact ⟨cpg22, chd22, cpo22, csa22⟩
          , fun c h => by
          simp only [List.contains_cons, List.contains_nil, Bool.or_false, Bool.or_eq_true, beq_iff_eq] at h
          rcases h with rfl
          · rw [ea22x]; exact na22_confirm
          ⟩
    · exact ⟨fun c h => by
          simp only [List.contains_cons, List.contains_nil, Bool.or_false, Bool.or_eq_true, beq_iff_eq] at h
          rcases h with rfl
          · rw [ea22x]; exact ⟨cpg22, chd22, cpo22, csa22⟩
          , fun c h => by
          simp only [List.contains_cons, List.contains_nil, Bool.or_false, Bool.or_eq_true, beq_iff_eq] at h
          rcases h with rfl
          · rw [ea22x]; exact na22_cut
          ⟩
    · exact PySem.W.mg_none_of X G n_abs
  refine ⟨PySem.W.fnOf "law" "law" (defArgs s_law) (defBody s_law) (defScope s_law) .none z364 z365 z366 z367 z368 z369, fun s v => .of_eq rfl, fun base _ _ => ⟨ad, ?_⟩⟩
  have R := ok_law (P := l.prog) (base := base) T
  rw [ea44x, ef44x] at R
  rw [efa]
  exact R
end K80
open PySem PySem.W PyProof.Rows
set_option maxRecDepth 100000 in
set_option maxHeartbeats 0 in
theorem PySem.Challenge.cw_bookstogether_k80_begin_order_without_ov_holds : PySem.Challenge.rw_bookstogether_k80_begin_order_without_ov.Holds := by
  w_on; o_law; k_head; (case hw => w_witness2)
  k_fill
  refine K80.walk (l := PySem.Challenge.rw_bookstogether_k80_begin_order_without_ov) rfl rfl (fun w h Y => PySem.W.kIn_of Y) ?F
  case F =>
    intro w mg fa h KX G hmg
    refine' K80.all_mk KX G hmg ?a6 ?a2 ?a22 ?a4 ?a28 ?l28 ?c28 ?k28 ?a30 ?l30 ?c30 ?k30 ?a27 ?l27 ?c27 ?k27 ?a29 ?l29 ?c29 ?k29 ?a33 ?l33 ?c33 ?k33 ?a31 ?l31 ?c31 ?k31 ?a36 ?l36 ?c36 ?k36 ?a35 ?l35 ?c35 ?k35 ?a41 ?l41 ?c41 ?k41 ?a42 ?l42 ?c42 ?k42 ?om7 ?l7 ?c7 ?k7 ?om5 ?l5 ?c5 ?oc5 ?ov5 ?of_5 ?oe5 ?om_4 ?n_super ?othird ?osin4 ?oisv4 ?otop ?ok_4 ?ob_4 ?csa4 ?xb4 ?xt4 ?kp4 ?ot4 ?ofl4_part ?a21 ?l21 ?c21 ?k21 ?om23 ?l23 ?c23 ?k23 ?w23_0 ?w23_1 ?w23_2 ?w23_3 ?w23_4 ?a34 ?l34 ?c34 ?k34 ?a37 ?l37 ?c37 ?k37 ?a38 ?l38 ?c38 ?k38 ?a39 ?l39 ?c39 ?k39 ?om10 ?l10 ?c10 ?k10 ?om12 ?l12 ?c12 ?k12 ?om13 ?l13 ?c13 ?k13 ?om11 ?l11 ?c11 ?k11 ?om14 ?l14 ?c14 ?k14 ?om15 ?l15 ?c15 ?k15 ?om18 ?l18 ?c18 ?k18 ?om16 ?l16 ?c16 ?k16 ?om17 ?l17 ?c17 ?k17 ?a40 ?l40 ?c40 ?k40 ?a32 ?l32 ?c32 ?k32 ?om8 ?l8 ?c8 ?k8 ?om3 ?l3 ?c3 ?oc3 ?ov3 ?of_3 ?oe3 ?om_2 ?osin2 ?oisv2 ?ok_2 ?ob_2 ?csa2 ?xb2 ?xt2 ?kp2 ?ot2 ?ofl2_number ?om9 ?l9 ?c9 ?k9 ?a43 ?l43 ?c43 ?k43 ?om20 ?l20 ?c20 ?k20 ?a44 ?l44 ?c44 ?k44 ?mm6 ?of7 ?kp6 ?n_range ?n_len ?of8 ?sf6 ?cpg6 ?chd6 ?cpo6 ?csa6 ?of20 ?na6_written ?na6_lasts ?n_isinstance ?n_bool ?n_int ?n_str ?n_tuple ?n_list ?of9 ?na6_start ?na6_units ?of10 ?of14 ?of15 ?of16 ?of17 ?na6_drafts ?of18 ?na6_over ?of11 ?na6_book ?cpg22 ?chd22 ?cpo22 ?csa22 ?na22_when ?na22_what ?of13 ?of12 ?na22_kept ?mm22 ?of23 ?kp22 ?ctp22 ?crd22 ?cga22 ?cv22_WHEN ?ctr22_WHEN ?cv22_WHAT ?ctr22_WHAT ?cv22_KEPT ?ctr22_KEPT ?cv22_CONFIRM ?ctr22_CONFIRM ?cv22_CUT ?ctr22_CUT ?na22_confirm ?na22_cut ?n_abs
    (case a6 => k_is)
    (case a2 => k_is)
    (case a22 => k_is)
    (case a4 => k_is)
    (case a28 => k_is)
    (case l28 => k_is)
    (case c28 => k_is)
    (case k28 => k_is)
    (case a30 => k_is)
    (case l30 => k_is)
    (case c30 => k_is)
    (case k30 => k_is)
    (case a27 => k_is)
    (case l27 => k_is)
    (case c27 => k_is)
    (case k27 => k_is)
    (case a29 => k_is)
    (case l29 => k_is)
    (case c29 => k_is)
    (case k29 => k_is)
    (case a33 => k_is)
    (case l33 => k_is)
    (case c33 => k_is)
    (case k33 => k_is)
    (case a31 => k_is)
    (case l31 => k_is)
    (case c31 => k_is)
    (case k31 => k_is)
    (case a36 => k_is)
    (case l36 => k_is)
    (case c36 => k_is)
    (case k36 => k_is)
    (case a35 => k_is)
    (case l35 => k_is)
    (case c35 => k_is)
    (case k35 => k_is)
    (case a41 => k_is)
    (case l41 => k_is)
    (case c41 => k_is)
    (case k41 => k_is)
    (case a42 => k_is)
    (case l42 => k_is)
    (case c42 => k_is)
    (case k42 => k_is)
    (case om7 => k_is)
    (case l7 => k_is)
    (case c7 => k_is)
    (case k7 => k_is)
    (case om5 => k_is)
    (case l5 => k_is)
    (case c5 => k_is)
    (case oc5 => k_is)
    (case ov5 => rfl)
    (case of_5 => first | rfl | decide +kernel)
    (case oe5 => k_is)
    (case om_4 => k_is)
    (case n_super => k_is)
    (case othird => k_is)
    (case osin4 => ks_is)
    (case oisv4 => k_is)
    (case otop => first | rfl | decide +kernel)
    (case ok_4 => k_is)
    (case ob_4 => first | rfl | decide +kernel)
    (case csa4 => k_is)
    (case xb4 => k_is)
    (case xt4 => k_is)
    (case kp4 => k_is)
    (case ot4 => k_is)
    (case ofl4_part => k_is)
    (case a21 => k_is)
    (case l21 => k_is)
    (case c21 => k_is)
    (case k21 => k_is)
    (case om23 => k_is)
    (case l23 => k_is)
    (case c23 => k_is)
    (case k23 => k_is)
    (case w23_0 => k_is)
    (case w23_1 => k_is)
    (case w23_2 => k_is)
    (case w23_3 => k_is)
    (case w23_4 => k_is)
    (case a34 => k_is)
    (case l34 => k_is)
    (case c34 => k_is)
    (case k34 => k_is)
    (case a37 => k_is)
    (case l37 => k_is)
    (case c37 => k_is)
    (case k37 => k_is)
    (case a38 => k_is)
    (case l38 => k_is)
    (case c38 => k_is)
    (case k38 => k_is)
    (case a39 => k_is)
    (case l39 => k_is)
    (case c39 => k_is)
    (case k39 => k_is)
    (case om10 => k_is)
    (case l10 => k_is)
    (case c10 => k_is)
    (case k10 => k_is)
    (case om12 => k_is)
    (case l12 => k_is)
    (case c12 => k_is)
    (case k12 => k_is)
    (case om13 => k_is)
    (case l13 => k_is)
    (case c13 => k_is)
    (case k13 => k_is)
    (case om11 => k_is)
    (case l11 => k_is)
    (case c11 => k_is)
    (case k11 => k_is)
    (case om14 => k_is)
    (case l14 => k_is)
    (case c14 => k_is)
    (case k14 => k_is)
    (case om15 => k_is)
    (case l15 => k_is)
    (case c15 => k_is)
    (case k15 => k_is)
    (case om18 => k_is)
    (case l18 => k_is)
    (case c18 => k_is)
    (case k18 => k_is)
    (case om16 => k_is)
    (case l16 => k_is)
    (case c16 => k_is)
    (case k16 => k_is)
    (case om17 => k_is)
    (case l17 => k_is)
    (case c17 => k_is)
    (case k17 => k_is)
    (case a40 => k_is)
    (case l40 => k_is)
    (case c40 => k_is)
    (case k40 => k_is)
    (case a32 => k_is)
    (case l32 => k_is)
    (case c32 => k_is)
    (case k32 => k_is)
    (case om8 => k_is)
    (case l8 => k_is)
    (case c8 => k_is)
    (case k8 => k_is)
    (case om3 => k_is)
    (case l3 => k_is)
    (case c3 => k_is)
    (case oc3 => k_is)
    (case ov3 => rfl)
    (case of_3 => first | rfl | decide +kernel)
    (case oe3 => k_is)
    (case om_2 => k_is)
    (case osin2 => ks_is)
    (case oisv2 => k_is)
    (case ok_2 => k_is)
    (case ob_2 => first | rfl | decide +kernel)
    (case csa2 => k_is)
    (case xb2 => k_is)
    (case xt2 => k_is)
    (case kp2 => k_is)
    (case ot2 => k_is)
    (case ofl2_number => k_is)
    (case om9 => k_is)
    (case l9 => k_is)
    (case c9 => k_is)
    (case k9 => k_is)
    (case a43 => k_is)
    (case l43 => k_is)
    (case c43 => k_is)
    (case k43 => k_is)
    (case om20 => k_is)
    (case l20 => k_is)
    (case c20 => k_is)
    (case k20 => k_is)
    (case a44 => k_is)
    (case l44 => k_is)
    (case c44 => k_is)
    (case k44 => k_is)
    (case mm6 => k_is)
    (case of7 => k_is)
    (case kp6 => k_is)
    (case n_range => k_is)
    (case n_len => k_is)
    (case of8 => k_is)
    (case sf6 => k_is)
    (case cpg6 => k_is)
    (case chd6 => k_is)
    (case cpo6 => k_is)
    (case csa6 => k_is)
    (case of20 => k_is)
    (case na6_written => k_is)
    (case na6_lasts => k_is)
    (case n_isinstance => k_is)
    (case n_bool => k_is)
    (case n_int => k_is)
    (case n_str => k_is)
    (case n_tuple => k_is)
    (case n_list => k_is)
    (case of9 => k_is)
    (case na6_start => k_is)
    (case na6_units => k_is)
    (case of10 => k_is)
    (case of14 => k_is)
    (case of15 => k_is)
    (case of16 => k_is)
    (case of17 => k_is)
    (case na6_drafts => k_is)
    (case of18 => k_is)
    (case na6_over => k_is)
    (case of11 => k_is)
    (case na6_book => k_is)
    (case cpg22 => k_is)
    (case chd22 => k_is)
    (case cpo22 => k_is)
    (case csa22 => k_is)
    (case na22_when => k_is)
    (case na22_what => k_is)
    (case of13 => k_is)
    (case of12 => k_is)
    (case na22_kept => k_is)
    (case mm22 => k_is)
    (case of23 => k_is)
    (case kp22 => k_is)
    (case ctp22 => k_is)
    (case crd22 => k_is)
    (case cga22 => k_is)
    (case cv22_WHEN => k_is)
    (case ctr22_WHEN => k_is)
    (case cv22_WHAT => k_is)
    (case ctr22_WHAT => k_is)
    (case cv22_KEPT => k_is)
    (case ctr22_KEPT => k_is)
    (case cv22_CONFIRM => k_is)
    (case ctr22_CONFIRM => k_is)
    (case cv22_CUT => k_is)
    (case ctr22_CUT => k_is)
    (case na22_confirm => k_is)
    (case na22_cut => k_is)
    (case n_abs => k_is)
