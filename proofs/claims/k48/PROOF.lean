import PyProof.Rows.All
import Wide.All
import OpenK.AllK
import Wide.FinOn
import HandS.ForMost
import HandS.ForExc
import HandS.HotCalls
import HandS.ExcInitHot
import HandS.CallSlots
import HandS.Style
import HandS.IsInst
import HandS.TupAny
import HandS.WordsList
import HandS.Flow
import HandS.ExcIs
import HandS.More
import HandS.WrittenGet
import HandS.Defaults
import HandS.Property
import HandS.ClsMeth
import HandS.Strs
import KE.KSuperObj
import KE.KExcSuper
import HandS.ExcInit
import HandS.ExcSuper
import KE.KExcIs
import HandS.ExcField
import HandS.Star
import HandS.MakeKwOnly
import HandS.Deep
import HandS.Zip
import KE.DataAny
import PyProof.P3In
import HandS.Small
import HandS.DictComp
import HandS.TryOnly
import HandS.List
import HandS.Iter
import PySem.Challenge.RW_bookstogether_k48_sessions_at_copies
set_option Elab.async false
set_option linter.all false
set_option maxRecDepth 100000
set_option maxHeartbeats 4000000

namespace T2
open PySem L2

/-! ### values that are trees; the things that change stand in a list, by place -/
inductive D where
  | non | bl (b : Bool) | int (i : Int) | str (x : Str) | ty (n : String) | cls (c : Nat) | ref (n : Nat) | obj (a : Addr) | tk (ks : List Key)
  | tup (ds : List D) | fro (ds : List D) | ins (c : Nat) (ns : List Str) (ds : List D)
inductive MO where
  | lst (ds : List D) | dk (ks : List Key) (ds : List D) | dt (ks : List (List Key)) (ds : List D) | ob (c : Nat) (ns : List Str) (ds : List D) | lk (ks : List Key) (ds : List D) | lt (ks : List (List Key)) (ds : List D)
abbrev MH := List MO
abbrev Env2 := List (Option D)
inductive Res (A : Type) where
  | ok (a : A) (M : MH) | exc (c : Nat) (ns : List Str) (ds : List D) (M : MH) | bad
inductive SR where
  | nx (e : Env2) (M : MH) | rt (d : D) (M : MH) | bk (e : Env2) (M : MH) | ct (e : Env2) (M : MH) | ex (c : Nat) (ns : List Str) (ds : List D) (e : Env2) (M : MH) | bad
def Res.bind {A B : Type} (r : Res A) (k : A → MH → Res B) : Res B := match r with
  | .ok a M => k a M
  | .exc c ns ds M => .exc c ns ds M
  | .bad => .bad
@[simp] theorem Res.bind_ok {A B : Type} (a : A) (M : MH) (k : A → MH → Res B) : (Res.ok a M).bind k = k a M := rfl
@[simp] theorem Res.bind_exc {A B : Type} (c : Nat) (ns : List Str) (ds : List D) (M : MH) (k : A → MH → Res B) : (Res.exc c ns ds M : Res A).bind k = .exc c ns ds M := rfl
@[simp] theorem Res.bind_bad {A B : Type} (k : A → MH → Res B) : (Res.bad : Res A).bind k = .bad := rfl

/-- the written part, and where the classes of the text stand -/
structure Wd where
  K : PySem.W.Frag
  ca : Nat → Addr
/-- a list that never changes any more -/
def FroL (g : Wd) (F : List Addr) (H : Hp) (a : Addr) (vs : List V) : Prop :=
  (H a = some (.lst vs) ∧ a ∉ F) ∨ (∃ o, H a = some (.frz o (.lst vs))) ∨
    ∃ (o : Obj) (its : Array Value) (n : Nat), g.K.lookup a = some o ∧ o.cls = .type "list" ∧ o.dict = none ∧ o.data = .seq its n ∧ its.size ≤ sizeLine ∧ Vals vs its.toList
theorem FroL.sq {g : Wd} {F : List Addr} {H : Hp} {a : Addr} {vs : List V} (h : FroL g F H a vs) : SqL g.K H a vs := by
  rcases h with h | h | h
  · exact .inl (.inl h.1)
  · exact .inl (.inr h)
  · exact .inr h
mutual
inductive Rep (g : Wd) (F : List Addr) (H : Hp) : D → V → Prop
  | non : Rep g F H .non .non
  | bl (b : Bool) : Rep g F H (.bl b) (.bl b)
  | int (i : Int) : Rep g F H (.int i) (.int i)
  | str (x : Str) : Rep g F H (.str x) (.str x)
  | ty (n : String) : Rep g F H (.ty n) (.ty n)
  | cls (c : Nat) : Rep g F H (.cls c) (.ref (g.ca c))
  | obj (a : Addr) : Rep g F H (.obj a) (.ref a)
  | tk {a : Addr} {ks : List Key} (h : H a = some (.tup (ks.map kV))) : Rep g F H (.tk ks) (.ref a)
  | ref {n : Nat} {a : Addr} (h : F[n]? = some a) : Rep g F H (.ref n) (.ref a)
  | tup {a : Addr} {ds : List D} {vs : List V} (h : SqT g.K H a vs) (r : Reps g F H ds vs) : Rep g F H (.tup ds) (.ref a)
  | fro {a : Addr} {ds : List D} {vs : List V} (h : FroL g F H a vs) (r : Reps g F H ds vs) : Rep g F H (.fro ds) (.ref a)
  | ins {a dx : Addr} {c : Nat} {ns : List Str} {ds : List D} {vs : List V} (h : H a = some (.ins (g.ca c) dx (ns.zip vs))) (hn : a ∉ F) (hl : ns.length = vs.length) (r : Reps g F H ds vs) : Rep g F H (.ins c ns ds) (.ref a)
inductive Reps (g : Wd) (F : List Addr) (H : Hp) : List D → List V → Prop
  | nil : Reps g F H [] []
  | cons {d : D} {v : V} {ds : List D} {vs : List V} (h : Rep g F H d v) (t : Reps g F H ds vs) : Reps g F H (d :: ds) (v :: vs)
end

/-- no dict that is locked -/
def NoLk : Option HO → Prop
  | some (.frz _ (.dK _)) => False
  | some (.frz _ (.dT _)) => False
  | _ => True
theorem nolk_of {H : Hp} {a : Addr} {o : HO} (h : H a = some o) (w : NoLk (some o)) : NoLk (H a) := by rw [h]; exact w
/-- from one moment to a later one -/
structure Grow (F : List Addr) (H : Hp) (F' : List Addr) (H' : Hp) : Prop where
  pre : F <+: F'
  keep : ∀ b o, H b = some o → b ∉ F → H' b = some o
  new : ∀ b, b ∈ F' → b ∈ F ∨ H b = none
  lock : ∀ b o, H b = some o → ¬ NoLk (some o) → H' b = some o
/-- what may stand at a place of the changing things -/
def MutO : Option HO → Prop
  | some (.lst _) => True
  | some (.dK _) => True
  | some (.dT _) => True
  | some (.ins _ _ _) => True
  | some (.frz _ (.dK _)) => True
  | some (.frz _ (.dT _)) => True
  | _ => False
def Good (F : List Addr) (H : Hp) : Prop := ∀ a ∈ F, MutO (H a)
theorem Grow.same {F : List Addr} {H : Hp} : Grow F H F H := ⟨List.prefix_refl _, fun _ _ h _ => h, fun _ h => .inl h, fun _ _ h _ => h⟩
theorem Grow.trans {F F1 F2 : List Addr} {H H1 H2 : Hp} (a : Grow F H F1 H1) (b : Grow F1 H1 F2 H2) : Grow F H F2 H2 := by
  refine ⟨a.pre.trans b.pre, fun x o e n => ?_, fun x e => ?_, fun x o e n => b.lock x o (a.lock x o e n) n⟩
  · refine b.keep x o (a.keep x o e n) fun z => ?_
    rcases a.new x z with q | q
    · exact n q
    · rw [e] at q; cases q
  · rcases b.new x e with q | q
    · exact a.new x q
    · by_cases h : x ∈ F
      · exact .inl h
      · cases w : H x with
        | none => exact .inr rfl
        | some o => rw [a.keep x o w h] at q; cases q
theorem Grow.keep2 {F F' : List Addr} {H H' : Hp} (g : Grow F H F' H') {b : Addr} {o : HO} (e : H b = some o) (n : b ∉ F ∨ ¬ NoLk (some o)) : H' b = some o := n.elim (g.keep b o e) (g.lock b o e)
theorem pre_get {A : Type} {l l' : List A} {n : Nat} {a : A} (p : l <+: l') (h : l[n]? = some a) : l'[n]? = some a := by
  obtain ⟨t, rfl⟩ := p
  have hl : n < l.length := (List.getElem?_eq_some_iff.mp h).1
  rw [List.getElem?_append_left hl]; exact h
theorem Grow.off {F F' : List Addr} {H H' : Hp} (g : Grow F H F' H') {a : Addr} {o : HO} (e : H a = some o) (n : a ∉ F) : a ∉ F' := fun z => by
  rcases g.new a z with q | q
  · exact n q
  · rw [e] at q; cases q
theorem Good.notin {F : List Addr} {H : Hp} (G : Good F H) {a : Addr} {o : HO} (e : H a = some o) (h : ¬ MutO (some o)) : a ∉ F := fun z => by
  have := G a z; rw [e] at this; exact h this
section
variable {g : Wd} {F F' : List Addr} {H H' : Hp}
theorem FroL.mono {a : Addr} {vs : List V} (gr : Grow F H F' H') (G : Good F H) (h : FroL g F H a vs) : FroL g F' H' a vs := by
  rcases h with ⟨h, n⟩ | ⟨o, h⟩ | h
  · exact .inl ⟨gr.keep _ _ h n, gr.off h n⟩
  · exact .inr (.inl ⟨o, gr.keep _ _ h (G.notin h (by intro z; exact z))⟩)
  · exact .inr (.inr h)
theorem sqT_mono {a : Addr} {vs : List V} (gr : Grow F H F' H') (G : Good F H) (h : SqT g.K H a vs) : SqT g.K H' a vs := by
  rcases h with (h | ⟨o, h⟩) | h
  · exact .inl (.inl (gr.keep _ _ h (G.notin h (by intro z; exact z))))
  · exact .inl (.inr ⟨o, gr.keep _ _ h (G.notin h (by intro z; exact z))⟩)
  · exact .inr h
mutual
theorem Rep.mono (gr : Grow F H F' H') (G : Good F H) : ∀ {d : D} {v : V}, Rep g F H d v → Rep g F' H' d v
  | _, _, .non => .non
  | _, _, .bl b => .bl b
  | _, _, .int i => .int i
  | _, _, .str x => .str x
  | _, _, .ty n => .ty n
  | _, _, .cls c => .cls c
  | _, _, .obj a => .obj a
  | _, _, .tk h => .tk (gr.keep _ _ h (G.notin h (by intro z; exact z)))
  | _, _, .ref h => .ref (pre_get gr.pre h)
  | _, _, .tup h r => .tup (sqT_mono gr G h) (Reps.mono gr G r)
  | _, _, .fro h r => .fro (h.mono gr G) (Reps.mono gr G r)
  | _, _, .ins h hn hl r => .ins (gr.keep _ _ h hn) (gr.off h hn) hl (Reps.mono gr G r)
theorem Reps.mono (gr : Grow F H F' H') (G : Good F H) : ∀ {ds : List D} {vs : List V}, Reps g F H ds vs → Reps g F' H' ds vs
  | _, _, .nil => .nil
  | _, _, .cons h t => .cons (Rep.mono gr G h) (Reps.mono gr G t)
end
theorem Reps.length : ∀ {ds : List D} {vs : List V}, Reps g F H ds vs → ds.length = vs.length
  | _, _, .nil => rfl
  | _, _, .cons _ t => by simp [Reps.length t]
theorem Reps.get : ∀ {ds : List D} {vs : List V} {n : Nat} {d : D}, Reps g F H ds vs → ds[n]? = some d → ∃ v, vs[n]? = some v ∧ Rep g F H d v
  | _, _, _, _, .nil, e => by simp at e
  | _, _, 0, _, .cons h _, e => by simp at e; subst e; exact ⟨_, rfl, h⟩
  | _, _, n + 1, d, .cons _ t, e => by
    obtain ⟨v, h1, h2⟩ := Reps.get (n := n) (d := d) t (by simpa using e)
    exact ⟨v, by simpa using h1, h2⟩
theorem Reps.append : ∀ {ds es : List D} {vs us : List V}, Reps g F H ds vs → Reps g F H es us → Reps g F H (ds ++ es) (vs ++ us)
  | _, _, _, _, .nil, s => s
  | _, _, _, _, .cons h t, s => .cons h (Reps.append t s)
theorem Reps.set {d : D} {v : V} (r : Rep g F H d v) : ∀ {ds : List D} {vs : List V} (n : Nat), Reps g F H ds vs → Reps g F H (ds.set n d) (vs.set n v)
  | _, _, _, .nil => .nil
  | _, _, 0, .cons _ t => .cons r t
  | _, _, n + 1, .cons h t => .cons h (Reps.set r n t)
theorem Reps.take : ∀ {ds : List D} {vs : List V} (n : Nat), Reps g F H ds vs → Reps g F H (ds.take n) (vs.take n)
  | _, _, 0, _ => .nil
  | _, _, _ + 1, .nil => .nil
  | _, _, n + 1, .cons r t => .cons r (Reps.take n t)
theorem Reps.drop : ∀ {ds : List D} {vs : List V} (n : Nat), Reps g F H ds vs → Reps g F H (ds.drop n) (vs.drop n)
  | _, _, 0, r => r
  | _, _, _ + 1, .nil => .nil
  | _, _, n + 1, .cons _ t => Reps.drop n t
end

inductive ObjR (g : Wd) (F : List Addr) (H : Hp) : MO → HO → Prop
  | lst {ds : List D} {vs : List V} (r : Reps g F H ds vs) : ObjR g F H (.lst ds) (.lst vs)
  | dk {ks : List Key} {ds : List D} {vs : List V} (hl : ks.length = vs.length) (r : Reps g F H ds vs) : ObjR g F H (.dk ks ds) (.dK (ks.zip vs))
  | dt {ks : List (List Key)} {ds : List D} {vs : List V} (hl : ks.length = vs.length) (r : Reps g F H ds vs) : ObjR g F H (.dt ks ds) (.dT (ks.zip vs))
  | ob {c : Nat} {dx : Addr} {ns : List Str} {ds : List D} {vs : List V} (hl : ns.length = vs.length) (r : Reps g F H ds vs) : ObjR g F H (.ob c ns ds) (.ins (g.ca c) dx (ns.zip vs))
  | lk {o : Obj} {ks : List Key} {ds : List D} {vs : List V} (hl : ks.length = vs.length) (r : Reps g F H ds vs) : ObjR g F H (.lk ks ds) (.frz o (.dK (ks.zip vs)))
  | lt {o : Obj} {ks : List (List Key)} {ds : List D} {vs : List V} (hl : ks.length = vs.length) (r : Reps g F H ds vs) : ObjR g F H (.lt ks ds) (.frz o (.dT (ks.zip vs)))
theorem ObjR.mono {g : Wd} {F F' : List Addr} {H H' : Hp} (gr : Grow F H F' H') (G : Good F H) {o : MO} {h : HO} (r : ObjR g F H o h) : ObjR g F' H' o h := by
  cases r with
  | lst r => exact .lst (r.mono gr G)
  | dk hl r => exact .dk hl (r.mono gr G)
  | dt hl r => exact .dt hl (r.mono gr G)
  | ob hl r => exact .ob hl (r.mono gr G)
  | lk hl r => exact .lk hl (r.mono gr G)
  | lt hl r => exact .lt hl (r.mono gr G)
theorem ObjR.mut {g : Wd} {F : List Addr} {H : Hp} {o : MO} {h : HO} (r : ObjR g F H o h) : MutO (some h) := by cases r <;> trivial
structure RelM (g : Wd) (F : List Addr) (M : MH) (H : Hp) : Prop where
  len : F.length = M.length
  nd : F.Nodup
  obj : ∀ (n : Nat) (a : Addr) (o : MO), F[n]? = some a → M[n]? = some o → ∃ h, H a = some h ∧ ObjR g F H o h
theorem RelM.good {g : Wd} {F : List Addr} {M : MH} {H : Hp} (R : RelM g F M H) : Good F H := fun a ha => by
  obtain ⟨n, hn⟩ := List.getElem?_of_mem ha
  have hl : n < M.length := by have := (List.getElem?_eq_some_iff.mp hn).1; rw [R.len] at this; exact this
  obtain ⟨h, e, r⟩ := R.obj n a M[n] hn (List.getElem?_eq_getElem hl)
  rw [e]; exact r.mut
/-- nothing that is tracked changes, nothing new among the changing things -/
theorem RelM.keep {g : Wd} {F : List Addr} {M : MH} {H H' : Hp} (R : RelM g F M H) (k : ∀ b o, H b = some o → H' b = some o) : Grow F H F H' ∧ RelM g F M H' := by
  have gr : Grow F H F H' := ⟨List.prefix_refl _, fun b o e _ => k b o e, fun _ h => .inl h, fun b o e _ => k b o e⟩
  refine ⟨gr, R.len, R.nd, fun n a o e m => ?_⟩
  obtain ⟨h, e2, r⟩ := R.obj n a o e m
  exact ⟨h, k _ _ e2, r.mono gr R.good⟩
theorem upd_keeps {H : Hp} {p : Addr} {o : HO} (hp : H p = none) : ∀ b u, H b = some u → upd H p o b = some u := fun b u e => by rw [upd_ne (ne_of_none e hp)]; exact e
/-- a new thing that never changes -/
theorem RelM.still {g : Wd} {F : List Addr} {M : MH} {H : Hp} {p : Addr} {o : HO} (R : RelM g F M H) (hp : H p = none) : Grow F H F (upd H p o) ∧ RelM g F M (upd H p o) := R.keep (upd_keeps hp)
theorem RelM.notin {g : Wd} {F : List Addr} {M : MH} {H : Hp} {p : Addr} (R : RelM g F M H) (hp : H p = none) : p ∉ F := fun z => by
  have := R.good p z; rw [hp] at this; exact this
/-- a new thing that changes -/
theorem RelM.laid {g : Wd} {F : List Addr} {M : MH} {H : Hp} {p : Addr} {o : HO} {m : MO} (R : RelM g F M H) (hp : H p = none) (ho : ∀ F' H', Grow F H F' H' → ObjR g F' H' m o) : Grow F H (F ++ [p]) (upd H p o) ∧ RelM g (F ++ [p]) (M ++ [m]) (upd H p o) := by
  have gr : Grow F H (F ++ [p]) (upd H p o) := ⟨List.prefix_append _ _, fun b u e _ => upd_keeps hp b u e, fun b hb => by
    rcases List.mem_append.mp hb with q | q
    · exact .inl q
    · have e : b = p := by simpa using q
      rw [e]; exact .inr hp, fun b u e _ => upd_keeps hp b u e⟩
  refine ⟨gr, by simp [R.len], ?_, fun n a u e m2 => ?_⟩
  · rw [List.nodup_append]
    refine ⟨R.nd, by simp, fun x hx y hy => ?_⟩
    have : y = p := by simpa using hy
    rw [this]; intro z; rw [z] at hx; exact R.notin hp hx
  · by_cases hn : n < F.length
    · rw [List.getElem?_append_left hn] at e
      rw [List.getElem?_append_left (by rw [← R.len]; exact hn)] at m2
      obtain ⟨h, e2, r⟩ := R.obj n a u e m2
      exact ⟨h, upd_keeps hp _ _ e2, r.mono gr R.good⟩
    · have hn' : F.length ≤ n := Nat.le_of_not_lt hn
      rw [List.getElem?_append_right hn'] at e
      rw [List.getElem?_append_right (by rw [← R.len]; exact hn')] at m2
      have h0 : n - F.length = 0 := by
        have := (List.getElem?_eq_some_iff.mp e).1
        simp at this; omega
      rw [h0] at e
      rw [← R.len, h0] at m2
      simp at e m2
      subst e; subst m2
      exact ⟨o, upd_same, ho _ _ gr⟩
/-- a changing thing is changed -/
theorem RelM.put {g : Wd} {F : List Addr} {M : MH} {H : Hp} {n : Nat} {a : Addr} {o : HO} {m : MO} (R : RelM g F M H) (hn : F[n]? = some a) (hm : MutO (some o)) (ho : ∀ H', Grow F H F H' → ObjR g F H' m o) (hx : NoLk (H a) := by apply nolk_of <;> first | assumption | trivial) : Grow F H F (upd H a o) ∧ RelM g F (M.set n m) (upd H a o) := by
  have ha : a ∈ F := List.mem_of_getElem? hn
  have gr : Grow F H F (upd H a o) := ⟨List.prefix_refl _, fun b u e nb => by rw [upd_ne (fun z => nb (by rw [z]; exact ha))]; exact e, fun _ h => .inl h, fun b u e n => by rw [upd_ne (fun z => n (by rw [z] at e; rw [e] at hx; exact hx))]; exact e⟩
  refine ⟨gr, by simp [R.len], R.nd, fun k b u e m2 => ?_⟩
  by_cases hk : n = k
  · subst hk
    rw [hn] at e; cases e
    have hl : n < M.length := by have := (List.getElem?_eq_some_iff.mp hn).1; rw [R.len] at this; exact this
    rw [List.getElem?_set_self hl] at m2
    cases m2
    exact ⟨o, upd_same, ho _ gr⟩
  · rw [List.getElem?_set_ne hk] at m2
    obtain ⟨h, e2, r⟩ := R.obj k b u e m2
    refine ⟨h, ?_, r.mono gr R.good⟩
    rw [upd_ne]
    · exact e2
    · intro z
      subst z
      exact hk ((List.getElem?_inj (List.getElem?_eq_some_iff.mp hn).1 R.nd).mp (hn.trans e.symm))

/-! ### the frame's values -/
inductive OptR (g : Wd) (F : List Addr) (H : Hp) : Option D → Option V → Prop
  | none {v : Option V} : OptR g F H none v
  | some {d : D} {v : V} (r : Rep g F H d v) : OptR g F H (some d) (some v)
inductive EnvR (g : Wd) (F : List Addr) (H : Hp) : Env2 → St → Prop
  | nil : EnvR g F H [] []
  | cons {d : Option D} {v : Option V} {ds : Env2} {vs : St} (h : OptR g F H d v) (t : EnvR g F H ds vs) : EnvR g F H (d :: ds) (v :: vs)
section
variable {g : Wd} {F F' : List Addr} {H H' : Hp}
theorem EnvR.mono (gr : Grow F H F' H') (G : Good F H) : ∀ {e : Env2} {s : St}, EnvR g F H e s → EnvR g F' H' e s
  | _, _, .nil => .nil
  | _, _, .cons .none t => .cons .none (EnvR.mono gr G t)
  | _, _, .cons (.some r) t => .cons (.some (r.mono gr G)) (EnvR.mono gr G t)
theorem EnvR.get : ∀ {e : Env2} {s : St} {n : Nat} {d : D}, EnvR g F H e s → e[n]? = some (some d) → ∃ v, s[n]? = some (some v) ∧ Rep g F H d v
  | _, _, _, _, .nil, e => by simp at e
  | _, _, 0, _, .cons h _, e => by
    simp at e; subst e
    cases h with | some r => exact ⟨_, rfl, r⟩
  | _, _, n + 1, d, .cons _ t, e => by
    obtain ⟨v, h1, h2⟩ := EnvR.get (n := n) (d := d) t (by simpa using e)
    exact ⟨v, by simpa using h1, h2⟩
theorem EnvR.set {d : D} {v : V} (r : Rep g F H d v) : ∀ {e : Env2} {s : St} (n : Nat), EnvR g F H e s → EnvR g F H (e.set n (some d)) (s.set n (some v))
  | _, _, _, .nil => .nil
  | _, _, 0, .cons _ t => .cons (.some r) t
  | _, _, n + 1, .cons h t => .cons h (EnvR.set r n t)
theorem EnvR.unset : ∀ {e : Env2} {s : St} (n : Nat) (x : Option V), EnvR g F H e s → EnvR g F H (e.set n none) (s.set n x)
  | _, _, _, _, .nil => .nil
  | _, _, 0, _, .cons _ t => .cons .none t
  | _, _, n + 1, x, .cons h t => .cons h (EnvR.unset n x t)
theorem EnvR.length : ∀ {e : Env2} {s : St}, EnvR g F H e s → e.length = s.length
  | _, _, .nil => rfl
  | _, _, .cons _ t => by simp [EnvR.length t]
end
end T2
namespace T2
open PySem L2

/-! ### what is wanted behind a piece of code -/
/-- an exception's own fields -/
inductive XRep (g : Wd) (F : List Addr) (H : Hp) : List Str → List D → Option Addr → Prop
  | no : XRep g F H [] [] none
  | so {ns : List Str} {ds : List D} {vs : List V} {dd : Addr} (h : H dd = some (.xd (ns.zip vs))) (hne : ns ≠ []) (hl : ns.length = vs.length) (r : Reps g F H ds vs) : XRep g F H ns ds (some dd)
theorem XRep.mono {g : Wd} {F F' : List Addr} {H H' : Hp} {ns : List Str} {ds : List D} {d : Option Addr} (gr : Grow F H F' H') (G : Good F H) (x : XRep g F H ns ds d) : XRep g F' H' ns ds d := by
  cases x with
  | no => exact .no
  | so h hne hl r => exact .so (gr.keep _ _ h (G.notin h (by intro z; exact z))) hne hl (r.mono gr G)
/-- slots that hold a known thing (an exception, within its suite); the fields of such -/
structure PinD where
  xs : List (Nat × Addr)
  xr : List (List Str × List D × Option Addr)
/-- what is wished of an exception; what is pinned -/
structure WY where
  w : WX
  p : PinD
def Pin (xs : List (Nat × Addr)) (σ : St) : Prop := ∀ p ∈ xs, σ[p.1]? = some (some (.ref p.2))
theorem pin_nil {σ : St} : Pin [] σ := fun p h => by simp at h
theorem Pin.set {xs : List (Nat × Addr)} {σ : St} {i : Nat} {v : Option V} (h : Pin xs σ) (hi : ∀ p ∈ xs, i ≠ p.1) : Pin xs (σ.set i v) := fun p hp => by
  rw [List.getElem?_set_ne (hi p hp)]; exact h p hp
def Xrs (g : Wd) (l : List (List Str × List D × Option Addr)) (F : List Addr) (H : Hp) : Prop := ∀ t ∈ l, XRep g F H t.1 t.2.1 t.2.2
theorem xrs_nil {g : Wd} {F : List Addr} {H : Hp} : Xrs g [] F H := fun p h => by simp at h
theorem Xrs.mono {g : Wd} {F F' : List Addr} {H H' : Hp} {l : List (List Str × List D × Option Addr)} (x : Xrs g l F H) (gr : Grow F H F' H') (G : Good F H) : Xrs g l F' H' := fun t ht => (x t ht).mono gr G
structure RelS (g : Wd) (p : PinD) (F : List Addr) (e : Env2) (M : MH) (σ : St) (H : Hp) : Prop where
  m : RelM g F M H
  e : EnvR g F H e σ
  x : Pin p.xs σ
  y : Xrs g p.xr F H
abbrev RAT (A B : Type) := Wd → List Addr → Hp → A → B → Prop
def post {A B : Type} (g : Wd) (RA : RAT A B) (W : WX) (F : List Addr) (σ : St) (H : Hp) (r : Res A) (Q : B → Hp → Prop) : Prop := match r with
  | .ok a M => ∀ F' H' b, Grow F H F' H' → RelM g F' M H' → RA g F' H' a b → Q b H'
  | .exc c ns ds M => ∀ F' H' d, Grow F H F' H' → RelM g F' M H' → XRep g F' H' ns ds d → W (.ref (g.ca c)) d σ H'
  | .bad => False
theorem post.up {A B : Type} {g : Wd} {RA : RAT A B} {W : WX} {F F1 : List Addr} {σ : St} {H H1 : Hp} {r : Res A} {Q : B → Hp → Prop} (gr : Grow F H F1 H1) (h : post g RA W F σ H r Q) : post g RA W F1 σ H1 r Q := by
  cases r with
  | ok a M => exact fun F' H' b g1 R ra => h F' H' b (gr.trans g1) R ra
  | exc c ns ds M => exact fun F' H' d g1 R x => h F' H' d (gr.trans g1) R x
  | bad => exact h
/-- one step, then the rest -/
theorem post.bind {A B A' B' : Type} {g : Wd} {RA : RAT A B} {RA' : RAT A' B'} {W : WX} {F : List Addr} {σ : St} {H : Hp} {r : Res A} {k : A → MH → Res A'} {Q : B' → Hp → Prop} {R : B → Hp → Prop} (h : post g RA' W F σ H (r.bind k) Q)
    (f : ∀ a M F' H' b, r = .ok a M → Grow F H F' H' → RelM g F' M H' → RA g F' H' a b → post g RA' W F' σ H' (k a M) Q → R b H') : post g RA W F σ H r R := by
  cases r with
  | ok a M => exact fun F' H' b g1 Rm ra => f a M F' H' b rfl g1 Rm ra (h.up g1)
  | exc c ns ds M => exact fun F' H' d g1 Rm x => h F' H' d g1 Rm x
  | bad => exact h
/-- the value alone -/
theorem post.ok {A B : Type} {g : Wd} {RA : RAT A B} {W : WX} {F F' : List Addr} {σ : St} {H H' : Hp} {a : A} {M : MH} {b : B} {Q : B → Hp → Prop} (h : post g RA W F σ H (.ok a M) Q) (gr : Grow F H F' H') (R : RelM g F' M H') (ra : RA g F' H' a b) : Q b H' := h F' H' b gr R ra
theorem post.here {A B : Type} {g : Wd} {RA : RAT A B} {W : WX} {F : List Addr} {σ : St} {H : Hp} {a : A} {M : MH} {b : B} {Q : B → Hp → Prop} (h : post g RA W F σ H (.ok a M) Q) (R : RelM g F M H) (ra : RA g F H a b) : Q b H := h F H b .same R ra

abbrev rD : RAT D V := fun g F H d v => Rep g F H d v
abbrev rDs : RAT (List D) (List V) := fun g F H d v => Reps g F H d v
abbrev rB : RAT Bool Bool := fun _ _ _ a b => a = b
abbrev EM := Env2 → MH → Res D
abbrev BM := Env2 → MH → Res Bool
abbrev AM := Env2 → MH → Res (List D)
abbrev SM := Env2 → MH → SR
def tG {A B : Type} (g : Wd) (RA : RAT A B) (W : WY) (m : Env2 → MH → Res A) : St → Hp → (B → Hp → Prop) → Prop := fun σ H Q => ∃ F e M, RelS g W.p F e M σ H ∧ post g RA W.w F σ H (m e M) Q
abbrev tD (g : Wd) (W : WY) (m : EM) : TE := tG g rD W m
abbrev tB2 (g : Wd) (W : WY) (m : BM) : TT := tG g rB W m
abbrev tA (g : Wd) (W : WY) (m : AM) : TA := tG g rDs W m
def postS (g : Wd) (W : WY) (F : List Addr) (H : Hp) (r : SR) (E : Ends) : Prop := match r with
  | .nx e M => ∀ F' H' σ', Grow F H F' H' → RelM g F' M H' → EnvR g F' H' e σ' → Pin W.p.xs σ' → E.nx σ' H'
  | .rt d M => ∀ F' H' v, Grow F H F' H' → RelM g F' M H' → Rep g F' H' d v → E.rt v H'
  | .bk e M => ∀ F' H' σ', Grow F H F' H' → RelM g F' M H' → EnvR g F' H' e σ' → Pin W.p.xs σ' → E.bk σ' H'
  | .ct e M => ∀ F' H' σ', Grow F H F' H' → RelM g F' M H' → EnvR g F' H' e σ' → Pin W.p.xs σ' → E.ct σ' H'
  | .ex c ns ds e M => ∀ F' H' σ' d, Grow F H F' H' → RelM g F' M H' → EnvR g F' H' e σ' → XRep g F' H' ns ds d → W.w (.ref (g.ca c)) d σ' H'
  | .bad => False
theorem postS.up {g : Wd} {W : WY} {F F1 : List Addr} {H H1 : Hp} {r : SR} {E : Ends} (gr : Grow F H F1 H1) (h : postS g W F H r E) : postS g W F1 H1 r E := by
  cases r with
  | nx e M => exact fun F' H' b g1 R x => h F' H' b (gr.trans g1) R x
  | rt e M => exact fun F' H' b g1 R x => h F' H' b (gr.trans g1) R x
  | bk e M => exact fun F' H' b g1 R x => h F' H' b (gr.trans g1) R x
  | ct e M => exact fun F' H' b g1 R x => h F' H' b (gr.trans g1) R x
  | ex c ns ds e M => exact fun F' H' b d g1 R x y => h F' H' b d (gr.trans g1) R x y
  | bad => exact h
def tS (g : Wd) (W : WY) (m : SM) : TS := fun E σ H => ∃ F e M, RelS g W.p F e M σ H ∧ postS g W F H (m e M) E

theorem RelS.up {g : Wd} {p : PinD} {F F' : List Addr} {e : Env2} {M M' : MH} {σ : St} {H H' : Hp} (R : RelS g p F e M σ H) (gr : Grow F H F' H') (Rm : RelM g F' M' H') : RelS g p F' e M' σ H' := ⟨Rm, R.e.mono gr R.m.good, R.x, R.y.mono gr R.m.good⟩
/-- an expression's value, then a statement -/
def Res.toS (r : Res D) (e : Env2) (k : D → MH → SR) : SR := match r with
  | .ok a M => k a M
  | .exc c ns ds M => .ex c ns ds e M
  | .bad => .bad
def Res.toSB (r : Res Bool) (e : Env2) (k : Bool → MH → SR) : SR := match r with
  | .ok a M => k a M
  | .exc c ns ds M => .ex c ns ds e M
  | .bad => .bad
theorem postS.step {g : Wd} {W : WY} {F : List Addr} {σ : St} {e : Env2} {M0 : MH} {H : Hp} {r : Res D} {k : D → MH → SR} {E : Ends} {R : V → Hp → Prop} (RS : RelS g W.p F e M0 σ H) (h : postS g W F H (r.toS e k) E)
    (f : ∀ a M F' H' v, r = .ok a M → Grow F H F' H' → RelM g F' M H' → Rep g F' H' a v → postS g W F' H' (k a M) E → R v H') : post g rD W.w F σ H r R := by
  cases r with
  | ok a M => exact fun F' H' b g1 Rm ra => f a M F' H' b rfl g1 Rm ra (h.up g1)
  | exc c ns ds M => exact fun F' H' d g1 Rm x => h F' H' σ d g1 Rm (RS.e.mono g1 RS.m.good) x
  | bad => exact h
theorem postS.stepB {g : Wd} {W : WY} {F : List Addr} {σ : St} {e : Env2} {M0 : MH} {H : Hp} {r : Res Bool} {k : Bool → MH → SR} {E : Ends} {R : Bool → Hp → Prop} (RS : RelS g W.p F e M0 σ H) (h : postS g W F H (r.toSB e k) E)
    (f : ∀ a M F' H', r = .ok a M → Grow F H F' H' → RelM g F' M H' → postS g W F' H' (k a M) E → R a H') : post g rB W.w F σ H r R := by
  cases r with
  | ok a M => exact fun F' H' b g1 Rm ra => by cases ra; exact f a M F' H' rfl g1 Rm (h.up g1)
  | exc c ns ds M => exact fun F' H' d g1 Rm x => h F' H' σ d g1 Rm (RS.e.mono g1 RS.m.good) x
  | bad => exact h

/-! ### readings made weaker -/
theorem pe_imp {X : Cx} {e : Expr} {t t' : TE} (h : PE X e t) (i : ∀ σ H Q, t' σ H Q → t σ H Q) : PE X e t' := ⟨fun pins s σ H Q I q => h.run pins s σ H Q I (i σ H Q q)⟩
theorem pt_imp {X : Cx} {e : Expr} {t t' : TT} (h : PT X e t) (i : ∀ σ H Q, t' σ H Q → t σ H Q) : PT X e t' := ⟨fun pins s σ H Q I q => h.run pins s σ H Q I (i σ H Q q)⟩
theorem pw_imp {X : Cx} {e : Expr} {t t' : TT} (h : PW X e t) (i : ∀ σ H Q, t' σ H Q → t σ H Q) : PW X e t' := ⟨fun whole pins s σ H Q I q => h.run whole pins s σ H Q I (i σ H Q q)⟩
theorem pa_imp {X : Cx} {e : List Expr} {t t' : TA} (h : PA X e t) (i : ∀ σ H Q, t' σ H Q → t σ H Q) : PA X e t' := ⟨fun pos pins s σ H Q I q => h.run pos pins s σ H Q I (i σ H Q q)⟩
theorem ps_imp {X : Cx} {e : Stmt} {t t' : TS} (h : PS X e t) (i : ∀ E σ H, t' E σ H → t E σ H) : PS X e t' := ⟨fun pins s σ H E I q => h.run pins s σ H E I (i E σ H q)⟩
theorem pss_imp {X : Cx} {e : List Stmt} {t t' : TS} (h : PSs X e t) (i : ∀ E σ H, t' E σ H → t E σ H) : PSs X e t' := ⟨fun pins s σ H E I q => h.run pins s σ H E I (i E σ H q)⟩

/-! ### expressions -/
def eVar (n : Nat) : EM := fun e M => match e[n]? with
  | some (some d) => .ok d M
  | _ => .bad
def eC (d : D) : EM := fun _ M => .ok d M
def eUn (f : D → MH → Res D) (a : EM) : EM := fun e M => (a e M).bind f
def eBin (f : D → D → MH → Res D) (a b : EM) : EM := fun e M => (a e M).bind fun x M1 => (b e M1).bind fun y M2 => f x y M2
def eNil : AM := fun _ M => .ok [] M
def eCons (a : EM) (b : AM) : AM := fun e M => (a e M).bind fun x M1 => (b e M1).bind fun xs M2 => .ok (x :: xs) M2
def eArgs (f : List D → MH → Res D) (a : AM) : EM := fun e M => (a e M).bind f
def eTup (a : AM) : EM := eArgs (fun ds M => if ds.length ≤ 1000 then .ok (.tup ds) M else .bad) a
def eLst (a : AM) : EM := eArgs (fun ds M => if ds.length ≤ 1000 then .ok (.ref M.length) (M ++ [.lst ds]) else .bad) a
def eFro (a : AM) : EM := eArgs (fun ds M => if ds.length ≤ 1000 then .ok (.fro ds) M else .bad) a
/-- an operation on values, simulated -/
def Sim2 (g : Wd) (f : D → D → MH → Res D) (r : R2) : Prop := ∀ (F : List Addr) (M : MH) (σ : St) (H : Hp) (W : WX) (x y : D) (v w : V) (Q : VK), RelM g F M H → Rep g F H x v → Rep g F H y w → post g rD W F σ H (f x y M) Q → r v w H Q
def Sim1 (g : Wd) (f : D → MH → Res D) (r : V → Hp → VK → Prop) : Prop := ∀ (F : List Addr) (M : MH) (σ : St) (H : Hp) (W : WX) (x : D) (v : V) (Q : VK), RelM g F M H → Rep g F H x v → post g rD W F σ H (f x M) Q → r v H Q
def SimA (g : Wd) (f : List D → MH → Res D) (r : List V → Hp → VK → Prop) : Prop := ∀ (F : List Addr) (M : MH) (σ : St) (H : Hp) (W : WX) (x : List D) (v : List V) (Q : VK), RelM g F M H → Reps g F H x v → post g rD W F σ H (f x M) Q → r v H Q
section
variable {X : Cx} {g : Wd} {W : WY} {a b : Expr} {pos p : Pos} {m1 m2 : EM} {ma : AM} {es : List Expr}
theorem de_var (n : Nat) {x : Str} (h : PE X (.Name x p) (tVar n)) : PE X (.Name x p) (tD g W (eVar n)) := pe_imp h fun σ H Q ⟨F, e, M, RS, q⟩ => by
  unfold eVar at q
  split at q
  · rename_i d hd
    obtain ⟨v, hv, r⟩ := RS.e.get hd
    exact ⟨v, hv, q.here RS.m r⟩
  · exact q.elim
theorem de_v (i : Nat) {x : Str} (hN : X.N[i]? = some x := by rfl) (hv : Vis X.env.scope x := by first | exact Or.inl rfl | exact Or.inr (Or.inl rfl) | exact Or.inr (Or.inr rfl)) (hd : (x == ("__debug__" : Str)) = false := by decide) (hcd : (x == ("__classdict__" : Str)) = false := by decide) :
    PE X (.Name x p) (tD g W (eVar i)) := de_var i (pe_var hN hv hd hcd)
theorem de_c {e : Expr} {d : D} {v : V} (h : PE X e (tC v)) (r : ∀ F H, Rep g F H d v) : PE X e (tD g W (eC d)) := pe_imp h fun σ H Q ⟨F, e, M, RS, q⟩ => q.here RS.m (r F H)
theorem de_int {i : Int} {j : Nat} : PE X (.Constant (.int i) j p) (tD g W (eC (.int i))) := de_c pe_int fun _ _ => .int i
theorem de_str {x : Str} {j : Nat} : PE X (.Constant (.str x) j p) (tD g W (eC (.str x))) := de_c pe_str fun _ _ => .str x
theorem de_bl {x : Bool} {j : Nat} : PE X (.Constant (.bool x) j p) (tD g W (eC (.bl x))) := de_c pe_bl fun _ _ => .bl x
theorem de_non {j : Nat} : PE X (.Constant .none j p) (tD g W (eC .non)) := de_c pe_non fun _ _ => .non
theorem bin_imp {f : D → D → MH → Res D} {r : R2} (hs : Sim2 g f r) {σ : St} {H : Hp} {Q : VK} (q : tD g W (eBin f m1 m2) σ H Q) : tOp r (tD g W m1) (tD g W m2) σ H Q := by
  obtain ⟨F, e, M, RS, q⟩ := q
  refine ⟨F, e, M, RS, q.bind fun x M1 F1 H1 v e1 g1 R1 rx q1 => ?_⟩
  refine ⟨F1, e, M1, RS.up g1 R1, q1.bind fun y M2 F2 H2 w e2 g2 R2 ry q2 => ?_⟩
  exact hs F2 M2 σ H2 W.w x y v w Q R2 (rx.mono g2 R1.good) ry q2
theorem un_imp {f : D → MH → Res D} {r : V → Hp → VK → Prop} (hs : Sim1 g f r) {σ : St} {H : Hp} {Q : VK} (q : tD g W (eUn f m1) σ H Q) : tUn r (tD g W m1) σ H Q := by
  obtain ⟨F, e, M, RS, q⟩ := q
  exact ⟨F, e, M, RS, q.bind fun x M1 F1 H1 v e1 g1 R1 rx q1 => hs F1 M1 σ H1 W.w x v Q R1 rx q1⟩
theorem de_op {op : Operator} {f : D → D → MH → Res D} {r : R2} (ho : OpR X (binaryOp op) r) (hs : Sim2 g f r) (ha : PE X a (tD g W m1)) (hb : PE X b (tD g W m2)) : PE X (.BinOp a op b pos) (tD g W (eBin f m1 m2)) :=
  pe_imp (pe_op ho ha hb) fun σ H Q q => bin_imp hs q
theorem de_cmp {op : CmpOp} {f : D → D → MH → Res D} {r : R2} (ho : OpR X (compareOp op) r) (hs : Sim2 g f r) (ha : PE X a (tD g W m1)) (hb : PE X b (tD g W m2)) (hm : behindInMarks op b = false) : PE X (.Compare a [op] [b] pos) (tD g W (eBin f m1 m2)) :=
  pe_imp (pe_cmpR ho ha hb hm) fun σ H Q q => bin_imp hs q
theorem de_nil : PA X [] (tA g W eNil) := pa_imp pa_nil fun σ H Q ⟨F, e, M, RS, q⟩ => q.here RS.m .nil
theorem de_cons (ha : PE X a (tD g W m1)) (hb : PA X es (tA g W ma)) (hs : starEach (a :: es) X.env = (false, eval a X.env) :: starEach es X.env := by rfl) : PA X (a :: es) (tA g W (eCons m1 ma)) :=
  pa_imp (pa_cons ha hb hs) fun σ H Q ⟨F, e, M, RS, q⟩ => by
    refine ⟨F, e, M, RS, q.bind fun x M1 F1 H1 v e1 g1 R1 rx q1 => ?_⟩
    refine ⟨F1, e, M1, RS.up g1 R1, q1.bind fun y M2 F2 H2 w e2 g2 R2 ry q2 => ?_⟩
    exact q2.here R2 (.cons (rx.mono g2 R1.good) ry)
theorem args_imp {f : List D → MH → Res D} {r : List V → Hp → VK → Prop} (hs : SimA g f r) {σ : St} {H : Hp} {Q : VK} (q : tD g W (eArgs f ma) σ H Q) : tA g W ma σ H fun vs H1 => r vs H1 Q := by
  obtain ⟨F, e, M, RS, q⟩ := q
  exact ⟨F, e, M, RS, q.bind fun x M1 F1 H1 v e1 g1 R1 rx q1 => hs F1 M1 σ H1 W.w x v Q R1 rx q1⟩
theorem small {n : Nat} (h : n ≤ 1000) : n ≤ sizeLine := Nat.le_trans h (by decide)
theorem de_tup {x1} (h : PA X es (tA g W ma)) : PE X (.Tuple es x1 pos) (tD g W (eTup ma)) :=
  pe_imp (pe_tup h) fun σ H Q q => args_imp (r := fun xs H1 Q => xs.length ≤ sizeLine ∧ ∀ p, H1 p = none → Q (.ref p) (upd H1 p (.tup xs))) (fun F M σ H W ds vs Q R r q => by
    split at q
    · rename_i hl
      refine ⟨small (by rw [← r.length]; exact hl), fun p hp => ?_⟩
      obtain ⟨g1, R1⟩ := R.still (o := .tup vs) hp
      exact q.ok g1 R1 (.tup (SqT.of upd_same) (r.mono g1 R.good))
    · exact q.elim) q
theorem de_lst (h : PA X es (tA g W ma)) : PE X (.List es pos) (tD g W (eLst ma)) :=
  pe_imp (pe_lst h) fun σ H Q q => args_imp (r := fun xs H1 Q => xs.length ≤ sizeLine ∧ ∀ p, H1 p = none → Q (.ref p) (upd H1 p (.lst xs))) (fun F M σ H W ds vs Q R r q => by
    split at q
    · rename_i hl
      refine ⟨small (by rw [← r.length]; exact hl), fun p hp => ?_⟩
      obtain ⟨g1, R1⟩ := R.laid (m := .lst ds) (o := .lst vs) hp fun F' H' gr => .lst (r.mono gr R.good)
      exact q.ok g1 R1 (.ref (by rw [← R.len]; simp))
    · exact q.elim) q
theorem de_fro (h : PA X es (tA g W ma)) : PE X (.List es pos) (tD g W (eFro ma)) :=
  pe_imp (pe_lst h) fun σ H Q q => args_imp (r := fun xs H1 Q => xs.length ≤ sizeLine ∧ ∀ p, H1 p = none → Q (.ref p) (upd H1 p (.lst xs))) (fun F M σ H W ds vs Q R r q => by
    split at q
    · rename_i hl
      refine ⟨small (by rw [← r.length]; exact hl), fun p hp => ?_⟩
      obtain ⟨g1, R1⟩ := R.still (o := .lst vs) hp
      exact q.ok g1 R1 (.fro (.inl ⟨upd_same, R.notin hp⟩) (r.mono g1 R.good))
    · exact q.elim) q
end
end T2
namespace T2
open PySem L2

/-! ### tests -/
def asB (d : D) (M : MH) : Res Bool := match d with
  | .bl b => .ok b M
  | _ => .bad
def bVal (m : EM) : BM := fun e M => (m e M).bind asB
def bAnd (a b : BM) : BM := fun e M => (a e M).bind fun c M1 => if c = true then b e M1 else .ok false M1
def bOr (a b : BM) : BM := fun e M => (a e M).bind fun c M1 => if c = true then .ok true M1 else b e M1
def bNot (a : BM) : BM := fun e M => (a e M).bind fun c M1 => .ok (!c) M1
def eAnd (a b : EM) : EM := fun e M => (a e M).bind fun d M1 => match d with
  | .bl true => b e M1
  | .bl false => .ok (.bl false) M1
  | _ => .bad
def eOr (a b : EM) : EM := fun e M => (a e M).bind fun d M1 => match d with
  | .bl false => b e M1
  | .bl true => .ok (.bl true) M1
  | _ => .bad
def eNot (a : EM) : EM := fun e M => (a e M).bind fun d M1 => match d with
  | .bl b => .ok (.bl (!b)) M1
  | _ => .bad
def eIf (c : BM) (a b : EM) : EM := fun e M => (c e M).bind fun k M1 => if k = true then a e M1 else b e M1
section
variable {X : Cx} {g : Wd} {W : WY} {a b c : Expr} {pos p : Pos} {m1 m2 : EM} {ma : AM} {es : List Expr} {rest : List Expr} {b1 b2 : BM}
theorem asB_post {F : List Addr} {σ : St} {H : Hp} {d : D} {M : MH} {v : V} {Q : Bool → Hp → Prop} (R : RelM g F M H) (r : Rep g F H d v) (q : post g rB W.w F σ H (asB d M) Q) : ∃ k, v = .bl k ∧ Q k H := by
  cases r with
  | bl k => exact ⟨k, rfl, q.here R rfl⟩
  | _ => exact q.elim
theorem val_imp {σ : St} {H : Hp} {Q : Bool → Hp → Prop} (q : tB2 g W (bVal m1) σ H Q) : tD g W m1 σ H fun v H' => ∃ k, v = .bl k ∧ Q k H' := by
  obtain ⟨F, e, M, RS, q⟩ := q
  exact ⟨F, e, M, RS, q.bind fun x M1 F1 H1 v e1 g1 R1 rx q1 => asB_post R1 rx q1⟩
theorem dt_val (h : PE X a (tD g W m1)) (he : ∀ whole, isTrue a X.env whole = (do let v ← whole; standAt a.pos; holding [v] (truthy v)) := by intro _; rfl) : PT X a (tB2 g W (bVal m1)) := pt_imp (pt_val h he) fun σ H Q q => val_imp q
theorem test_imp {f : D → D → MH → Res D} {r : R2} (hs : Sim2 g f r) {σ : St} {H : Hp} {Q : Bool → Hp → Prop} (q : tB2 g W (bVal (eBin f m1 m2)) σ H Q) : tTest (tOp r (tD g W m1) (tD g W m2)) σ H Q := bin_imp hs (val_imp q)
theorem dt_cmp {op : CmpOp} {f : D → D → MH → Res D} {r : R2} (ho : OpR X (compareOp op) r) (hs : Sim2 g f r) (ha : PE X a (tD g W m1)) (hb : PE X b (tD g W m2)) (hm : behindInMarks op b = false) : PT X (.Compare a [op] [b] pos) (tB2 g W (bVal (eBin f m1 m2))) :=
  pt_imp (pt_cmpR ho ha hb hm) fun σ H Q q => test_imp hs q
theorem dw_and1 (ha : PT X a (tB2 g W b1)) : PW X (.BoolOp .And [a] pos) (tB2 g W b1) := pw_and1 ha
theorem dw_or1 (ha : PT X a (tB2 g W b1)) : PW X (.BoolOp .Or [a] pos) (tB2 g W b1) := pw_or1 ha
theorem dw_and (ha : PT X a (tB2 g W b1)) (hb : PW X (.BoolOp .And (b :: rest) pos) (tB2 g W b2)) : PW X (.BoolOp .And (a :: b :: rest) pos) (tB2 g W (bAnd b1 b2)) := pw_imp (pw_and ha hb) fun σ H Q ⟨F, e, M, RS, q⟩ =>
  ⟨F, e, M, RS, q.bind fun x M1 F1 H1 v e1 g1 R1 rx q1 => by
    cases rx
    by_cases h : x = true
    · rw [if_pos h] at q1; rw [if_pos h]; exact ⟨F1, e, M1, RS.up g1 R1, q1⟩
    · rw [if_neg h] at q1; rw [if_neg h]; exact q1.here R1 rfl⟩
theorem dw_or (ha : PT X a (tB2 g W b1)) (hb : PW X (.BoolOp .Or (b :: rest) pos) (tB2 g W b2)) : PW X (.BoolOp .Or (a :: b :: rest) pos) (tB2 g W (bOr b1 b2)) := pw_imp (pw_or ha hb) fun σ H Q ⟨F, e, M, RS, q⟩ =>
  ⟨F, e, M, RS, q.bind fun x M1 F1 H1 v e1 g1 R1 rx q1 => by
    cases rx
    by_cases h : x = true
    · rw [if_pos h] at q1; rw [if_pos h]; exact q1.here R1 rfl
    · rw [if_neg h] at q1; rw [if_neg h]; exact ⟨F1, e, M1, RS.up g1 R1, q1⟩⟩
theorem dt_w (h : PW X a (tB2 g W b1)) : PT X a (tB2 g W b1) := h.pt
theorem dt_not (ha : PT X a (tB2 g W b1)) : PT X (.UnaryOp .Not a pos) (tB2 g W (bNot b1)) := pt_imp (pt_not ha) fun σ H Q ⟨F, e, M, RS, q⟩ =>
  ⟨F, e, M, RS, q.bind fun x M1 F1 H1 v e1 g1 R1 rx q1 => by cases rx; exact q1.here R1 rfl⟩
theorem de_and (ha : PE X a (tD g W m1)) (hb : PE X (.BoolOp .And (b :: rest) pos) (tD g W m2)) : PE X (.BoolOp .And (a :: b :: rest) pos) (tD g W (eAnd m1 m2)) := pe_imp (pe_and ha hb) fun σ H Q ⟨F, e, M, RS, q⟩ =>
  ⟨F, e, M, RS, q.bind fun x M1 F1 H1 v e1 g1 R1 rx q1 => by
    cases rx with
    | bl k =>
      refine ⟨k, rfl, ?_⟩
      cases k with
      | true => exact ⟨F1, e, M1, RS.up g1 R1, q1⟩
      | false => exact q1.here R1 (.bl false)
    | _ => exact q1.elim⟩
theorem de_or (ha : PE X a (tD g W m1)) (hb : PE X (.BoolOp .Or (b :: rest) pos) (tD g W m2)) : PE X (.BoolOp .Or (a :: b :: rest) pos) (tD g W (eOr m1 m2)) := pe_imp (pe_or ha hb) fun σ H Q ⟨F, e, M, RS, q⟩ =>
  ⟨F, e, M, RS, q.bind fun x M1 F1 H1 v e1 g1 R1 rx q1 => by
    cases rx with
    | bl k =>
      refine ⟨k, rfl, ?_⟩
      cases k with
      | true => exact q1.here R1 (.bl true)
      | false => exact ⟨F1, e, M1, RS.up g1 R1, q1⟩
    | _ => exact q1.elim⟩
theorem de_one {op : BoolOp} (ha : PE X a (tD g W m1)) : PE X (.BoolOp op [a] pos) (tD g W m1) := pe_one ha
theorem de_not (ha : PE X a (tD g W m1)) : PE X (.UnaryOp .Not a pos) (tD g W (eNot m1)) := pe_imp (pe_not ha) fun σ H Q ⟨F, e, M, RS, q⟩ =>
  ⟨F, e, M, RS, q.bind fun x M1 F1 H1 v e1 g1 R1 rx q1 => by
    cases rx with
    | bl k => exact ⟨k, rfl, q1.here R1 (.bl _)⟩
    | _ => exact q1.elim⟩
theorem de_if (hc : PT X c (tB2 g W b1)) (ha : PE X a (tD g W m1)) (hb : PE X b (tD g W m2)) : PE X (.IfExp c a b pos) (tD g W (eIf b1 m1 m2)) := pe_imp (pe_ifExp hc ha hb) fun σ H Q ⟨F, e, M, RS, q⟩ =>
  ⟨F, e, M, RS, q.bind fun x M1 F1 H1 v e1 g1 R1 rx q1 => by
    cases rx
    by_cases h : x = true
    · rw [if_pos h] at q1; rw [if_pos h]; exact ⟨F1, e, M1, RS.up g1 R1, q1⟩
    · rw [if_neg h] at q1; rw [if_neg h]; exact ⟨F1, e, M1, RS.up g1 R1, q1⟩⟩
end

/-! ### statements -/
def sSeq (a b : SM) : SM := fun e M => match a e M with
  | .nx e1 M1 => b e1 M1
  | r => r
def sNil : SM := fun e M => .nx e M
def sSet (i : Nat) (m : EM) : SM := fun e M => (m e M).toS e fun d M1 => .nx (e.set i (some d)) M1
def sRet (m : EM) : SM := fun e M => (m e M).toS e fun d M1 => .rt d M1
def sRetN : SM := fun _ M => .rt .non M
def sDo (m : EM) : SM := fun e M => (m e M).toS e fun _ M1 => .nx e M1
def sIf (c : BM) (a b : SM) : SM := fun e M => (c e M).toSB e fun k M1 => if k = true then a e M1 else b e M1
def sBad : SM := fun _ _ => .bad
abbrev TgM := D → Env2 → Option Env2
def tgName (i : Nat) : TgM := fun d e => some (e.set i (some d))
def forV (tg : TgM) (body : SM) : List D → Env2 → MH → SR
  | [], e, M => .nx e M
  | x :: xs, e, M => match tg x e with
    | none => .bad
    | some e1 => match body e1 M with
      | .nx e2 M2 => forV tg body xs e2 M2
      | .ct e2 M2 => forV tg body xs e2 M2
      | .bk e2 M2 => .nx e2 M2
      | .rt d M2 => .rt d M2
      | .ex c ns ds e2 M2 => .ex c ns ds e2 M2
      | .bad => .bad
/-- a list that may change while it is walked: k turns at most -/
def forL (tg : TgM) (body : SM) (n : Nat) : Nat → Nat → Env2 → MH → SR
  | 0, i, e, M => match M[n]? with
    | some (.lst ds) => if ds.length ≤ i then .nx e M else .bad
    | _ => .bad
  | k + 1, i, e, M => match M[n]? with
    | some (.lst ds) => match ds[i]? with
      | none => .nx e M
      | some x => match tg x e with
        | none => .bad
        | some e1 => match body e1 M with
          | .nx e2 M2 => forL tg body n k (i + 1) e2 M2
          | .ct e2 M2 => forL tg body n k (i + 1) e2 M2
          | .bk e2 M2 => .nx e2 M2
          | .rt d M2 => .rt d M2
          | .ex c ns ds e2 M2 => .ex c ns ds e2 M2
          | .bad => .bad
    | _ => .bad
inductive IV where
  | vals (ds : List D) | live (n : Nat)
def sForI (it : Env2 → MH → Res IV) (tg : TgM) (body : SM) : SM := fun e M => match it e M with
  | .ok (.vals ds) M1 => forV tg body ds e M1
  | .ok (.live n) M1 => match M1[n]? with
    | some (.lst ds) => forL tg body n ds.length 0 e M1
    | _ => .bad
  | .exc c ns ds M1 => .ex c ns ds e M1
  | .bad => .bad
/-- what a for walks: a tuple, a list -/
def ivOf (d : D) (M : MH) : Res IV := match d with
  | .tup ds => .ok (.vals ds) M
  | .fro ds => .ok (.vals ds) M
  | .ref n => .ok (.live n) M
  | _ => .bad
def iSeq (m : EM) : Env2 → MH → Res IV := fun e M => (m e M).bind ivOf
def rangeD (lo : Int) (n : Nat) : List D := (List.range n).map fun i => .int (lo + (i : Nat))
def iRange1 (a : EM) : Env2 → MH → Res IV := fun e M => (a e M).bind fun d M1 => match d with
  | .int j => if -(2 ^ 62) ≤ j ∧ j < 2 ^ 62 then .ok (.vals (rangeD 0 j.toNat)) M1 else .bad
  | _ => .bad
def iRange2 (a b : EM) : Env2 → MH → Res IV := fun e M => (a e M).bind fun d M1 => (b e M1).bind fun d2 M2 => match d, d2 with
  | .int i, .int j => if -(2 ^ 62) ≤ i ∧ i < 2 ^ 62 ∧ -(2 ^ 62) ≤ j ∧ j < 2 ^ 62 then .ok (.vals (rangeD i (j - i).toNat)) M2 else .bad
  | _, _ => .bad
section
variable {X : Cx} {g : Wd} {W : WY} {a b c : Expr} {pos p : Pos} {m1 m2 : EM} {ma : AM} {es : List Expr} {b1 : BM} {s1 s2 : SM} {st : Stmt} {sts : List Stmt}
theorem ds_nil : PSs X [] (tS g W sNil) := pss_imp pss_nil fun E σ H ⟨F, e, M, RS, q⟩ => q F H σ .same RS.m RS.e RS.x
theorem seq_imp {E : Ends} {σ : St} {H : Hp} (h : tS g W (sSeq s1 s2) E σ H) : tSeq (tS g W s1) (tS g W s2) E σ H := by
  obtain ⟨F, e, M, RS, q⟩ := h
  refine ⟨F, e, M, RS, ?_⟩
  unfold sSeq at q
  cases h : s1 e M with
  | nx e1 M1 =>
    rw [h] at q
    exact fun F1 H1 σ1 g1 R1 E1 X1 => ⟨F1, e1, M1, ⟨R1, E1, X1, RS.y.mono g1 RS.m.good⟩, q.up g1⟩
  | rt d M1 => rw [h] at q; exact q
  | bk e1 M1 => rw [h] at q; exact q
  | ct e1 M1 => rw [h] at q; exact q
  | ex c ns ds e1 M1 => rw [h] at q; exact q
  | bad => rw [h] at q; exact q
theorem ds_cons (h1 : PS X st (tS g W s1)) (h2 : PSs X sts (tS g W s2)) : PSs X (st :: sts) (tS g W (sSeq s1 s2)) := pss_imp (pss_cons h1 h2) fun E σ H h => seq_imp h
theorem ds_one (h1 : PS X st (tS g W s1)) : PSs X [st] (tS g W s1) := pss_one h1
theorem ds_pass : PS X (.Pass pos) (tS g W sNil) := ps_imp ps_pass fun E σ H ⟨F, e, M, RS, q⟩ => q F H σ .same RS.m RS.e RS.x
theorem ds_set {i : Nat} {x : Str} {pos' : Pos} (hN : X.N.Nodup) (ha : PE X a (tD g W m1)) (hpin : ∀ p ∈ W.p.xs, i ≠ p.1 := by intro p h; first | exact absurd h (by simp) | (simp at h; subst h; decide)) (hi : X.N[i]? = some x := by rfl) (hx : Loc X.env.scope x := by first | exact Or.inl rfl | exact Or.inr rfl) (hs : swapsWith a (some (.Name x pos')) pos.line X.env = pure false := by rfl)
    (hf : X.fn x = true ∨ X.env.scope.names.lookup x = some .local := by first | exact .inl rfl | exact .inr rfl | assumption) : PS X (.Assign [.Name x pos'] a pos) (tS g W (sSet i m1)) :=
  ps_imp (ps_set hN hi hx ha hs hf) fun E σ H ⟨F, e, M, RS, q⟩ => ⟨F, e, M, RS, q.step RS fun d M1 F1 H1 v _ g1 R1 r q1 => q1 F1 H1 _ .same R1 ((RS.up g1 R1).e.set r i) (RS.x.set hpin)⟩
theorem ds_ret (ha : PE X a (tD g W m1)) : PS X (.Return (some a) pos) (tS g W (sRet m1)) := ps_imp (ps_ret ha) fun E σ H ⟨F, e, M, RS, q⟩ => ⟨F, e, M, RS, q.step RS fun d M1 F1 H1 v _ g1 R1 r q1 => q1 F1 H1 _ .same R1 r⟩
theorem ds_retN : PS X (.Return none pos) (tS g W sRetN) := ps_imp ps_retN fun E σ H ⟨F, e, M, RS, q⟩ => q F H _ .same RS.m .non
theorem ds_do (ha : PE X a (tD g W m1)) (hs : swapsWith a none pos.line X.env = pure false := by rfl) : PS X (.Expr a pos) (tS g W (sDo m1)) := ps_imp (ps_expr ha hs) fun E σ H ⟨F, e, M, RS, q⟩ => ⟨F, e, M, RS, q.step RS fun d M1 F1 H1 v _ g1 R1 r q1 => q1 F1 H1 _ .same R1 (RS.up g1 R1).e RS.x⟩
theorem ds_if {l1 l2 : List Stmt} (hc : PT X c (tB2 g W b1)) (h1 : PSs X l1 (tS g W s1)) (h2 : PSs X l2 (tS g W s2)) : PS X (.If c l1 l2 pos) (tS g W (sIf b1 s1 s2)) := ps_imp (ps_if hc h1 h2) fun E σ H ⟨F, e, M, RS, q⟩ =>
  ⟨F, e, M, RS, q.stepB RS fun k M1 F1 H1 _ g1 R1 q1 => by
    by_cases h : k = true
    · rw [if_pos h] at q1; rw [if_pos h]; exact ⟨F1, e, M1, RS.up g1 R1, q1⟩
    · rw [if_neg h] at q1; rw [if_neg h]; exact ⟨F1, e, M1, RS.up g1 R1, q1⟩⟩
theorem ds_never : PSs X sts (tS g W sBad) := pss_imp pss_never fun E σ H ⟨F, e, M, RS, q⟩ => q

/-! ### for -/
def TgSim (g : Wd) (tg : TgM) (gt : TG) : Prop := ∀ (F : List Addr) (M : MH) (e e1 : Env2) (σ : St) (H : Hp) (x : D) (v : V) (Q : St → Hp → Prop), RelM g F M H → EnvR g F H e σ → Rep g F H x v → tg x e = some e1 → (∀ σ1, EnvR g F H e1 σ1 → Q σ1 H) → gt v σ H Q
theorem tgName_sim (i : Nat) : TgSim g (tgName i) (gName i) := fun F M e e1 σ H x v Q RM RE r h k => by
  unfold tgName at h; cases h
  exact k _ (RE.set r i)
structure ItV (g : Wd) (J : It) (F : List Addr) (H : Hp) (ds : List D) : Prop where
  go : ∀ F' H' (i : Nat), Grow F H F' H' → i < ds.length → J.go i H'
  yld : ∀ F' H' (i : Nat) x H2, Grow F H F' H' → i < ds.length → J.yld i H' x H2 → (∀ b o, H' b = some o → H2 b = some o) ∧ ∃ d, ds[i]? = some d ∧ Rep g F' H2 d x
  stop : ∀ F' H' (i : Nat), Grow F H F' H' → ds.length ≤ i → J.stop i H'
theorem drop_cons' {A : Type} {l : List A} {i : Nat} {x : A} (h : l[i]? = some x) : l.drop i = x :: l.drop (i + 1) := by
  have hl := (List.getElem?_eq_some_iff.mp h)
  obtain ⟨h1, h2⟩ := hl
  rw [List.drop_eq_getElem_cons h1, h2]
theorem forV_run {J : It} {F : List Addr} {e : Env2} {M : MH} {σ : St} {H : Hp} {ds : List D} {tg : TgM} {gt : TG} {E : Ends} (px : ∀ σ, Pin W.p.xs σ) (RS : RelS g W.p F e M σ H) (it : ItV g J F H ds) (ts : TgSim g tg gt) (q : postS g W F H (forV tg s1 ds e M) E) :
    ∃ W1 : Nat → Nat → St → Hp → Prop, (∃ m, W1 0 m σ H) ∧ ∀ i m σ H, W1 i m σ H →
      (J.stop i H ∧ E.nx σ H) ∨ (J.go i H ∧ ∃ N : St → Hp → Prop, (∀ σ' H', N σ' H' → ∃ m', m' < m ∧ W1 (i + 1) m' σ' H') ∧ ∀ x H', J.yld i H x H' → gt x σ H' fun σ2 H2 => tS g W s1 { E with nx := N, ct := N, bk := E.nx } σ2 H2) := by
  refine ⟨fun i m σ' H' => i + m = ds.length ∧ ∃ F' e' M', Grow F H F' H' ∧ RelS g W.p F' e' M' σ' H' ∧ postS g W F' H' (forV tg s1 (ds.drop i) e' M') E, ⟨ds.length, by simp, F, e, M, .same, RS, by simpa using q⟩, ?_⟩
  rintro i m σ1 H1 ⟨hm, F1, e1, M1, g1, RS1, q1⟩
  by_cases hi : i < ds.length
  · refine .inr ⟨it.go F1 H1 i g1 hi, fun σ' H' => ∃ F' e' M', Grow F H F' H' ∧ RelS g W.p F' e' M' σ' H' ∧ postS g W F' H' (forV tg s1 (ds.drop (i + 1)) e' M') E, fun σ' H' ⟨F', e', M', z1, z2, z3⟩ => ⟨m - 1, by omega, by omega, F', e', M', z1, z2, z3⟩, fun x H2 hy => ?_⟩
    obtain ⟨hk, d, hd, r⟩ := it.yld F1 H1 i x H2 g1 hi hy
    obtain ⟨gk, Rk⟩ := RS1.m.keep hk
    have Yk := RS1.y.mono gk RS1.m.good
    replace q1 := q1.up gk
    replace g1 := g1.trans gk
    rw [drop_cons' hd] at q1
    unfold forV at q1
    cases ht : tg d e1 with
    | none => rw [ht] at q1; exact q1.elim
    | some e2 =>
      rw [ht] at q1
      refine ts F1 M1 e1 e2 σ1 _ d x _ Rk (RS1.e.mono gk RS1.m.good) r ht fun σ2 E2 => ⟨F1, e2, M1, ⟨Rk, E2, px _, Yk⟩, ?_⟩
      dsimp only at q1
      cases hb : s1 e2 M1 with
      | nx e3 M3 => rw [hb] at q1; exact fun F3 H3 σ3 g3 R3 E3 X3 => ⟨F3, e3, M3, g1.trans g3, ⟨R3, E3, X3, Yk.mono g3 Rk.good⟩, q1.up g3⟩
      | ct e3 M3 => rw [hb] at q1; exact fun F3 H3 σ3 g3 R3 E3 X3 => ⟨F3, e3, M3, g1.trans g3, ⟨R3, E3, X3, Yk.mono g3 Rk.good⟩, q1.up g3⟩
      | bk e3 M3 => rw [hb] at q1; exact q1
      | rt d3 M3 => rw [hb] at q1; exact q1
      | ex c ns ds e3 M3 => rw [hb] at q1; exact q1
      | bad => rw [hb] at q1; exact q1
  · have hi' : ds.length ≤ i := Nat.le_of_not_lt hi
    rw [List.drop_eq_nil_of_le hi'] at q1
    exact .inl ⟨it.stop F1 H1 i g1 hi', q1 F1 H1 σ1 .same RS1.m RS1.e RS1.x⟩
theorem lst_at {F : List Addr} {M : MH} {H : Hp} {n : Nat} {a : Addr} {ds : List D} (R : RelM g F M H) (hn : F[n]? = some a) (hm : M[n]? = some (.lst ds)) : ∃ vs, H a = some (.lst vs) ∧ Reps g F H ds vs := by
  obtain ⟨h, e, r⟩ := R.obj n a _ hn hm
  cases r with | lst r => exact ⟨_, e, r⟩
theorem sq_unique {K : PySem.W.Frag} {H : Hp} {a : Addr} {vs xs : List V} (h : H a = some (.lst vs)) (hk : K.lookup a = none) (s : SqL K H a xs) : xs = vs := by
  rcases s with (s | ⟨o, s⟩) | ⟨o, its, n, s, _⟩
  · rw [h] at s; cases s; rfl
  · rw [h] at s; cases s
  · rw [hk] at s; cases s
end
end T2
namespace T2
open PySem L2

section
variable {X : Cx} {g : Wd} {W : WY} {a b c : Expr} {pos p : Pos} {m1 m2 : EM} {ma : AM} {es : List Expr} {b1 : BM} {s1 s2 : SM} {st : Stmt} {sts : List Stmt}
theorem forL_run {F : List Addr} {e : Env2} {M : MH} {σ : St} {H : Hp} {n : Nat} {ad : Addr} {ds0 : List D} {tg : TgM} {gt : TG} {E : Ends} (px : ∀ σ, Pin W.p.xs σ) (RS : RelS g W.p F e M σ H) (hn : F[n]? = some ad) (ts : TgSim g tg gt) (q : postS g W F H (forL tg s1 n ds0.length 0 e M) E) :
    ∃ W1 : Nat → Nat → St → Hp → Prop, (∃ m, W1 0 m σ H) ∧ ∀ i m σ H, W1 i m σ H →
      ((Itl g.K ad).stop i H ∧ E.nx σ H) ∨ ((Itl g.K ad).go i H ∧ ∃ N : St → Hp → Prop, (∀ σ' H', N σ' H' → ∃ m', m' < m ∧ W1 (i + 1) m' σ' H') ∧ ∀ x H', (Itl g.K ad).yld i H x H' → gt x σ H' fun σ2 H2 => tS g W s1 { E with nx := N, ct := N, bk := E.nx } σ2 H2) := by
  refine ⟨fun i m σ' H' => ∃ F' e' M', Grow F H F' H' ∧ RelS g W.p F' e' M' σ' H' ∧ postS g W F' H' (forL tg s1 n m i e' M') E, ⟨ds0.length, F, e, M, .same, RS, q⟩, ?_⟩
  rintro i m σ1 H1 ⟨F1, e1, M1, g1, RS1, q1⟩
  have hn1 : F1[n]? = some ad := pre_get g1.pre hn
  cases m with
  | zero =>
    unfold forL at q1
    split at q1
    · rename_i ds hd
      obtain ⟨vs, hv, r⟩ := lst_at RS1.m hn1 hd
      split at q1
      · rename_i hl
        exact .inl ⟨⟨vs, SqL.of hv, by rw [← r.length]; exact hl⟩, q1 F1 H1 σ1 .same RS1.m RS1.e RS1.x⟩
      · exact q1.elim
    · exact q1.elim
  | succ m =>
    unfold forL at q1
    split at q1
    · rename_i ds hd
      obtain ⟨vs, hv, r⟩ := lst_at RS1.m hn1 hd
      split at q1
      · rename_i hx
        have hl : vs.length ≤ i := by rw [← r.length]; exact List.getElem?_eq_none_iff.mp hx
        exact .inl ⟨⟨vs, SqL.of hv, hl⟩, q1 F1 H1 σ1 .same RS1.m RS1.e RS1.x⟩
      · rename_i d hx
        obtain ⟨v, hvx, rv⟩ := r.get hx
        refine .inr ⟨⟨vs, v, SqL.of hv, hvx⟩, fun σ' H' => ∃ F' e' M', Grow F H F' H' ∧ RelS g W.p F' e' M' σ' H' ∧ postS g W F' H' (forL tg s1 n m (i + 1) e' M') E, fun σ' H' z => ⟨m, Nat.lt_succ_self m, z⟩, ?_⟩
        rintro x H2 ⟨rfl, hy⟩
        have ex : v = x := Option.some.inj (hvx.symm.trans (hy vs (SqL.of hv)))
        subst ex
        cases ht : tg d e1 with
        | none => rw [ht] at q1; exact q1.elim
        | some e2 =>
          rw [ht] at q1
          refine ts F1 M1 e1 e2 σ1 _ d v _ RS1.m RS1.e rv ht fun σ2 E2 => ⟨F1, e2, M1, ⟨RS1.m, E2, px _, RS1.y⟩, ?_⟩
          dsimp only at q1
          cases hb : s1 e2 M1 with
          | nx e3 M3 => rw [hb] at q1; exact fun F3 H3 σ3 g3 R3 E3 X3 => ⟨F3, e3, M3, g1.trans g3, ⟨R3, E3, X3, RS1.y.mono g3 RS1.m.good⟩, q1.up g3⟩
          | ct e3 M3 => rw [hb] at q1; exact fun F3 H3 σ3 g3 R3 E3 X3 => ⟨F3, e3, M3, g1.trans g3, ⟨R3, E3, X3, RS1.y.mono g3 RS1.m.good⟩, q1.up g3⟩
          | bk e3 M3 => rw [hb] at q1; exact q1
          | rt d3 M3 => rw [hb] at q1; exact q1
          | ex c ns ds e3 M3 => rw [hb] at q1; exact q1
          | bad => rw [hb] at q1; exact q1
    · exact q1.elim
theorem itV_tup {F : List Addr} {M : MH} {H : Hp} {ad : Addr} {ds : List D} {vs : List V} (R : RelM g F M H) (h : SqT g.K H ad vs) (r : Reps g F H ds vs) : ItV g (Itt g.K ad) F H ds where
  go := fun F' H' i gr hi => by
    have h' := sqT_mono gr R.good h
    have hv : i < vs.length := by rw [← r.length]; exact hi
    exact ⟨vs, vs[i], h', List.getElem?_eq_getElem hv⟩
  yld := fun F' H' i x H2 gr hi hy => by
    obtain ⟨rfl, hy⟩ := hy
    have hx := hy vs (sqT_mono gr R.good h)
    obtain ⟨v, hv, rv⟩ := (r.mono gr R.good).get (List.getElem?_eq_getElem hi)
    rw [hv] at hx; cases hx
    exact ⟨fun _ _ z => z, _, List.getElem?_eq_getElem hi, rv⟩
  stop := fun F' H' i gr hi => ⟨vs, sqT_mono gr R.good h, by rw [← r.length]; exact hi⟩
theorem itV_fro {F : List Addr} {M : MH} {H : Hp} {ad : Addr} {ds : List D} {vs : List V} (R : RelM g F M H) (h : FroL g F H ad vs) (r : Reps g F H ds vs) : ItV g (Itl g.K ad) F H ds where
  go := fun F' H' i gr hi => by
    have h' := (h.mono gr R.good).sq
    have hv : i < vs.length := by rw [← r.length]; exact hi
    exact ⟨vs, vs[i], h', List.getElem?_eq_getElem hv⟩
  yld := fun F' H' i x H2 gr hi hy => by
    obtain ⟨rfl, hy⟩ := hy
    have hx := hy vs (h.mono gr R.good).sq
    obtain ⟨v, hv, rv⟩ := (r.mono gr R.good).get (List.getElem?_eq_getElem hi)
    rw [hv] at hx; cases hx
    exact ⟨fun _ _ z => z, _, List.getElem?_eq_getElem hi, rv⟩
  stop := fun F' H' i gr hi => ⟨vs, (h.mono gr R.good).sq, by rw [← r.length]; exact hi⟩
theorem rangeD_len (lo : Int) (n : Nat) : (rangeD lo n).length = n := by unfold rangeD; simp
theorem rangeD_get {lo : Int} {n i : Nat} (h : i < n) : (rangeD lo n)[i]? = some (.int (lo + (i : Nat))) := by unfold rangeD; simp [h]
theorem itV_rng {F : List Addr} {H : Hp} (lo : Int) (n : Nat) : ItV g (Itr lo n) F H (rangeD lo n) where
  go := fun F' H' i gr hi => by rw [rangeD_len] at hi; exact hi
  yld := fun F' H' i x H2 gr hi hy => by
    rw [rangeD_len] at hi
    obtain ⟨rfl, rfl⟩ := hy
    exact ⟨fun _ _ z => z, _, rangeD_get hi, .int _⟩
  stop := fun F' H' i gr hi => by rw [rangeD_len] at hi; exact hi
theorem pi_or {tg iter : Expr} {w1 w2 : TI} (h1 : PI X tg iter w1) (h2 : PI X tg iter w2) : PI X tg iter (fun σ H R => w1 σ H R ∨ w2 σ H R) := ⟨fun pins s σ H R I q => q.elim (h1.run pins s σ H R I) (h2.run pins s σ H R I)⟩
/-- a reading of what is walked, simulated: at the loop and at a comprehension -/
def ItSim (g : Wd) (W : WY) (it : Env2 → MH → Res IV) (wi : TI) : Prop := ∀ (σ : St) (H : Hp) (F : List Addr) (e : Env2) (M : MH) (R : It → Hp → Prop), RelS g W.p F e M σ H →
  (match it e M with
    | .ok (.vals ds) M1 => ∀ F1 H1 J, Grow F H F1 H1 → RelM g F1 M1 H1 → ItV g J F1 H1 ds → R J H1
    | .ok (.live n) M1 => ∃ ds, M1[n]? = some (.lst ds) ∧ ∀ F1 H1 ad, Grow F H F1 H1 → RelM g F1 M1 H1 → F1[n]? = some ad → R (Itl g.K ad) H1
    | .exc c ns ds M1 => ∀ F1 H1 d, Grow F H F1 H1 → RelM g F1 M1 H1 → XRep g F1 H1 ns ds d → W.w (.ref (g.ca c)) d σ H1
    | .bad => False) → wi σ H R
theorem itSim_seq (hK : g.K = X.K) : ItSim g W (iSeq m1) (fun σ H R => iList X.K (tD g W m1) σ H R ∨ iTup X.K (tD g W m1) σ H R) := fun σ H F e M R RS q => by
  unfold iSeq at q
  cases hm : m1 e M with
  | ok d M1 =>
    rw [hm] at q
    cases d with
    | tup ds =>
      refine .inr ⟨F, e, M, RS, ?_⟩
      rw [hm]
      intro F1 H1 v g1 R1 r
      cases r with | tup h r => exact ⟨_, rfl, ⟨_, by rw [← hK]; exact h⟩, by rw [← hK]; exact q F1 H1 _ g1 R1 (itV_tup R1 h r)⟩
    | fro ds =>
      refine .inl ⟨F, e, M, RS, ?_⟩
      rw [hm]
      intro F1 H1 v g1 R1 r
      cases r with | fro h r => exact ⟨_, rfl, ⟨_, by rw [← hK]; exact h.sq⟩, by rw [← hK]; exact q F1 H1 _ g1 R1 (itV_fro R1 h r)⟩
    | ref n =>
      refine .inl ⟨F, e, M, RS, ?_⟩
      rw [hm]
      intro F1 H1 v g1 R1 r
      obtain ⟨ds, hd, q⟩ := q
      cases r with | ref h =>
        obtain ⟨vs, hv, _⟩ := lst_at R1 h hd
        exact ⟨_, rfl, ⟨vs, SqL.of hv⟩, by rw [← hK]; exact q F1 H1 _ g1 R1 h⟩
    | _ => exact q.elim
  | exc c ns ds M1 =>
    rw [hm] at q
    exact .inl ⟨F, e, M, RS, by rw [hm]; exact q⟩
  | bad => rw [hm] at q; exact q.elim
theorem itSim_range1 : ItSim g W (iRange1 m1) (iRng1 (tA g W (eCons m1 eNil))) := fun σ H F e M R RS q => by
  refine ⟨F, e, M, RS, ?_⟩
  unfold iRange1 at q
  unfold eCons eNil
  cases hm : m1 e M with
  | ok d M1 =>
    rw [hm] at q
    intro F1 H1 vs g1 R1 r
    cases r with | cons r t =>
      cases t
      cases r with
      | int j =>
        dsimp only [Res.bind] at q
        by_cases hz : -(2 ^ 62) ≤ j ∧ j < 2 ^ 62
        · rw [if_pos hz] at q
          exact ⟨j, rfl, hz.1, hz.2, q F1 H1 _ g1 R1 (itV_rng 0 _)⟩
        · rw [if_neg hz] at q
          exact q.elim
      | _ => exact q.elim
  | exc c ns ds M1 => rw [hm] at q; exact q
  | bad => rw [hm] at q; exact q.elim
theorem itSim_range2 : ItSim g W (iRange2 m1 m2) (iRng2 (tA g W (eCons m1 (eCons m2 eNil)))) := fun σ H F e M R RS q => by
  refine ⟨F, e, M, RS, ?_⟩
  unfold iRange2 at q
  unfold eCons eNil
  cases hm : m1 e M with
  | ok d M1 =>
    rw [hm] at q
    dsimp only [Res.bind] at q
    dsimp only [Res.bind]
    cases hm2 : m2 e M1 with
    | ok d2 M2 =>
      rw [hm2] at q
      intro F1 H1 vs g1 R1 r
      cases r with | cons r t =>
        cases t with | cons r2 t =>
          cases t
          cases r with
          | int i =>
            cases r2 with
            | int j =>
              dsimp only at q
              by_cases hz : -(2 ^ 62) ≤ i ∧ i < 2 ^ 62 ∧ -(2 ^ 62) ≤ j ∧ j < 2 ^ 62
              · rw [if_pos hz] at q
                exact ⟨i, j, rfl, hz, q F1 H1 _ g1 R1 (itV_rng i _)⟩
              · rw [if_neg hz] at q
                exact q.elim
            | _ => exact q.elim
          | _ => cases r2 <;> exact q.elim
    | exc c ns ds M1 => rw [hm2] at q; exact q
    | bad => rw [hm2] at q; exact q.elim
  | exc c ns ds M1 => rw [hm] at q; exact q
  | bad => rw [hm] at q; exact q.elim
theorem ds_for {tgE iter : Expr} {wi : TI} {it : Env2 → MH → Res IV} {gt : TG} {tg : TgM} (px : ∀ σ, Pin W.p.xs σ) (po : PassesOwn (model X.prog X.w) X.A X.env X.xe) (hc : X.calm = true) (hi : PI X tgE iter wi) (hsim : ItSim g W it wi) (hg : PG X tgE gt) (ts : TgSim g tg gt) (hb : PSs X sts (tS g W s1))
    (hs : ∀ x, foldedSetIterable iter X.env x = pure x := by intro _; rfl) : PS X (.For tgE iter sts [] pos) (tS g W (sForI it tg s1)) :=
  ps_imp (ps_for po hc hi hg hb hs) fun E σ H ⟨F, e, M, RS, q⟩ => hsim σ H F e M _ RS (by
    unfold sForI at q
    cases hm : it e M with
    | ok iv M1 =>
      rw [hm] at q
      cases iv with
      | vals ds => exact fun F1 H1 J g1 R1 itv => forV_run px (RS.up g1 R1) itv ts (q.up g1)
      | live n =>
        dsimp only at q
        split at q
        · rename_i ds hd
          exact ⟨ds, hd, fun F1 H1 ad g1 R1 hn => forL_run px (RS.up g1 R1) hn ts (q.up g1)⟩
        · exact q.elim
    | exc c ns ds M1 => rw [hm] at q; exact fun F1 H1 d g1 R1 x => q F1 H1 σ d g1 R1 (RS.up g1 R1).e x
    | bad => rw [hm] at q; exact q)
end

/-! ### a def -/
def spD (g : Wd) (n : Nat) (f : List D → MH → Res D) : Sp := fun vs H Q E => vs.length = n ∧ ∃ F M ds, RelM g F M H ∧ Reps g F H ds vs ∧ post g rD (fun c d _ H => E c d H) F [] H (f ds M) Q
def env0 (n : Nat) (ds : List D) : Env2 := ds.map some ++ List.replicate (n - ds.length) none
def toR (r : SR) : Res D := match r with
  | .rt d M => .ok d M
  | .nx _ M => .ok .non M
  | .ex c ns xs _ M => .exc c ns xs M
  | _ => .bad
def fnB (n : Nat) (b : SM) : List D → MH → Res D := fun ds M => toR (b (env0 n ds) M)
theorem envR_nones {g : Wd} {F : List Addr} {H : Hp} : ∀ n : Nat, EnvR g F H (List.replicate n none) (List.replicate n none)
  | 0 => .nil
  | n + 1 => .cons .none (envR_nones n)
theorem envR_start {g : Wd} {F : List Addr} {H : Hp} {N : List Str} : ∀ {ds : List D} {vs : List V}, Reps g F H ds vs → ∀ n : Nat, EnvR g F H (ds.map some ++ List.replicate n none) (vs.map some ++ List.replicate n none)
  | _, _, .nil, n => envR_nones n
  | _, _, .cons h t, n => .cons (.some h) (envR_start (N := N) t n)
theorem body_run {g : Wd} {E : XK} {N : List Str} {b : SM} {vs : List V} {H : Hp} {Q : VK} {n : Nat} (h : spD g n (fnB N.length b) vs H Q E) : tS g ⟨fun c d _ H => E c d H, ⟨[], []⟩⟩ b { nx := fun _ H' => Q .non H', rt := Q } (L2.start N vs) H := by
  obtain ⟨_, F, M, ds, R, r, q⟩ := h
  refine ⟨F, env0 N.length ds, M, ⟨R, ?_, pin_nil, xrs_nil⟩, ?_⟩
  · have := envR_start (N := N) r (N.length - ds.length)
    unfold L2.start env0
    rw [← r.length]
    exact this
  · unfold fnB at q
    cases hb : b (env0 N.length ds) M with
    | nx e M1 => rw [hb] at q; exact fun F1 H1 σ1 g1 R1 _ _ => q F1 H1 _ g1 R1 .non
    | rt d M1 => rw [hb] at q; exact q
    | ex c ns xs e M1 => rw [hb] at q; exact fun F1 H1 σ1 d g1 R1 _ x => q F1 H1 d g1 R1 x
    | bk e M1 => rw [hb] at q; exact q.elim
    | ct e M1 => rw [hb] at q; exact q.elim
    | bad => rw [hb] at q; exact q.elim
theorem fn_ok {P : Program} {w : World} {K : PySem.W.Frag} {mg : Str → Option Value} {base : Heap} {g : Wd} {x qual : Str} {st : Stmt} {f : Addr} {fd : FuncData} {N ps : List Str} {k : Nat} {b : SM} (F : Fun K x qual st f fd) (S : FnScope N ps (defScope st))
    (hbody : ∀ (cdv : Value) (A : Around) (outer : List Env) (s : Shared) (H : Hp) (E : XK), Room k (A.deeper (PyProof.Rows.envOfC qual (defScope st) s.heap.objs.size f cdv)) →
      PSs (cxOf (L2N.CX P w) P w K mg base N qual (defScope st) f cdv A outer s H E) (defBody st) (tS g ⟨fun c d _ H => E c d H, ⟨[], []⟩⟩ b)) : FnOk P w K mg base (L2N.CX P w) (k + 1) f fd ps (spD g ps.length (fnB N.length b)) :=
  by
  obtain ⟨oc, od, kV, doc, pm, an, cdv, ct, osl, rfl, lk, hcd⟩ := F.ex
  exact fn_of lk hcd S (fun vs H Q E h => h.1) fun A outer s H vs Q E hr h => ⟨_, hbody cdv A outer s H E hr, body_run h⟩

/-! ### a def's contract: what is left over may be forgotten -/
mutual
def D.low (k : Nat) : D → Prop
  | .ref n => n < k
  | .tup ds => D.lows k ds
  | .fro ds => D.lows k ds
  | .ins _ _ ds => D.lows k ds
  | _ => True
def D.lows (k : Nat) : List D → Prop
  | [] => True
  | d :: ds => D.low k d ∧ D.lows k ds
end
def MO.low (k : Nat) : MO → Prop
  | .lst ds => D.lows k ds
  | .dk _ ds => D.lows k ds
  | .dt _ ds => D.lows k ds
  | .ob _ _ ds => D.lows k ds
  | .lk _ ds => D.lows k ds
  | .lt _ ds => D.lows k ds
def MLow (M : MH) : Prop := ∀ o ∈ M, MO.low M.length o
section
variable {g : Wd} {F F' : List Addr} {H : Hp} {M : MH}
mutual
theorem Rep.low : ∀ {d : D} {v : V}, Rep g F H d v → D.low F.length d
  | _, _, .non => trivial
  | _, _, .bl _ => trivial
  | _, _, .int _ => trivial
  | _, _, .str _ => trivial
  | _, _, .ty _ => trivial
  | _, _, .cls _ => trivial
  | _, _, .obj _ => trivial
  | _, _, .tk _ => trivial
  | _, _, .ref h => (List.getElem?_eq_some_iff.mp h).1
  | _, _, .tup _ r => by unfold D.low; exact Reps.low r
  | _, _, .fro _ r => by unfold D.low; exact Reps.low r
  | _, _, .ins _ _ _ r => by unfold D.low; exact Reps.low r
theorem Reps.low : ∀ {ds : List D} {vs : List V}, Reps g F H ds vs → D.lows F.length ds
  | _, _, .nil => trivial
  | _, _, .cons h t => ⟨Rep.low h, Reps.low t⟩
end
theorem FroL.cut {k : Nat} {ad : Addr} {vs : List V} (h : FroL g F H ad vs) : FroL g (F.take k) H ad vs := by
  rcases h with ⟨h, n⟩ | h | h
  · exact .inl ⟨h, fun z => n (List.mem_of_mem_take z)⟩
  · exact .inr (.inl h)
  · exact .inr (.inr h)
mutual
theorem Rep.cut {k : Nat} : ∀ {d : D} {v : V}, Rep g F H d v → D.low k d → Rep g (F.take k) H d v
  | _, _, .non, _ => .non
  | _, _, .bl b, _ => .bl b
  | _, _, .int i, _ => .int i
  | _, _, .str x, _ => .str x
  | _, _, .ty n, _ => .ty n
  | _, _, .cls c, _ => .cls c
  | _, _, .obj a, _ => .obj a
  | _, _, .tk h, _ => .tk h
  | _, _, .ref h, l => .ref (by rw [List.getElem?_take_of_lt (by unfold D.low at l; exact l)]; exact h)
  | _, _, .tup h r, l => .tup h (Reps.cut r (by unfold D.low at l; exact l))
  | _, _, .fro h r, l => .fro h.cut (Reps.cut r (by unfold D.low at l; exact l))
  | _, _, .ins h hn hl r, l => .ins h (fun z => hn (List.mem_of_mem_take z)) hl (Reps.cut r (by unfold D.low at l; exact l))
theorem Reps.cut {k : Nat} : ∀ {ds : List D} {vs : List V}, Reps g F H ds vs → D.lows k ds → Reps g (F.take k) H ds vs
  | _, _, .nil, _ => .nil
  | _, _, .cons h t, l => .cons (Rep.cut h l.1) (Reps.cut t l.2)
end
theorem ObjR.cut {k : Nat} {o : MO} {h : HO} (r : ObjR g F H o h) (l : MO.low k o) : ObjR g (F.take k) H o h := by
  cases r with
  | lst r => exact .lst (r.cut l)
  | dk hl r => exact .dk hl (r.cut l)
  | dt hl r => exact .dt hl (r.cut l)
  | ob hl r => exact .ob hl (r.cut l)
  | lk hl r => exact .lk hl (r.cut l)
  | lt hl r => exact .lt hl (r.cut l)
theorem RelM.low (R : RelM g F M H) : MLow M := fun o ho => by
  obtain ⟨n, hn⟩ := List.getElem?_of_mem ho
  have hl : n < F.length := by rw [R.len]; exact (List.getElem?_eq_some_iff.mp hn).1
  obtain ⟨h, _, r⟩ := R.obj n _ o (List.getElem?_eq_getElem hl) hn
  rw [← R.len]
  cases r with
  | lst r => exact r.low
  | dk hl r => exact r.low
  | dt hl r => exact r.low
  | ob hl r => exact r.low
  | lk hl r => exact r.low
  | lt hl r => exact r.low
theorem RelM.cut {G : MH} (R : RelM g F (M ++ G) H) (l : MLow M) : RelM g (F.take M.length) M H := by
  have hF : M.length ≤ F.length := by rw [R.len]; simp
  refine ⟨by simp [hF], R.nd.sublist (List.take_sublist _ _), fun n a o e m => ?_⟩
  have hn : n < M.length := (List.getElem?_eq_some_iff.mp m).1
  rw [List.getElem?_take_of_lt hn] at e
  obtain ⟨h, e2, r⟩ := R.obj n a o e (by rw [List.getElem?_append_left hn]; exact m)
  exact ⟨h, e2, r.cut (l o (List.mem_of_getElem? m))⟩
theorem Grow.cut {H0 : Hp} {F0 : List Addr} {k : Nat} (gr : Grow F0 H0 F H) (h : F0.length ≤ k) : Grow F0 H0 (F.take k) H := by
  obtain ⟨⟨t, rfl⟩, kp, nw, lk⟩ := gr
  refine ⟨?_, kp, fun b hb => nw b (List.mem_of_mem_take hb), lk⟩
  rw [List.take_append, List.take_of_length_le h]
  exact List.prefix_append _ _
end
/-- r' is what is promised of r; what r has made beyond may be forgotten -/
def Refines (M0 : MH) (r r' : Res D) : Prop := match r' with
  | .bad => True
  | .ok d M => r = .ok d M ∨ (∃ G, r = .ok d (M ++ G) ∧ M0.length ≤ M.length ∧ D.low M.length d ∧ MLow M)
  | .exc c ns ds M => r = .exc c ns ds M ∨ (∃ G, r = .exc c ns ds (M ++ G) ∧ M0.length ≤ M.length ∧ D.lows M.length ds ∧ MLow M)
theorem XRep.cut {g : Wd} {F : List Addr} {H : Hp} {k : Nat} {ns : List Str} {ds : List D} {d : Option Addr} (x : XRep g F H ns ds d) (l : D.lows k ds) : XRep g (F.take k) H ns ds d := by
  cases x with
  | no => exact .no
  | so h hne hl r => exact .so h hne hl (r.cut l)
theorem Refines.post {g : Wd} {W : WX} {F : List Addr} {M0 : MH} {σ : St} {H : Hp} {r r' : Res D} {Q : VK} (R : RelM g F M0 H) (h : Refines M0 r r') (q : post g rD W F σ H r' Q) : post g rD W F σ H r Q := by
  cases r' with
  | bad => exact q.elim
  | ok d M =>
    rcases h with rfl | ⟨G, rfl, hl, ld, lm⟩
    · exact q
    · exact fun F1 H1 v g1 R1 rv => q _ H1 v (g1.cut (by rw [R.len]; exact hl)) (R1.cut lm) (rv.cut ld)
  | exc c ns ds M =>
    rcases h with rfl | ⟨G, rfl, hl, ld, lm⟩
    · exact q
    · exact fun F1 H1 v g1 R1 x => q _ H1 v (g1.cut (by rw [R.len]; exact hl)) (R1.cut lm) (x.cut ld)
theorem fn_ref {P : Program} {w : World} {K : PySem.W.Frag} {mg : Str → Option Value} {base : Heap} {CX : CXT} {g : Wd} {f : Addr} {fd : FuncData} {ps : List Str} {k n : Nat} {m m' : List D → MH → Res D} (F : FnOk P w K mg base CX k f fd ps (spD g n m))
    (h : ∀ ds M, ds.length = n → D.lows M.length ds → MLow M → Refines M (m ds M) (m' ds M)) : FnOk P w K mg base CX k f fd ps (spD g n m') :=
  F.imp fun vs H Q E ⟨hl, F, M, ds, R, r, q⟩ => ⟨hl, F, M, ds, R, r, (h ds M (by rw [r.length]; exact hl) (by rw [← R.len]; exact r.low) R.low).post R q⟩

/-! ### calls -/
def eCall (n : Nat) (f : List D → MH → Res D) (a : AM) : EM := eArgs (fun ds M => if ds.length = n then f ds M else .bad) a
theorem post_call {g : Wd} {W : WX} {F : List Addr} {σ : St} {H : Hp} {r : Res D} {Q : VK} (q : post g rD W F σ H r Q) : post g rD (fun c d _ H => W c d σ H) F [] H r Q := by
  cases r with
  | ok d M => exact q
  | exc c ns ds M => exact q
  | bad => exact q
section
variable {X : Cx} {g : Wd} {W : WY} {a b c : Expr} {pos p : Pos} {m1 m2 : EM} {ma : AM} {es : List Expr} {k n : Nat} {f : Addr} {fd : FuncData} {ps : List Str} {m : List D → MH → Res D} {x : Str}
theorem call_imp {σ : St} {H : Hp} {Q : VK} (q : tD g W (eCall n m ma) σ H Q) : tA g W ma σ H fun vs H1 => spD g n m vs H1 Q (WE W.w σ) := by
  obtain ⟨F, e, M, RS, q⟩ := q
  refine ⟨F, e, M, RS, q.bind fun ds M1 F1 H1 vs e1 g1 R1 r q1 => ?_⟩
  split at q1
  · rename_i hl
    exact ⟨by rw [← r.length]; exact hl, F1, M1, ds, R1, r, post_call q1⟩
  · exact q1.elim
theorem de_call (G : FnOk X.prog X.w X.K X.mg X.base (L2N.CX X.prog X.w) k f fd ps (spD g n m)) (hr : Room k X.A) (tk : L2N.Takes X W.w) (hm : X.mg x = some (.ref f)) (hk : PySem.W.keepIn X.K (.ref f) = true) (hb : Binds X.K fd ps []) (ha : PA X (a :: es) (tA g W ma)) (hg : Gl X x := by rfl)
    (hdb : (x == ("__debug__" : Str)) = false := by decide) (he : starEach (a :: es) X.env = (false, eval a X.env) :: starEach es X.env := by rfl) (hpl : (backTo pos (starEach es X.env)).any (·.1) = false := by rfl) :
    PE X (.Call (.Name x p) (a :: es) [] pos) (tD g W (eCall n m ma)) :=
  pe_imp (pe_callSD G hr hg hm hk hb .nil (fun σ => L2N.passAt tk σ) ha hdb he hpl) fun σ H Q q => by
    have := call_imp q
    unfold tCallSD
    simpa using this
end
end T2
namespace T2
open PySem L2

/-! ### operations on values -/
/-- the items of a tuple or of a list that stands there -/
def items (M : MH) : D → Option (List D)
  | .tup ds => some ds
  | .fro ds => some ds
  | .ref n => match M[n]? with
    | some (.lst ds) => some ds
    | _ => none
  | _ => none
def mkL (ds : List D) (M : MH) : Res D := .ok (.ref M.length) (M ++ [.lst ds])
def mkF (ds : List D) (M : MH) : Res D := .ok (.fro ds) M
def listItems (M : MH) : D → Option (List D)
  | .fro ds => some ds
  | .ref n => match M[n]? with
    | some (.lst ds) => some ds
    | _ => none
  | _ => none
def big : Nat := 100000
def dAdd (x y : D) (M : MH) : Res D := match x, y with
  | .int i, .int j => .ok (.int (i + j)) M
  | .str a, .str b => if a.length + b.length ≤ big then .ok (.str (a ++ b)) M else .bad
  | .tup xs, .tup ys => if xs.length + ys.length ≤ big then .ok (.tup (xs ++ ys)) M else .bad
  | _, _ => .bad
def dSub (x y : D) (M : MH) : Res D := match x, y with
  | .int i, .int j => .ok (.int (i - j)) M
  | _, _ => .bad
def dMul (x y : D) (M : MH) : Res D := match x, y with
  | .int i, .int j => if (-(2 ^ 64) < i ∧ i < 2 ^ 64) ∨ (-(2 ^ 64) < j ∧ j < 2 ^ 64) then .ok (.int (i * j)) M else .bad
  | _, _ => .bad
def dDiv (x y : D) (M : MH) : Res D := match x, y with
  | .int i, .int j => if 0 < j ∧ j < 1073741824 then .ok (.int (i / j)) M else .bad
  | _, _ => .bad
def dMod (x y : D) (M : MH) : Res D := match x, y with
  | .int i, .int j => if 0 < j then .ok (.int (i % j)) M else .bad
  | _, _ => .bad
def dPow (x y : D) (M : MH) : Res D := match x, y with
  | .int i, .int j => if 0 ≤ j ∧ j ≤ 1000000 ∧ i.natAbs < 2 ^ 64 then .ok (.int (i ^ j.toNat)) M else .bad
  | _, _ => .bad
def dNeg (x : D) (M : MH) : Res D := match x with
  | .int i => .ok (.int (-i)) M
  | _ => .bad
def dCmpI (f : Int → Int → Bool) (x y : D) (M : MH) : Res D := match x, y with
  | .int i, .int j => .ok (.bl (f i j)) M
  | _, _ => .bad
def dLt : D → D → MH → Res D := dCmpI fun i j => decide (i < j)
def dLe : D → D → MH → Res D := dCmpI fun i j => decide (i ≤ j)
def dGt : D → D → MH → Res D := dCmpI fun i j => decide (j < i)
def dGe : D → D → MH → Res D := dCmpI fun i j => decide (j ≤ i)
def isNon : D → Bool
  | .non => true
  | _ => false
def isBl (b : Bool) : D → Bool
  | .bl c => c == b
  | _ => false
def dIs (x y : D) (M : MH) : Res D := match y with
  | .non => .ok (.bl (isNon x)) M
  | .bl b => .ok (.bl (isBl b x)) M
  | _ => .bad
def dIsNot (x y : D) (M : MH) : Res D := match y with
  | .non => .ok (.bl (!isNon x)) M
  | .bl b => .ok (.bl (!isBl b x)) M
  | _ => .bad
mutual
/-- a tree as data; rf tells what stands at a place -/
def toPa (rf : Nat → Option PyData) : D → Option PyData
  | .non => some .none
  | .bl b => some (.bool b)
  | .int i => some (.int i)
  | .str x => some (.str x)
  | .tup ds => (toPas rf ds).map .tuple
  | .fro ds => (toPas rf ds).map .list
  | .ref n => rf n
  | .ty _ => none
  | .cls _ => none
  | .obj _ => none
  | .tk _ => none
  | .ins _ _ _ => none
def toPas (rf : Nat → Option PyData) : List D → Option (List PyData)
  | [] => some []
  | d :: ds => match toPa rf d, toPas rf ds with
    | some p, some ps => some (p :: ps)
    | _, _ => none
end
def rfOf (M : MH) : Nat → Nat → Option PyData
  | 0, _ => none
  | k + 1, n => match M[n]? with
    | some (.lst ds) => (toPas (rfOf M k) ds).map .list
    | _ => none
def toP (M : MH) (k : Nat) (d : D) : Option PyData := toPa (rfOf M k) d
def toPs (M : MH) (k : Nat) (ds : List D) : Option (List PyData) := toPas (rfOf M k) ds
theorem toP_tup {M : MH} {k : Nat} {ds : List D} : toP M k (.tup ds) = (toPs M k ds).map .tuple := by unfold toP toPs; rw [toPa]
theorem toP_fro {M : MH} {k : Nat} {ds : List D} : toP M k (.fro ds) = (toPs M k ds).map .list := by unfold toP toPs; rw [toPa]
theorem toP_ref {M : MH} {k n : Nat} : toP M (k + 1) (.ref n) = match M[n]? with
    | some (.lst ds) => (toPs M k ds).map .list
    | _ => none := by unfold toP toPs; rw [toPa, rfOf]
theorem toPs_cons {M : MH} {k : Nat} {d : D} {ds : List D} : toPs M k (d :: ds) = match toP M k d, toPs M k ds with
    | some p, some ps => some (p :: ps)
    | _, _ => none := by unfold toP toPs; rw [toPas]
def dEq (x y : D) (M : MH) : Res D := match toP M 4 x, toP M 4 y with
  | some p, some q => if SeqAt.shaped p = true ∧ SeqAt.shaped q = true then .ok (.bl (PyData.eqv p q)) M else .bad
  | _, _ => .bad
def dNe (x y : D) (M : MH) : Res D := match toP M 4 x, toP M 4 y with
  | some p, some q => if SeqAt.shaped p = true ∧ SeqAt.shaped q = true then .ok (.bl (!PyData.eqv p q)) M else .bad
  | _, _ => .bad
def dIx (x y : D) (M : MH) : Res D := match y with
  | .int i => match x with
    | .str z => if z.length ≤ big then (match atI z.cps.toList i with
      | some c => .ok (.str ⟨#[c]⟩) M
      | none => .bad) else .bad
    | x => match items M x with
      | some ds => (match atI ds i with
        | some d => .ok d M
        | none => .bad)
      | none => .bad
  | _ => .bad
def cutD (xs : List D) (lo hi : Option Int) : List D := (xs.drop (HT.sIx xs.length 0 lo)).take (HT.sIx xs.length xs.length hi - HT.sIx xs.length 0 lo)
def dLen (ds : List D) (M : MH) : Res D := match ds with
  | [.str z] => if z.length ≤ big then .ok (.int z.length) M else .bad
  | [x] => match items M x with
    | some ys => .ok (.int ys.length) M
    | none => .bad
  | _ => .bad
def dListL (ds : List D) (M : MH) : Res D := match ds with
  | [x] => match items M x with
    | some ys => mkL ys M
    | none => .bad
  | _ => .bad
def dListF (ds : List D) (M : MH) : Res D := match ds with
  | [x] => match items M x with
    | some ys => mkF ys M
    | none => .bad
  | _ => .bad
def dTupF (ds : List D) (M : MH) : Res D := match ds with
  | [x] => match items M x with
    | some ys => .ok (.tup ys) M
    | none => .bad
  | _ => .bad
def dInt (ds : List D) (M : MH) : Res D := match ds with
  | [.int i] => .ok (.int i) M
  | [.bl b] => .ok (.int (if b then 1 else 0)) M
  | _ => .bad
def dBool (ds : List D) (M : MH) : Res D := match ds with
  | [.int i] => .ok (.bl (i != 0)) M
  | [.bl b] => .ok (.bl b) M
  | _ => .bad
def dAbs (ds : List D) (M : MH) : Res D := match ds with
  | [.int i] => .ok (.int (if i < 0 then -i else i)) M
  | _ => .bad
def dMax2 (ds : List D) (M : MH) : Res D := match ds with
  | [.int i, .int j] => .ok (.int (if j > i then j else i)) M
  | _ => .bad
def dMin2 (ds : List D) (M : MH) : Res D := match ds with
  | [.int i, .int j] => .ok (.int (if j < i then j else i)) M
  | _ => .bad

theorem bigLine {n : Nat} (h : n ≤ big) : n ≤ sizeLine := Nat.le_trans h (by decide)
section
variable {X : Cx} {g : Wd}
theorem items_at {F : List Addr} {M : MH} {H : Hp} {x : D} {v : V} {ds : List D} (R : RelM g F M H) (r : Rep g F H x v) (h : items M x = some ds) : ∃ a vs, v = .ref a ∧ (SqL g.K H a vs ∨ SqT g.K H a vs) ∧ Reps g F H ds vs := by
  cases r with
  | tup h1 r => cases h; exact ⟨_, _, rfl, .inr h1, r⟩
  | fro h1 r => cases h; exact ⟨_, _, rfl, .inl h1.sq, r⟩
  | ref h1 =>
    dsimp only [items] at h
    split at h
    · rename_i ds' hd
      cases h
      obtain ⟨vs, hv, r⟩ := lst_at R h1 hd
      exact ⟨_, vs, rfl, .inl (SqL.of hv), r⟩
    · cases h
  | _ => cases h
theorem mkL_post {W : WX} {F : List Addr} {M : MH} {H : Hp} {σ : L2.St} {Q : VK} {ds : List D} {vs : List V} {p : Addr} (R : RelM g F M H) (r : Reps g F H ds vs) (q : post g rD W F σ H (mkL ds M) Q) (hp : H p = none) : Q (.ref p) (upd H p (.lst vs)) := by
  obtain ⟨g1, R1⟩ := R.laid (m := .lst ds) (o := .lst vs) hp fun F' H' gr => .lst (r.mono gr R.good)
  exact q.ok g1 R1 (.ref (by rw [← R.len]; simp))
theorem mkF_post {W : WX} {F : List Addr} {M : MH} {H : Hp} {σ : L2.St} {Q : VK} {ds : List D} {vs : List V} {p : Addr} (R : RelM g F M H) (r : Reps g F H ds vs) (q : post g rD W F σ H (mkF ds M) Q) (hp : H p = none) : Q (.ref p) (upd H p (.lst vs)) := by
  obtain ⟨g1, R1⟩ := R.still (o := .lst vs) hp
  exact q.ok g1 R1 (.fro (.inl ⟨upd_same, R.notin hp⟩) (r.mono g1 R.good))
theorem tup_post {W : WX} {F : List Addr} {M : MH} {H : Hp} {σ : L2.St} {Q : VK} {ds : List D} {vs : List V} {p : Addr} (R : RelM g F M H) (r : Reps g F H ds vs) (q : post g rD W F σ H (.ok (.tup ds) M) Q) (hp : H p = none) : Q (.ref p) (upd H p (.tup vs)) := by
  obtain ⟨g1, R1⟩ := R.still (o := .tup vs) hp
  exact q.ok g1 R1 (.tup (SqT.of upd_same) (r.mono g1 R.good))
theorem sim_I {f : D → D → MH → Res D} {C : Int → Int → Prop} {k : Int → Int → V} (h : ∀ i j M, (C i j ∧ ∃ d, f (.int i) (.int j) M = .ok d M ∧ ∀ F H, Rep g F H d (k i j)) ∨ f (.int i) (.int j) M = .bad) (hb : ∀ x y M, (∀ i j, ¬ (x = .int i ∧ y = .int j)) → f x y M = .bad) : Sim2 g f (rI C k) := fun F M σ H W x y v w Q R rx ry q => by
  by_cases hx : ∃ i j, x = .int i ∧ y = .int j
  · obtain ⟨i, j, rfl, rfl⟩ := hx
    cases rx; cases ry
    rcases h i j M with ⟨hc, d, hf, hd⟩ | hf
    · rw [hf] at q; exact ⟨i, j, rfl, rfl, hc, q.here R (hd F H)⟩
    · rw [hf] at q; exact q.elim
  · rw [hb x y M fun i j z => hx ⟨i, j, z⟩] at q; exact q.elim
theorem sim_sub : Sim2 g dSub (rI0 fun i j => .int (i - j)) := fun F M σ H W x y v w Q R rx ry q => by
  unfold dSub at q
  split at q
  · cases rx; cases ry; exact ⟨_, _, rfl, rfl, q.here R (.int _)⟩
  · exact q.elim
theorem sim_mul : Sim2 g dMul (rI CMul fun i j => .int (i * j)) := fun F M σ H W x y v w Q R rx ry q => by
  unfold dMul at q
  split at q
  · cases rx; cases ry
    split at q
    · rename_i hc; exact ⟨_, _, rfl, rfl, hc, q.here R (.int _)⟩
    · exact q.elim
  · exact q.elim
theorem sim_div : Sim2 g dDiv (rI CDiv fun i j => .int (i / j)) := fun F M σ H W x y v w Q R rx ry q => by
  unfold dDiv at q
  split at q
  · cases rx; cases ry
    split at q
    · rename_i hc; exact ⟨_, _, rfl, rfl, hc, q.here R (.int _)⟩
    · exact q.elim
  · exact q.elim
theorem sim_mod : Sim2 g dMod (rI (fun _ j => 0 < j) fun i j => .int (i % j)) := fun F M σ H W x y v w Q R rx ry q => by
  unfold dMod at q
  split at q
  · cases rx; cases ry
    split at q
    · rename_i hc; exact ⟨_, _, rfl, rfl, hc, q.here R (.int _)⟩
    · exact q.elim
  · exact q.elim
theorem sim_pow : Sim2 g dPow (rI CPow fun i j => .int (i ^ j.toNat)) := fun F M σ H W x y v w Q R rx ry q => by
  unfold dPow at q
  split at q
  · cases rx; cases ry
    split at q
    · rename_i hc; exact ⟨_, _, rfl, rfl, hc, q.here R (.int _)⟩
    · exact q.elim
  · exact q.elim
theorem sim_cmpI {f : Int → Int → Bool} : Sim2 g (dCmpI f) (rI0 fun i j => .bl (f i j)) := fun F M σ H W x y v w Q R rx ry q => by
  unfold dCmpI at q
  split at q
  · cases rx; cases ry; exact ⟨_, _, rfl, rfl, q.here R (.bl _)⟩
  · exact q.elim
def rAddA (K : PySem.W.Frag) : R2 := fun x y H Q => (∃ i j, x = .int i ∧ y = .int j ∧ Q (.int (i + j)) H) ∨ (∃ i j, x = .str i ∧ y = .str j ∧ i.length + j.length ≤ sizeLine ∧ Q (.str (i ++ j)) H) ∨ rCatA K x y H Q
theorem op_addA : OpR X (binaryOp .Add) (rAddA X.K) := op_add.or (op_add_str.or op_catA)
theorem sim_add (hK : g.K = X.K) : Sim2 g dAdd (rAddA X.K) := fun F M σ H W x y v w Q R rx ry q => by
  unfold dAdd at q
  split at q
  · cases rx; cases ry; exact .inl ⟨_, _, rfl, rfl, q.here R (.int _)⟩
  · cases rx; cases ry
    split at q
    · rename_i hl; exact .inr (.inl ⟨_, _, rfl, rfl, bigLine hl, q.here R (.str _)⟩)
    · exact q.elim
  · rename_i xs ys
    cases rx with | tup h1 r1 =>
    cases ry with | tup h2 r2 =>
    rename_i a1 v1 a2 v2
    split at q
    · rename_i hl
      refine .inr (.inr ⟨_, _, _, _, rfl, rfl, by rw [← hK]; exact h1, by rw [← hK]; exact h2, by rw [← r1.length, ← r2.length]; exact bigLine hl, fun z => ?_, fun z1 z => ?_, fun z1 z2 p hp => ?_⟩)
      · have : xs = [] := by cases r1 with | nil => rfl | cons => cases z
        subst this
        exact q.here R (.tup h2 (by simpa using r2))
      · have : ys = [] := by cases r2 with | nil => rfl | cons => cases z
        subst this
        exact q.here R (.tup h1 (by simpa using r1))
      · exact tup_post R (r1.append r2) q hp
    · exact q.elim
  · exact q.elim
def rIsA : R2 := fun x y H Q => (y = .non ∧ Q (.bl (decide (x = .non))) H) ∨ ∃ b, y = .bl b ∧ Q (.bl (decide (x = .bl b))) H
def rIsNotA : R2 := fun x y H Q => (y = .non ∧ Q (.bl (!decide (x = .non))) H) ∨ ∃ b, y = .bl b ∧ Q (.bl (!decide (x = .bl b))) H
theorem op_isB2 : OpR X (compareOp .Is) (fun x y H Q => ∃ b, y = .bl b ∧ Q (.bl (decide (x = .bl b))) H) := by
  intro pins s σ H x y v u Q I rx ry h
  obtain ⟨b, rfl, q⟩ := h
  cases (show u = Value.bool b from ry)
  by_cases e : x = .bl b
  · subst e
    cases (show v = Value.bool b from rx)
    exact wpAny_is_self rfl ⟨.bl true, H, I, rfl, by simpa using q⟩
  · have hne : v ≠ Value.bool b := fun z => by
      subst z
      exact e (rx.inj (show RelV (.bl b) (Value.bool b) from rfl))
    refine wpAny_is_other ?_ hne ⟨.bl false, H, I, rfl, by simpa [e] using q⟩
    cases x <;> first
      | (cases rx; rfl)
      | (obtain ⟨t, rfl⟩ := rx; rfl)
theorem op_isNotB2 : OpR X (compareOp .IsNot) (fun x y H Q => ∃ b, y = .bl b ∧ Q (.bl (!decide (x = .bl b))) H) := by
  intro pins s σ H x y v u Q I rx ry h
  obtain ⟨b, rfl, q⟩ := h
  cases (show u = Value.bool b from ry)
  by_cases e : x = .bl b
  · subst e
    cases (show v = Value.bool b from rx)
    exact wpAny_isNot_self rfl ⟨.bl false, H, I, rfl, by simpa using q⟩
  · have hne : v ≠ Value.bool b := fun z => by
      subst z
      exact e (rx.inj (show RelV (.bl b) (Value.bool b) from rfl))
    refine wpAny_isNot_other ?_ hne ⟨.bl true, H, I, rfl, by simpa [e] using q⟩
    cases x <;> first
      | (cases rx; rfl)
      | (obtain ⟨t, rfl⟩ := rx; rfl)
theorem op_isA : OpR X (compareOp .Is) rIsA := op_isN.or op_isB2
theorem op_isNotA : OpR X (compareOp .IsNot) rIsNotA := op_notN.or op_isNotB2
theorem isNon_rep {F : List Addr} {H : Hp} {x : D} {v : V} (r : Rep g F H x v) : decide (v = .non) = isNon x := by cases r <;> rfl
theorem isBl_rep {F : List Addr} {H : Hp} {x : D} {v : V} {b : Bool} (r : Rep g F H x v) : decide (v = .bl b) = isBl b x := by
  cases r with
  | bl c => cases b <;> cases c <;> rfl
  | _ => rfl
theorem sim_is : Sim2 g dIs rIsA := fun F M σ H W x y v w Q R rx ry q => by
  unfold dIs at q
  split at q
  · cases ry; exact .inl ⟨rfl, by rw [isNon_rep rx]; exact q.here R (.bl _)⟩
  · cases ry; exact .inr ⟨_, rfl, by rw [isBl_rep rx]; exact q.here R (.bl _)⟩
  · exact q.elim
theorem sim_isNot : Sim2 g dIsNot rIsNotA := fun F M σ H W x y v w Q R rx ry q => by
  unfold dIsNot at q
  split at q
  · cases ry; exact .inl ⟨rfl, by rw [isNon_rep rx]; exact q.here R (.bl _)⟩
  · cases ry; exact .inr ⟨_, rfl, by rw [isBl_rep rx]; exact q.here R (.bl _)⟩
  · exact q.elim
mutual
theorem toP_rep {F : List Addr} {M : MH} {H : Hp} (R : RelM g F M H) : ∀ (k : Nat) (d : D) (v : V) (p : PyData), Rep g F H d v → toP M k d = some p → Dp g.K H v p
  | k, .non, v, p, r, h => by cases r; simp only [toP, toPa] at h; cases h; exact .non
  | k, .bl b, v, p, r, h => by cases r; simp only [toP, toPa] at h; cases h; exact .bl b
  | k, .int i, v, p, r, h => by cases r; simp only [toP, toPa] at h; cases h; exact .int i
  | k, .str x, v, p, r, h => by cases r; simp only [toP, toPa] at h; cases h; exact .str x
  | k, .tup ds, v, p, r, h => by
    rw [toP_tup] at h
    cases r with | tup h1 r1 =>
    cases hq : toPs M k ds with
    | none => rw [hq] at h; cases h
    | some ps => rw [hq] at h; cases h; exact .tup h1 (toPs_rep R k ds _ ps r1 hq)
  | k, .fro ds, v, p, r, h => by
    rw [toP_fro] at h
    cases r with | fro h1 r1 =>
    cases hq : toPs M k ds with
    | none => rw [hq] at h; cases h
    | some ps => rw [hq] at h; cases h; exact .lst h1.sq (toPs_rep R k ds _ ps r1 hq)
  | k + 1, .ref n, v, p, r, h => by
    rw [toP_ref] at h
    cases r with | ref h1 =>
    split at h
    · rename_i ds hd
      obtain ⟨vs, hv, r1⟩ := lst_at R h1 hd
      cases hq : toPs M k ds with
      | none => rw [hq] at h; cases h
      | some ps => rw [hq] at h; cases h; exact .lst (SqL.of hv) (toPs_rep R k ds _ ps r1 hq)
    · cases h
  | 0, .ref n, v, p, r, h => by simp [toP, toPa, rfOf] at h
  | k, .ty n, v, p, r, h => by simp [toP, toPa, rfOf] at h
  | k, .cls n, v, p, r, h => by simp [toP, toPa, rfOf] at h
  | k, .obj n, v, p, r, h => by simp [toP, toPa, rfOf] at h
  | k, .ins c ns ds, v, p, r, h => by simp [toP, toPa, rfOf] at h
termination_by k d => (k, sizeOf d)
theorem toPs_rep {F : List Addr} {M : MH} {H : Hp} (R : RelM g F M H) : ∀ (k : Nat) (ds : List D) (vs : List V) (ps : List PyData), Reps g F H ds vs → toPs M k ds = some ps → DpAll g.K H vs ps
  | k, [], vs, ps, r, h => by cases r; simp only [toPs, toPas] at h; cases h; exact .nil
  | k, d :: ds, vs, ps, r, h => by
    rw [toPs_cons] at h
    cases r with | cons r1 r2 =>
    cases hp : toP M k d with
    | none => rw [hp] at h; cases h
    | some p =>
      cases hq : toPs M k ds with
      | none => rw [hp, hq] at h; cases h
      | some qs => rw [hp, hq] at h; cases h; exact .cons (toP_rep R k d _ p r1 hp) (toPs_rep R k ds _ qs r2 hq)
termination_by k ds => (k, sizeOf ds)
end
theorem sim_eq (hK : g.K = X.K) : Sim2 g dEq (rEqD X.K) := fun F M σ H W x y v w Q R rx ry q => by
  unfold dEq at q
  split at q
  · rename_i p1 p2 h1 h2
    split at q
    · rename_i hs
      rw [← hK]
      exact ⟨p1, p2, toP_rep R 4 x v p1 rx h1, toP_rep R 4 y w p2 ry h2, hs.1, hs.2, q.here R (.bl _)⟩
    · exact q.elim
  · exact q.elim
theorem sim_ne (hK : g.K = X.K) : Sim2 g dNe (rNeD X.K) := fun F M σ H W x y v w Q R rx ry q => by
  unfold dNe at q
  split at q
  · rename_i p1 p2 h1 h2
    split at q
    · rename_i hs
      rw [← hK]
      exact ⟨p1, p2, toP_rep R 4 x v p1 rx h1, toP_rep R 4 y w p2 ry h2, hs.1, hs.2, q.here R (.bl _)⟩
    · exact q.elim
  · exact q.elim
theorem atI_rep {F : List Addr} {H : Hp} {ds : List D} {vs : List V} {i : Int} {d : D} (r : Reps g F H ds vs) (h : atI ds i = some d) : ∃ v, atI vs i = some v ∧ Rep g F H d v := by
  unfold atI at h ⊢
  rw [r.length] at h
  cases hj : ixN vs.length i with
  | none => rw [hj] at h; cases h
  | some j =>
    rw [hj] at h
    exact r.get h
theorem sim_ix (hK : g.K = X.K) : Sim2 g dIx (rIx X.K) := fun F M σ H W x y v w Q R rx ry q => by
  unfold dIx at q
  split at q
  · cases ry
    split at q
    · cases rx
      split at q
      · rename_i hl
        split at q
        · rename_i c hc
          exact .inr (.inr ⟨_, _, c, rfl, rfl, bigLine hl, hc, q.here R (.str _)⟩)
        · exact q.elim
      · exact q.elim
    · split at q
      · rename_i ds hd
        obtain ⟨a, vs, rfl, hs, r⟩ := items_at R rx hd
        split at q
        · rename_i d hx
          obtain ⟨z, hz, rz⟩ := atI_rep r hx
          rw [hK] at hs
          rcases hs with hs | hs
          · exact .inl ⟨a, vs, _, z, rfl, rfl, hs, hz, q.here R rz⟩
          · exact .inr (.inl ⟨a, vs, _, z, rfl, rfl, hs, hz, q.here R rz⟩)
        · exact q.elim
      · exact q.elim
  · exact q.elim
end
/-! ### expressions by these operations -/
section
variable {X : Cx} {g : Wd} {W : WY} {a b c : Expr} {pos p : Pos} {m1 m2 m3 : EM} {ma : AM} {es : List Expr}
theorem de_add (hK : g.K = X.K) (ha : PE X a (tD g W m1)) (hb : PE X b (tD g W m2)) : PE X (.BinOp a .Add b pos) (tD g W (eBin dAdd m1 m2)) := de_op op_addA (sim_add hK) ha hb
theorem de_sub (ha : PE X a (tD g W m1)) (hb : PE X b (tD g W m2)) : PE X (.BinOp a .Sub b pos) (tD g W (eBin dSub m1 m2)) := de_op op_sub sim_sub ha hb
theorem de_mul (ha : PE X a (tD g W m1)) (hb : PE X b (tD g W m2)) : PE X (.BinOp a .Mult b pos) (tD g W (eBin dMul m1 m2)) := de_op op_mul sim_mul ha hb
theorem de_div (ha : PE X a (tD g W m1)) (hb : PE X b (tD g W m2)) : PE X (.BinOp a .FloorDiv b pos) (tD g W (eBin dDiv m1 m2)) := de_op op_fdiv sim_div ha hb
theorem de_mod (ha : PE X a (tD g W m1)) (hb : PE X b (tD g W m2)) : PE X (.BinOp a .Mod b pos) (tD g W (eBin dMod m1 m2)) := de_op op_mod sim_mod ha hb
theorem de_pow (ha : PE X a (tD g W m1)) (hb : PE X b (tD g W m2)) : PE X (.BinOp a .Pow b pos) (tD g W (eBin dPow m1 m2)) := de_op op_pow sim_pow ha hb
theorem de_lt (ha : PE X a (tD g W m1)) (hb : PE X b (tD g W m2)) : PE X (.Compare a [.Lt] [b] pos) (tD g W (eBin dLt m1 m2)) := de_cmp op_lt sim_cmpI ha hb (nomark _)
theorem de_le (ha : PE X a (tD g W m1)) (hb : PE X b (tD g W m2)) : PE X (.Compare a [.LtE] [b] pos) (tD g W (eBin dLe m1 m2)) := de_cmp op_le sim_cmpI ha hb (nomark _)
theorem de_gt (ha : PE X a (tD g W m1)) (hb : PE X b (tD g W m2)) : PE X (.Compare a [.Gt] [b] pos) (tD g W (eBin dGt m1 m2)) := de_cmp op_gt sim_cmpI ha hb (nomark _)
theorem de_ge (ha : PE X a (tD g W m1)) (hb : PE X b (tD g W m2)) : PE X (.Compare a [.GtE] [b] pos) (tD g W (eBin dGe m1 m2)) := de_cmp op_ge sim_cmpI ha hb (nomark _)
theorem de_is (ha : PE X a (tD g W m1)) (hb : PE X b (tD g W m2)) : PE X (.Compare a [.Is] [b] pos) (tD g W (eBin dIs m1 m2)) := de_cmp op_isA sim_is ha hb (nomark _)
theorem de_isnot (ha : PE X a (tD g W m1)) (hb : PE X b (tD g W m2)) : PE X (.Compare a [.IsNot] [b] pos) (tD g W (eBin dIsNot m1 m2)) := de_cmp op_isNotA sim_isNot ha hb (nomark _)
theorem de_eq (hK : g.K = X.K) (hu : X.A.units + 64 < cLine) (ha : PE X a (tD g W m1)) (hb : PE X b (tD g W m2)) : PE X (.Compare a [.Eq] [b] pos) (tD g W (eBin dEq m1 m2)) := de_cmp (op_eqD hu) (sim_eq hK) ha hb (nomark _)
theorem de_ne (hK : g.K = X.K) (hu : X.A.units + 64 < cLine) (ha : PE X a (tD g W m1)) (hb : PE X b (tD g W m2)) : PE X (.Compare a [.NotEq] [b] pos) (tD g W (eBin dNe m1 m2)) := de_cmp (op_neD hu) (sim_ne hK) ha hb (nomark _)
theorem dt_lt (ha : PE X a (tD g W m1)) (hb : PE X b (tD g W m2)) : PT X (.Compare a [.Lt] [b] pos) (tB2 g W (bVal (eBin dLt m1 m2))) := dt_cmp op_lt sim_cmpI ha hb (nomark _)
theorem dt_le (ha : PE X a (tD g W m1)) (hb : PE X b (tD g W m2)) : PT X (.Compare a [.LtE] [b] pos) (tB2 g W (bVal (eBin dLe m1 m2))) := dt_cmp op_le sim_cmpI ha hb (nomark _)
theorem dt_gt (ha : PE X a (tD g W m1)) (hb : PE X b (tD g W m2)) : PT X (.Compare a [.Gt] [b] pos) (tB2 g W (bVal (eBin dGt m1 m2))) := dt_cmp op_gt sim_cmpI ha hb (nomark _)
theorem dt_ge (ha : PE X a (tD g W m1)) (hb : PE X b (tD g W m2)) : PT X (.Compare a [.GtE] [b] pos) (tB2 g W (bVal (eBin dGe m1 m2))) := dt_cmp op_ge sim_cmpI ha hb (nomark _)
theorem dt_is (ha : PE X a (tD g W m1)) (hb : PE X b (tD g W m2)) : PT X (.Compare a [.Is] [b] pos) (tB2 g W (bVal (eBin dIs m1 m2))) := dt_cmp op_isA sim_is ha hb (nomark _)
theorem dt_isnot (ha : PE X a (tD g W m1)) (hb : PE X b (tD g W m2)) : PT X (.Compare a [.IsNot] [b] pos) (tB2 g W (bVal (eBin dIsNot m1 m2))) := dt_cmp op_isNotA sim_isNot ha hb (nomark _)
theorem dt_eq (hK : g.K = X.K) (hu : X.A.units + 64 < cLine) (ha : PE X a (tD g W m1)) (hb : PE X b (tD g W m2)) : PT X (.Compare a [.Eq] [b] pos) (tB2 g W (bVal (eBin dEq m1 m2))) := dt_cmp (op_eqD hu) (sim_eq hK) ha hb (nomark _)
theorem dt_ne (hK : g.K = X.K) (hu : X.A.units + 64 < cLine) (ha : PE X a (tD g W m1)) (hb : PE X b (tD g W m2)) : PT X (.Compare a [.NotEq] [b] pos) (tB2 g W (bVal (eBin dNe m1 m2))) := dt_cmp (op_neD hu) (sim_ne hK) ha hb (nomark _)
theorem de_ix (hK : g.K = X.K) (ha : PE X a (tD g W m1)) (hb : PE X b (tD g W m2)) (hs : PlainIx b := by intro _ _; rfl) : PE X (.Subscript a b pos) (tD g W (eBin dIx m1 m2)) := pe_imp (pe_ix ix_seq ha hb hs) fun σ H Q q => bin_imp (sim_ix hK) q
/-- calls of built-ins -/
theorem de_callB {id : String} {x : Str} {r : List V → Hp → VK → Prop} {f : List D → MH → Res D} (hc : CallR X (.builtin id) r) (hs : SimA g f r) (hm : X.mg x = none) (hv : bootBuiltins x = some (.builtin id)) (ha : PA X (a :: es) (tA g W ma)) (hg : Gl X x := by rfl) (hn : x ≠ "__name__" := by decide)
    (hdb : (x == ("__debug__" : Str)) = false := by decide) (he : starEach (a :: es) X.env = (false, eval a X.env) :: starEach es X.env := by rfl) (hpl : (backTo pos (starEach es X.env)).any (·.1) = false := by rfl) : PE X (.Call (.Name x p) (a :: es) [] pos) (tD g W (eArgs f ma)) :=
  pe_imp (pe_callB hc hg hm hv ha hn hdb he hpl) fun σ H Q q => args_imp hs q
theorem de_callT {T : String} {x : Str} {r : List V → Hp → VK → Prop} {f : List D → MH → Res D} (hc : CallR X (.type T) r) (hs : SimA g f r) (hm : X.mg x = none) (hv : bootBuiltins x = some (.type T)) (ha : PA X (a :: es) (tA g W ma)) (hg : Gl X x := by rfl) (hn : x ≠ "__name__" := by decide)
    (hdb : (x == ("__debug__" : Str)) = false := by decide) (he : starEach (a :: es) X.env = (false, eval a X.env) :: starEach es X.env := by rfl) (hpl : (backTo pos (starEach es X.env)).any (·.1) = false := by rfl) : PE X (.Call (.Name x p) (a :: es) [] pos) (tD g W (eArgs f ma)) :=
  pe_imp (pe_callTy hc hg hm hv ha hn hdb he hpl) fun σ H Q q => args_imp hs q
end
end T2
namespace T2
open PySem L2
section
variable {X : Cx} {g : Wd} {W : WY} {a b c : Expr} {pos p : Pos} {m1 m2 m3 : EM} {ma : AM} {es : List Expr}
/-! ### built-ins -/
def rLenA (K : PySem.W.Frag) : List V → Hp → VK → Prop := fun xs H Q => (∃ p ys, xs = [.ref p] ∧ (SqL K H p ys ∨ SqT K H p ys) ∧ Q (.int ys.length) H) ∨ ∃ z, xs = [.str z] ∧ z.length ≤ sizeLine ∧ Q (.int z.length) H
theorem call_lenA : CallR X (.builtin "len") (rLenA X.K) := call_len_seq.or call_len_str
theorem one_rep {F : List Addr} {H : Hp} {d : D} {vs : List V} (r : Reps g F H [d] vs) : ∃ v, vs = [v] ∧ Rep g F H d v := by
  cases r with | cons h t => cases t; exact ⟨_, rfl, h⟩
theorem two_rep {F : List Addr} {H : Hp} {d e : D} {vs : List V} (r : Reps g F H [d, e] vs) : ∃ v w, vs = [v, w] ∧ Rep g F H d v ∧ Rep g F H e w := by
  cases r with | cons h t => cases t with | cons h2 t => cases t; exact ⟨_, _, rfl, h, h2⟩
theorem sim_len (hK : g.K = X.K) : SimA g dLen (rLenA X.K) := fun F M σ H W ds vs Q R r q => by
  unfold dLen at q
  split at q
  · obtain ⟨v, rfl, rv⟩ := one_rep r
    cases rv
    split at q
    · rename_i hl; exact .inr ⟨_, rfl, bigLine hl, q.here R (.int _)⟩
    · exact q.elim
  · obtain ⟨v, rfl, rv⟩ := one_rep r
    split at q
    · rename_i ys hy
      obtain ⟨a, us, rfl, hs, r⟩ := items_at R rv hy
      rw [hK] at hs
      exact .inl ⟨a, us, rfl, hs, by rw [← r.length]; exact q.here R (.int _)⟩
    · exact q.elim
  · exact q.elim
def rListA (K : PySem.W.Frag) : List V → Hp → VK → Prop := fun xs H Q => ∃ p ys, xs = [.ref p] ∧ (SqL K H p ys ∨ SqT K H p ys) ∧ ∀ l, H l = none → Q (.ref l) (upd H l (.lst ys))
theorem sim_listL (hK : g.K = X.K) : SimA g dListL (rListA X.K) := fun F M σ H W ds vs Q R r q => by
  unfold dListL at q
  split at q
  · obtain ⟨v, rfl, rv⟩ := one_rep r
    split at q
    · rename_i ys hy
      obtain ⟨a, us, rfl, hs, r⟩ := items_at R rv hy
      rw [hK] at hs
      exact ⟨a, us, rfl, hs, fun l hl => mkL_post R r q hl⟩
    · exact q.elim
  · exact q.elim
theorem sim_listF (hK : g.K = X.K) : SimA g dListF (rListA X.K) := fun F M σ H W ds vs Q R r q => by
  unfold dListF at q
  split at q
  · obtain ⟨v, rfl, rv⟩ := one_rep r
    split at q
    · rename_i ys hy
      obtain ⟨a, us, rfl, hs, r⟩ := items_at R rv hy
      rw [hK] at hs
      exact ⟨a, us, rfl, hs, fun l hl => mkF_post R r q hl⟩
    · exact q.elim
  · exact q.elim
def rTupA (K : PySem.W.Frag) : List V → Hp → VK → Prop := fun xs H Q => ∃ p ys, xs = [.ref p] ∧ ((SqL K H p ys ∧ ∀ l, H l = none → Q (.ref l) (upd H l (.tup ys))) ∨ (SqT K H p ys ∧ Q (.ref p) H))
theorem sim_tupF (hK : g.K = X.K) : SimA g dTupF (rTupA X.K) := fun F M σ H W ds vs Q R r q => by
  unfold dTupF at q
  split at q
  · obtain ⟨v, rfl, rv⟩ := one_rep r
    split at q
    · rename_i ys hy
      obtain ⟨a, us, rfl, hs, r⟩ := items_at R rv hy
      rcases hs with hs | hs
      · rw [hK] at hs; exact ⟨a, us, rfl, .inl ⟨hs, fun l hl => tup_post R r q hl⟩⟩
      · have hs' := hs; rw [hK] at hs'; exact ⟨a, us, rfl, .inr ⟨hs', q.here R (.tup hs r)⟩⟩
    · exact q.elim
  · exact q.elim
theorem sim_int1 : SimA g dInt (fun xs H Q => (∃ i, xs = [.int i] ∧ Q (.int i) H) ∨ ∃ k, xs = [.bl k] ∧ Q (.int (if k then 1 else 0)) H) := fun F M σ H W ds vs Q R r q => by
  unfold dInt at q
  split at q
  · obtain ⟨v, rfl, rv⟩ := one_rep r; cases rv; exact .inl ⟨_, rfl, q.here R (.int _)⟩
  · obtain ⟨v, rfl, rv⟩ := one_rep r; cases rv; exact .inr ⟨_, rfl, q.here R (.int _)⟩
  · exact q.elim
theorem sim_bool1 : SimA g dBool (fun xs H Q => (∃ i, xs = [.int i] ∧ Q (.bl (i != 0)) H) ∨ ∃ k, xs = [.bl k] ∧ Q (.bl k) H) := fun F M σ H W ds vs Q R r q => by
  unfold dBool at q
  split at q
  · obtain ⟨v, rfl, rv⟩ := one_rep r; cases rv; exact .inl ⟨_, rfl, q.here R (.bl _)⟩
  · obtain ⟨v, rfl, rv⟩ := one_rep r; cases rv; exact .inr ⟨_, rfl, q.here R (.bl _)⟩
  · exact q.elim
theorem sim_abs : SimA g dAbs (fun xs H Q => ∃ i, xs = [.int i] ∧ Q (.int (if i < 0 then -i else i)) H) := fun F M σ H W ds vs Q R r q => by
  unfold dAbs at q
  split at q
  · obtain ⟨v, rfl, rv⟩ := one_rep r; cases rv; exact ⟨_, rfl, q.here R (.int _)⟩
  · exact q.elim
theorem sim_max2 : SimA g dMax2 (fun xs H Q => ∃ i j, xs = [.int i, .int j] ∧ Q (.int (if j > i then j else i)) H) := fun F M σ H W ds vs Q R r q => by
  unfold dMax2 at q
  split at q
  · obtain ⟨v, w, rfl, rv, rw⟩ := two_rep r; cases rv; cases rw; exact ⟨_, _, rfl, q.here R (.int _)⟩
  · exact q.elim
theorem sim_min2 : SimA g dMin2 (fun xs H Q => ∃ i j, xs = [.int i, .int j] ∧ Q (.int (if j < i then j else i)) H) := fun F M σ H W ds vs Q R r q => by
  unfold dMin2 at q
  split at q
  · obtain ⟨v, w, rfl, rv, rw⟩ := two_rep r; cases rv; cases rw; exact ⟨_, _, rfl, q.here R (.int _)⟩
  · exact q.elim
section
variable (hK : g.K = X.K) (ha : PA X (a :: es) (tA g W ma)) (he : starEach (a :: es) X.env = (false, eval a X.env) :: starEach es X.env := by rfl) (hpl : (backTo pos (starEach es X.env)).any (·.1) = false := by rfl)
include ha he hpl
theorem de_len (hK : g.K = X.K) (hm : X.mg "len" = none) (hg : Gl X "len" := by rfl) : PE X (.Call (.Name "len" p) (a :: es) [] pos) (tD g W (eArgs dLen ma)) := de_callB call_lenA (sim_len hK) hm PySem.boot_len ha hg (by decide) (by decide) he hpl
theorem de_abs (hm : X.mg "abs" = none) (hg : Gl X "abs" := by rfl) : PE X (.Call (.Name "abs" p) (a :: es) [] pos) (tD g W (eArgs dAbs ma)) := de_callB call_abs sim_abs hm (by decide +kernel) ha hg (by decide) (by decide) he hpl
theorem de_max2 (hc : X.calm = true) (hm : X.mg "max" = none) (hg : Gl X "max" := by rfl) : PE X (.Call (.Name "max" p) (a :: es) [] pos) (tD g W (eArgs dMax2 ma)) := de_callB (call_max2 hc) sim_max2 hm (by decide +kernel) ha hg (by decide) (by decide) he hpl
theorem de_min2 (hc : X.calm = true) (hm : X.mg "min" = none) (hg : Gl X "min" := by rfl) : PE X (.Call (.Name "min" p) (a :: es) [] pos) (tD g W (eArgs dMin2 ma)) := de_callB (call_min2 hc) sim_min2 hm (by decide +kernel) ha hg (by decide) (by decide) he hpl
theorem de_intc (hm : X.mg "int" = none) (hg : Gl X "int" := by rfl) : PE X (.Call (.Name "int" p) (a :: es) [] pos) (tD g W (eArgs dInt ma)) := de_callT call_int1 sim_int1 hm (by decide +kernel) ha hg (by decide) (by decide) he hpl
theorem de_boolc (hm : X.mg "bool" = none) (hg : Gl X "bool" := by rfl) : PE X (.Call (.Name "bool" p) (a :: es) [] pos) (tD g W (eArgs dBool ma)) := de_callT call_bool1 sim_bool1 hm (by decide +kernel) ha hg (by decide) (by decide) he hpl
theorem de_listL (hK : g.K = X.K) (hm : X.mg "list" = none) (hg : Gl X "list" := by rfl) : PE X (.Call (.Name "list" p) (a :: es) [] pos) (tD g W (eArgs dListL ma)) := de_callT call_list_of (sim_listL hK) hm (by decide +kernel) ha hg (by decide) (by decide) he hpl
theorem de_listF (hK : g.K = X.K) (hm : X.mg "list" = none) (hg : Gl X "list" := by rfl) : PE X (.Call (.Name "list" p) (a :: es) [] pos) (tD g W (eArgs dListF ma)) := de_callT call_list_of (sim_listF hK) hm (by decide +kernel) ha hg (by decide) (by decide) he hpl
theorem de_tupc (hK : g.K = X.K) (hm : X.mg "tuple" = none) (hg : Gl X "tuple" := by rfl) : PE X (.Call (.Name "tuple" p) (a :: es) [] pos) (tD g W (eArgs dTupF ma)) := de_callT call_tuple_of (sim_tupF hK) hm (by decide +kernel) ha hg (by decide) (by decide) he hpl
end

/-! ### stores into lists -/
def dSetIx (o i v : D) (M : MH) : Option MH := match o, i with
  | .ref n, .int k => match M[n]? with
    | some (.lst ds) => match ixN ds.length k with
      | some j => some (M.set n (.lst (ds.set j v)))
      | none => none
    | _ => none
  | _, _ => none
/-- o[i] = v: v first, then o, then i -/
def sSetIx (f : D → D → D → MH → Option MH) (mo mi mv : EM) : SM := fun e M => (mv e M).toS e fun v M1 => (mo e M1).toS e fun o M2 => (mi e M2).toS e fun i M3 => match f o i v M3 with
  | some M4 => .nx e M4
  | none => .bad
def Sim3 (g : Wd) (f : D → D → D → MH → Option MH) (r : TSet) : Prop := ∀ (F : List Addr) (M M' : MH) (H : Hp) (o i x : D) (vo vi vx : V) (Q : Hp → Prop), RelM g F M H → Rep g F H o vo → Rep g F H i vi → Rep g F H x vx → f o i x M = some M' → (∀ H', Grow F H F H' → RelM g F M' H' → Q H') → r vo vi vx H Q
theorem sim_setL : Sim3 g dSetIx rSetL := fun F M M' H o i x vo vi vx Q R ro ri rx h k => by
  unfold dSetIx at h
  split at h
  · cases ro with | ref hn =>
    cases ri
    split at h
    · rename_i ds hd
      obtain ⟨vs, hv, r⟩ := lst_at R hn hd
      split at h
      · rename_i j hj
        cases h
        rw [r.length] at hj
        refine ⟨_, vs, _, j, rfl, rfl, hv, hj, ?_⟩
        obtain ⟨g1, R1⟩ := R.put (o := .lst (vs.set j vx)) (m := .lst (ds.set j x)) hn trivial fun H' gr => .lst ((r.mono gr R.good).set (rx.mono gr R.good) j)
        exact k _ g1 R1
      · cases h
    · cases h
  · cases h
theorem ds_setIx {f : D → D → D → MH → Option MH} {r : TSet} {o i : Expr} {pos' : Pos} (hp : PSet X r) (hs3 : Sim3 g f r) (ho : PE X o (tD g W m1)) (hi : PE X i (tD g W m2)) (hv : PE X a (tD g W m3))
    (hass : ∀ v, assign (.Subscript o i pos') X.env v = (do
      let ov ← holding [v] (eval o X.env)
      let iv ← holding [v, ov] (eval i X.env)
      standAt pos'
      holding [v, ov, iv] (setItem ov iv v)
      release [v, ov, iv] []) := by intro _; rfl)
    (hs : swapsWithSole [.Subscript o i pos'] a pos.line X.env = pure false := by rfl) (hw : swappedStores [.Subscript o i pos'] a X.env = pure none := by rfl) (h1 : (assignEach [.Subscript o i pos'] X.env).map (·.2) = [assign (.Subscript o i pos') X.env] := by rfl) :
    PS X (.Assign [.Subscript o i pos'] a pos) (tS g W (sSetIx f m1 m2 m3)) :=
  ps_imp (ps_asg hv (pg_sub ho hi hp hass) hs hw h1) fun E σ H ⟨F, e, M, RS, q⟩ => by
    refine ⟨F, e, M, RS, q.step RS fun x M1 F1 H1 vx _ g1 R1 rx q1 => ?_⟩
    refine ⟨F1, e, M1, RS.up g1 R1, q1.step (RS.up g1 R1) fun y M2 F2 H2 vo _ g2 R2 ro q2 => ?_⟩
    have RS2 := (RS.up g1 R1).up g2 R2
    refine ⟨F2, e, M2, RS2, q2.step RS2 fun z M3 F3 H3 vi _ g3 R3 ri q3 => ?_⟩
    have RS3 := RS2.up g3 R3
    split at q3
    · rename_i M4 h4
      refine hs3 F3 M3 M4 H3 y z x vo vi vx _ R3 (ro.mono g3 R2.good) ri ((rx.mono g2 R1.good).mono g3 R2.good) h4 fun H4 g4 R4 => ?_
      exact q3 F3 H4 σ g4 R4 (RS3.up g4 R4).e RS3.x
    · exact q3.elim
theorem ds_setL {o i : Expr} {pos' : Pos} (ho : PE X o (tD g W m1)) (hi : PE X i (tD g W m2)) (hv : PE X a (tD g W m3))
    (hass : ∀ v, assign (.Subscript o i pos') X.env v = (do
      let ov ← holding [v] (eval o X.env)
      let iv ← holding [v, ov] (eval i X.env)
      standAt pos'
      holding [v, ov, iv] (setItem ov iv v)
      release [v, ov, iv] []) := by intro _; rfl)
    (hs : swapsWithSole [.Subscript o i pos'] a pos.line X.env = pure false := by rfl) (hw : swappedStores [.Subscript o i pos'] a X.env = pure none := by rfl) (h1 : (assignEach [.Subscript o i pos'] X.env).map (·.2) = [assign (.Subscript o i pos') X.env] := by rfl) :
    PS X (.Assign [.Subscript o i pos'] a pos) (tS g W (sSetIx dSetIx m1 m2 m3)) := ds_setIx set_list sim_setL ho hi hv hass hs hw h1
end
end T2
namespace T2
open PySem L2
theorem fn_ok2 {P : Program} {w : World} {K : PySem.W.Frag} {mg : Str → Option Value} {base : Heap} {g : Wd} {x qual : Str} {st : Stmt} {f : Addr} {fd : FuncData} {N ps : List Str} {k : Nat} {b : SM} (F : Fun K x qual st f fd) (S : FnScope N ps (defScope st))
    (hbody : ∀ (cdv : Value) (A : Around) (outer : List Env) (s : Shared) (H : Hp) (E : XK), Room k (A.deeper (PyProof.Rows.envOfC qual (defScope st) s.heap.objs.size f cdv)) →
      L2N.Takes (cxOf (L2N.CX P w) P w K mg base N qual (defScope st) f cdv A outer s H E) (WY.mk (fun c d _ H => E c d H) ⟨[], []⟩).w →
      PassesOwn (model P w) (cxOf (L2N.CX P w) P w K mg base N qual (defScope st) f cdv A outer s H E).A (cxOf (L2N.CX P w) P w K mg base N qual (defScope st) f cdv A outer s H E).env (cxOf (L2N.CX P w) P w K mg base N qual (defScope st) f cdv A outer s H E).xe →
      PSs (cxOf (L2N.CX P w) P w K mg base N qual (defScope st) f cdv A outer s H E) (defBody st) (tS g ⟨fun c d _ H => E c d H, ⟨[], []⟩⟩ b)) : FnOk P w K mg base (L2N.CX P w) (k + 1) f fd ps (spD g ps.length (fnB N.length b)) :=
  fn_ok F S fun cdv A outer s H E hr => hbody cdv A outer s H E hr (L2N.takes_of rfl rfl rfl rfl) (passes_of (X := cxOf (L2N.CX P w) P w K mg base N qual (defScope st) f cdv A outer s H E) rfl)
end T2
namespace T2
open PySem L2

/-! ### instances: fields -/
def fieldOf (f : Str) (ns : List Str) (ds : List D) : Option D := (ns.zip ds).lookup f
/-- the class and the fields of an instance -/
def instOf (M : MH) : D → Option (Nat × List Str × List D)
  | .ins c ns ds => some (c, ns, ds)
  | .ref n => match M[n]? with
    | some (.ob c ns ds) => some (c, ns, ds)
    | _ => none
  | _ => none
def dFld (cs : List Nat) (f : Str) (x : D) (M : MH) : Res D := match instOf M x with
  | some (c, ns, ds) => if cs.contains c = true then (match fieldOf f ns ds with
    | some d => .ok d M
    | none => .bad) else .bad
  | none => .bad
def putN (f : Str) (d : D) : List Str → List D → List Str × List D
  | n :: ns, x :: ds => if n = f then (n :: ns, d :: ds) else ((n :: (putN f d ns ds).1), (x :: (putN f d ns ds).2))
  | _, _ => ([f], [d])
section
variable {g : Wd} {F : List Addr} {H : Hp} {M : MH}
theorem field_rep {f : Str} : ∀ {ns : List Str} {ds : List D} {vs : List V} {d : D}, Reps g F H ds vs → fieldOf f ns ds = some d → ∃ v, (ns.zip vs).lookup f = some v ∧ Rep g F H d v
  | [], _, _, _, _, h => by simp [fieldOf] at h
  | _ :: _, _, _, _, .nil, h => by simp [fieldOf] at h
  | n :: ns, _, _, d, .cons r t, h => by
    unfold fieldOf at h
    rw [List.zip_cons_cons, List.lookup_cons] at h ⊢
    cases hn : (f == n) with
    | true => rw [hn] at h; cases h; exact ⟨_, rfl, r⟩
    | false => rw [hn] at h; exact field_rep t h
theorem field_none {f : Str} : ∀ {ns : List Str} {vs : List V}, f ∉ ns → (ns.zip vs).lookup f = none
  | [], _, _ => by simp
  | _ :: _, [], _ => by simp
  | n :: ns, v :: vs, h => by
    rw [List.zip_cons_cons, List.lookup_cons]
    have hn : (f == n) = false := by simp at h ⊢; exact h.1
    rw [hn]
    exact field_none (by simp at h; exact h.2)
theorem inst_at {x : D} {v : V} {c : Nat} {ns : List Str} {ds : List D} (R : RelM g F M H) (r : Rep g F H x v) (h : instOf M x = some (c, ns, ds)) : ∃ a dx vs, v = .ref a ∧ H a = some (.ins (g.ca c) dx (ns.zip vs)) ∧ ns.length = vs.length ∧ Reps g F H ds vs := by
  cases r with
  | ins h1 h2 h3 r1 => cases h; exact ⟨_, _, _, rfl, h1, h3, r1⟩
  | ref h1 =>
    dsimp only [instOf] at h
    split at h
    · rename_i c' ns' ds' hd
      cases h
      obtain ⟨o, e, r1⟩ := R.obj _ _ _ h1 hd
      cases r1 with | ob hl r1 => exact ⟨_, _, _, rfl, e, hl, r1⟩
    · cases h
  | _ => cases h
end
structure ClsF (K : PySem.W.Frag) (ca : Nat → Addr) (cs : List Nat) (f : Str) : Prop where
  cl : ∀ c, cs.contains c = true → Cls K (ca c)
  na : ∀ c, cs.contains c = true → NoAttr K (ca c) f
section
variable {X : Cx} {g : Wd} {W : WY} {a b c : Expr} {pos p apos : Pos} {m1 m2 m3 : EM} {ma : AM} {es : List Expr} {o : Expr}
theorem de_fld {cs : List Nat} {f : Str} (hC : ClsF X.K g.ca cs f) (ha : PE X a (tD g W m1)) (hb : attributeBase a f X.env (eval a X.env) = eval a X.env := by rfl) : PE X (.Attribute a f pos) (tD g W (eUn (dFld cs f) m1)) :=
  pe_imp (pe_fld ha hb) fun σ H Q ⟨F, e, M, RS, q⟩ => ⟨F, e, M, RS, q.bind fun x M1 F1 H1 v e1 g1 R1 rx q1 => by
    unfold dFld at q1
    split at q1
    · rename_i c ns ds hi
      obtain ⟨ad, dx, vs, rfl, ha, hl, r⟩ := inst_at R1 rx hi
      split at q1
      · rename_i hc
        split at q1
        · rename_i d hd
          obtain ⟨u, hu, ru⟩ := field_rep r hd
          exact ⟨ad, _, dx, _, u, rfl, ha, hC.cl c hc, hC.na c hc, hu, q1.here R1 ru⟩
        · exact q1.elim
      · exact q1.elim
    · exact q1.elim⟩

/-! ### o.f = e -/
def dPutF (cs : List Nat) (f : Str) (x d : D) (M : MH) : Option MH := match x with
  | .ref n => match M[n]? with
    | some (.ob c ns ds) => if cs.contains c = true ∧ ns.length < 100 ∧ ns.length = ds.length then some (M.set n (.ob c (putN f d ns ds).1 (putN f d ns ds).2)) else none
    | _ => none
  | _ => none
def sPutF (cs : List Nat) (f : Str) (mo mv : EM) : SM := fun e M => (mv e M).toS e fun v M1 => (mo e M1).toS e fun o M2 => match dPutF cs f o v M2 with
  | some M3 => .nx e M3
  | none => .bad
theorem putN_rep {g : Wd} {F : List Addr} {H : Hp} {f : Str} {d : D} {v : V} (r : Rep g F H d v) : ∀ {ns : List Str} {ds : List D} {vs : List V}, ns.length = vs.length → Reps g F H ds vs →
    ∃ us, putF f v (ns.zip vs) = (putN f d ns ds).1.zip us ∧ (putN f d ns ds).1.length = us.length ∧ Reps g F H (putN f d ns ds).2 us
  | [], _, [], _, .nil => ⟨[v], rfl, rfl, .cons r .nil⟩
  | [], _, _ :: _, hl, _ => by simp at hl
  | _ :: _, _, [], hl, _ => by simp at hl
  | n :: ns, _, v0 :: vs, hl, .cons (d := d0) (ds := ds) r0 t => by
    simp only [List.length_cons, Nat.add_right_cancel_iff] at hl
    rw [List.zip_cons_cons]
    by_cases hn : n = f
    · refine ⟨v :: vs, ?_, ?_, ?_⟩
      · simp [putN, putF, hn]
      · simp [putN, hn, hl]
      · simp [putN, hn]; exact .cons r t
    · obtain ⟨us, h1, h2, h3⟩ := putN_rep (f := f) r hl t
      refine ⟨v0 :: us, ?_, ?_, ?_⟩
      · simp [putN, putF, hn, h1]
      · simp [putN, hn, h2]
      · simp [putN, hn]; exact .cons r0 h3
theorem ds_putF {cs : List Nat} {f : Str} (hC : ClsF X.K g.ca cs f) (ho : PE X o (tD g W m1)) (hv : PE X a (tD g W m2)) (hs : swapsWith a (some (.Attribute o f apos)) pos.line X.env = pure false := by rfl) :
    PS X (.Assign [.Attribute o f apos] a pos) (tS g W (sPutF cs f m1 m2)) :=
  ps_imp (ps_fld ho hv hs) fun E σ H ⟨F, e, M, RS, q⟩ => by
    refine ⟨F, e, M, RS, q.step RS fun x M1 F1 H1 vx _ g1 R1 rx q1 => ?_⟩
    refine ⟨F1, e, M1, RS.up g1 R1, q1.step (RS.up g1 R1) fun y M2 F2 H2 vo _ g2 R2 ro q2 => ?_⟩
    have RS2 := (RS.up g1 R1).up g2 R2
    split at q2
    · rename_i M4 h4
      unfold dPutF at h4
      split at h4
      · cases ro with | ref hn =>
        split at h4
        · rename_i c ns ds hd
          split at h4
          · rename_i hc
            cases h4
            obtain ⟨oo, e1, r1⟩ := R2.obj _ _ _ hn hd
            cases r1 with | ob hl r1 =>
            rename_i dx vs
            refine ⟨_, _, dx, _, rfl, e1, hC.cl c hc.1, hC.na c hc.1, ?_, ?_⟩
            · rw [List.length_zip, ← hl, Nat.min_self]; omega
            · obtain ⟨us, u1, u2, u3⟩ := putN_rep (f := f) (rx.mono g2 R1.good) hl r1
              obtain ⟨g3, R3⟩ := R2.put (o := .ins (g.ca c) dx (putF f vx (ns.zip vs))) (m := .ob c (putN f x ns ds).1 (putN f x ns ds).2) hn trivial fun H' gr => by
                rw [u1]; exact .ob u2 (u3.mono gr R2.good)
              exact q2 F2 _ σ g3 R3 (RS2.up g3 R3).e RS2.x
          · cases h4
        · cases h4
      · cases h4
    · exact q2.elim
end

/-! ### calls of methods, of classes; what is raised is wished for at the caller's slots -/
def tMethS (C : Addr) (m : Str) (sp : Sp) (E : L2.St → XK) (ta : TE) (t : TA) : TE := fun σ H Q => ta σ H fun x H1 => ∃ a dx fs, x = .ref a ∧ H1 a = some (.ins C dx fs) ∧ fs.lookup m = none ∧ t σ H1 fun vs H2 => sp (x :: vs) H2 Q (E σ)
def tMakeS (C : Addr) (sp : Sp) (E : L2.St → XK) (t : TA) : TE := fun σ H Q => t σ H fun vs H1 => ∀ x dx, H1 x = none → H1 dx = none → dx ≠ x →
  sp (.ref x :: vs) (upd (upd H1 dx (.own x)) x (.ins C dx [])) (fun v H2 => v = .non ∧ Q (.ref x) H2) (E σ)
section
variable {X : Cx} {CX : CXT} {k : Nat} {f C : Addr} {fd : FuncData} {ps : List Str} {sp : Sp} {E : L2.St → XK} {x m : Str} {p pos apos : Pos} {e o : Expr} {es : List Expr} {ta : TE} {t : TA}
theorem pe_call0S (G : FnOk X.prog X.w X.K X.mg X.base CX k f fd ps sp) (hr : Room k X.A) (hm : X.mg x = some (.ref f)) (hk : PySem.W.keepIn X.K (.ref f) = true) (hb : Binds X.K fd ps []) (hx : ∀ σ, PassesAt CX X σ (E σ)) (hg : Gl X x)
    (hdb : (x == ("__debug__" : Str)) = false) : PE X (.Call (.Name x p) [] [] pos) (fun σ H Q => sp [] H Q (E σ)) :=
  ⟨fun pins s σ H Q I h => wpAny_Call_Name_kw (ld_glob I hg hm (PySem.W.callWith_K0 I.kIn hk (run_fnSD (dvs := []) (ds := []) (vs := []) (us := []) G hr hb .nil (hx σ) I .nil h)) hdb)⟩
theorem pe_methS {pl : Sem Bool} (he : PE X o ta) (c : Cls X.K C) (hm : Meth X.K C m f) (G : FnOk X.prog X.w X.K X.mg X.base CX k f fd ps sp) (hr : Room k X.A) (hb : Binds X.K fd ps []) (hx : ∀ σ, PassesAt CX X σ (E σ)) (ha : PA X (e :: es) t)
    (hst : starEach (e :: es) X.env = (false, eval e X.env) :: starEach es X.env) (hpl : (backTo pos (starEach es X.env)).any (·.1) = false)
    (ht : eval (.Call (.Attribute o m apos) (e :: es) [] pos) X.env = (do let ov ← eval o X.env; standAt apos.atName; let (f, first) ← holding [ov] (getMethod ov m pl); callWith pos f first (backTo pos (starEach (e :: es) X.env)) (backToKw pos (keywordEach [] X.env)))) :
    PE X (.Call (.Attribute o m apos) (e :: es) [] pos) (tMethS C m sp E ta t) := by
  refine ⟨fun pins s σ H Q I h => PySem.W.methodCall_KW (pl := pl) (thn (he.run pins s σ H _ I h) ?_) ht⟩
  rintro u s1 ⟨y, H1, I1, rx, a, dx, fs, rfl, ea, l, q⟩
  obtain rfl : u = Value.ref a := rx
  refine getmeth_ok I1 ea c hm l (PySem.W.callWith_K (first := [.ref a]) (h₀ := X.base) I.ok.mod.kin hm.kp (thn (ha.run pos pins s1 σ H1 _ I1 q) ?_) hst hpl)
  rintro us s2 ⟨vs, H2, I2, r, q2⟩
  exact ⟨I2.kIn, run_fnSD (dvs := []) (ds := []) (us := .ref a :: us) (vs := .ref a :: vs) G hr hb .nil (hx σ) I2 (.cons rfl r) (by simpa using q2)⟩
theorem pe_meth0S {pl : Sem Bool} (he : PE X o ta) (c : Cls X.K C) (hm : Meth X.K C m f) (G : FnOk X.prog X.w X.K X.mg X.base CX k f fd ps sp) (hr : Room k X.A) (hb : Binds X.K fd ps []) (hx : ∀ σ, PassesAt CX X σ (E σ))
    (ht : eval (.Call (.Attribute o m apos) [] [] pos) X.env = (do let ov ← eval o X.env; standAt apos.atName; let (f, first) ← holding [ov] (getMethod ov m pl); callWith pos f first (backTo pos (starEach [] X.env)) (backToKw pos (keywordEach [] X.env)))) :
    PE X (.Call (.Attribute o m apos) [] [] pos) (tMethS C m sp E ta tNil) := by
  refine ⟨fun pins s σ H Q I h => PySem.W.methodCall_KW (pl := pl) (thn (he.run pins s σ H _ I h) ?_) ht⟩
  rintro u s1 ⟨y, H1, I1, rx, a, dx, fs, rfl, ea, l, q⟩
  obtain rfl : u = Value.ref a := rx
  exact getmeth_ok I1 ea c hm l (PySem.W.callWith_K0 (first := [.ref a]) I1.kIn hm.kp (run_fnSD (dvs := []) (ds := []) (us := [.ref a]) (vs := [.ref a]) G hr hb .nil (hx σ) I1 (.cons rfl .nil) q))
theorem run_makeS {pins : List (Addr × Obj)} {σ : L2.St} {H : Hp} {s : Shared} {Q : VK} {us : List Value} {vs : List V} (Mc : Mk X.K C f) (G : FnOk X.prog X.w X.K X.mg X.base CX k f fd ps sp) (hr : Room (k + 1) X.A) (hb : Binds X.K fd ps [])
    (hx : PassesAt CX X σ (E σ)) (I : Inv X pins σ H s) (r : Vals vs us)
    (h : ∀ x dx, H x = none → H dx = none → dx ≠ x → sp (.ref x :: vs) (upd (upd H dx (.own x)) x (.ins C dx [])) (fun v H2 => v = .non ∧ Q (.ref x) H2) (E σ)) :
    wpAny (model X.prog X.w) X.A (call (.ref C) us) (EP X pins σ Q) X.xe s := by
  have hq := h (s.heap.objs.size + 1) s.heap.objs.size (I.hok.fresh (Nat.le_succ _)) (I.hok.fresh (Nat.le_refl _)) (Nat.ne_of_lt (Nat.lt_succ_self _))
  have I2 := Inv.made (C := C) I
  have r2 : Vals (V.ref (s.heap.objs.size + 1) :: vs) (Value.ref (s.heap.objs.size + 1) :: us) := .cons rfl r
  have hl : (Value.ref (s.heap.objs.size + 1) :: us).length = ps.length := by rw [← r2.length]; exact G.len _ _ _ _ hq
  have hbd := hb _ (Value.ref (s.heap.objs.size + 1) :: us) I2.kIn (by simpa using hl)
  rw [List.append_nil] at hbd
  refine wpAny_call (make_map (f := f) I.kIn Mc.makes Mc.init (beq_iff_eq.mp Mc.fn) (codeAny_mono (G.run _ X.stack _ _ ⟨Value.ref (s.heap.objs.size + 1) :: us, []⟩ _ _ _ (E σ) (hr.make C us []) (I2.env0.make C us []) hbd r2 hq) ?_))
  intro r s' hq'
  cases r with
  | error e => exact hx pins _ _ e s' I2 hq'
  | ok fl =>
    cases fl with
    | ret u => obtain ⟨v, H', I3, rv, ev, q3⟩ := I2.after hq'; subst ev; exact ⟨rv, V.ref (s.heap.objs.size + 1), H', I3, rfl, q3⟩
    | next => exact hq'.elim
    | brk => exact hq'.elim
    | cont => exact hq'.elim
theorem pe_makeS (Mc : Mk X.K C f) (G : FnOk X.prog X.w X.K X.mg X.base CX k f fd ps sp) (hr : Room (k + 1) X.A) (hm : X.mg x = some (.ref C)) (hb : Binds X.K fd ps []) (hx : ∀ σ, PassesAt CX X σ (E σ)) (ha : PA X (e :: es) t) (hg : Gl X x) (hdb : (x == ("__debug__" : Str)) = false)
    (he : starEach (e :: es) X.env = (false, eval e X.env) :: starEach es X.env) (hpl : (backTo pos (starEach es X.env)).any (·.1) = false) : PE X (.Call (.Name x p) (e :: es) [] pos) (tMakeS C sp E t) := by
  refine ⟨fun pins s σ H Q I h => wpAny_Call_Name_kw (ld_glob I hg hm (PySem.W.callWith_K (h₀ := X.base) I.ok.mod.kin Mc.kp (thn (ha.run pos pins s σ H _ I h) ?_) he hpl) hdb)⟩
  rintro us s1 ⟨vs, H1, I1, r, q⟩
  exact ⟨I1.kIn, run_makeS Mc G hr hb (hx σ) I1 r q⟩
theorem pe_make0S (Mc : Mk X.K C f) (G : FnOk X.prog X.w X.K X.mg X.base CX k f fd ps sp) (hr : Room (k + 1) X.A) (hm : X.mg x = some (.ref C)) (hb : Binds X.K fd ps []) (hx : ∀ σ, PassesAt CX X σ (E σ)) (hg : Gl X x) (hdb : (x == ("__debug__" : Str)) = false) : PE X (.Call (.Name x p) [] [] pos) (tMakeS C sp E tNil) :=
  ⟨fun pins s σ H Q I h => wpAny_Call_Name_kw (ld_glob I hg hm (PySem.W.callWith_K0 I.kIn Mc.kp (run_makeS (us := []) Mc G hr hb (hx σ) I .nil h)) hdb)⟩
end

/-! ### .. over trees -/
/-- o.m(..): o an instance of the class c that has no field m -/
def eMeth (c : Nat) (m : Str) (n : Nat) (f : List D → MH → Res D) (mo : EM) (ma : AM) : EM := fun e M => (mo e M).bind fun x M1 => match instOf M1 x with
  | some (c', ns, _) => if c' = c ∧ m ∉ ns then (ma e M1).bind fun ds M2 => if ds.length + 1 = n then f (x :: ds) M2 else .bad else .bad
  | none => .bad
/-- C(..), an instance that may change -/
def eMake (c n : Nat) (f : List D → MH → Res D) (ma : AM) : EM := fun e M => (ma e M).bind fun ds M1 => if ds.length + 1 = n then (f (.ref M1.length :: ds) (M1 ++ [.ob c [] []])).bind fun r M2 => match r with
  | .non => .ok (.ref M1.length) M2
  | _ => .bad else .bad
/-- an __init__ that stores its arguments in its fields and does nothing else -/
def initC (c : Nat) (fs : List Str) : List D → MH → Res D := fun ds M => match ds with
  | .ref n :: xs => match M[n]? with
    | some (.ob c' [] []) => if xs.length = fs.length ∧ c' = c then .ok .non (M.set n (.ob c fs xs)) else .bad
    | _ => .bad
  | _ => .bad
/-- C(..), an instance that never changes -/
def eMakeF (c : Nat) (fs : List Str) (ma : AM) : EM := eArgs (fun ds M => if ds.length = fs.length then .ok (.ins c fs ds) M else .bad) ma
section
variable {X : Cx} {g : Wd} {W : WY} {a b o : Expr} {pos p apos : Pos} {m1 m2 : EM} {ma : AM} {es : List Expr} {k n : Nat} {f C : Addr} {fd : FuncData} {ps : List Str} {m : List D → MH → Res D} {x mn : Str} {c : Nat}
theorem de_call0 (G : FnOk X.prog X.w X.K X.mg X.base (L2N.CX X.prog X.w) k f fd ps (spD g 0 m)) (hr : Room k X.A) (tk : L2N.Takes X W.w) (hm : X.mg x = some (.ref f)) (hk : PySem.W.keepIn X.K (.ref f) = true) (hb : Binds X.K fd ps []) (hg : Gl X x := by rfl)
    (hdb : (x == ("__debug__" : Str)) = false := by decide) : PE X (.Call (.Name x p) [] [] pos) (tD g W (eCall 0 m eNil)) :=
  pe_imp (pe_call0S G hr hm hk hb (fun σ => L2N.passAt tk σ) hg hdb) fun σ H Q ⟨F, e, M, RS, q⟩ => ⟨rfl, F, M, [], RS.m, .nil, post_call q⟩
theorem meth_imp {σ : L2.St} {H : Hp} {Q : VK} {t : TA} (ht : ∀ σ H Q, tA g W ma σ H Q → t σ H Q) (q : tD g W (eMeth c mn n m m1 ma) σ H Q) : tMethS (g.ca c) mn (spD g n m) (WE W.w) (tD g W m1) t σ H Q := by
  obtain ⟨F, e, M, RS, q⟩ := q
  refine ⟨F, e, M, RS, q.bind fun y M1 F1 H1 v e1 g1 R1 rx q1 => ?_⟩
  split at q1
  · rename_i c' ns xs hi
    split at q1
    · rename_i hc
      obtain ⟨rfl, hn⟩ := hc
      obtain ⟨ad, dx, vs, rfl, ha, hl, r⟩ := inst_at R1 rx hi
      refine ⟨ad, dx, _, rfl, ha, field_none hn, ht _ _ _ ⟨F1, e, M1, RS.up g1 R1, q1.bind fun ds M2 F2 H2 us e2 g2 R2 rs q2 => ?_⟩⟩
      split at q2
      · rename_i hlen
        exact ⟨by simp [← rs.length, hlen], F2, M2, y :: ds, R2, .cons (rx.mono g2 R1.good) rs, post_call q2⟩
      · exact q2.elim
    · exact q1.elim
  · exact q1.elim
theorem de_meth {pl : Sem Bool} (ho : PE X o (tD g W m1)) (cl : Cls X.K (g.ca c)) (hm : Meth X.K (g.ca c) mn f) (G : FnOk X.prog X.w X.K X.mg X.base (L2N.CX X.prog X.w) k f fd ps (spD g n m)) (hr : Room k X.A) (tk : L2N.Takes X W.w) (hb : Binds X.K fd ps []) (ha : PA X (a :: es) (tA g W ma))
    (hst : starEach (a :: es) X.env = (false, eval a X.env) :: starEach es X.env := by rfl) (hpl : (backTo pos (starEach es X.env)).any (·.1) = false := by rfl)
    (ht : eval (.Call (.Attribute o mn apos) (a :: es) [] pos) X.env = (do let ov ← eval o X.env; standAt apos.atName; let (f, first) ← holding [ov] (getMethod ov mn pl); callWith pos f first (backTo pos (starEach (a :: es) X.env)) (backToKw pos (keywordEach [] X.env))) := by rfl) :
    PE X (.Call (.Attribute o mn apos) (a :: es) [] pos) (tD g W (eMeth c mn n m m1 ma)) :=
  pe_imp (pe_methS ho cl hm G hr hb (fun σ => L2N.passAt tk σ) ha hst hpl ht) fun σ H Q q => meth_imp (fun _ _ _ h => h) q
theorem de_meth0 {pl : Sem Bool} (ho : PE X o (tD g W m1)) (cl : Cls X.K (g.ca c)) (hm : Meth X.K (g.ca c) mn f) (G : FnOk X.prog X.w X.K X.mg X.base (L2N.CX X.prog X.w) k f fd ps (spD g n m)) (hr : Room k X.A) (tk : L2N.Takes X W.w) (hb : Binds X.K fd ps [])
    (ht : eval (.Call (.Attribute o mn apos) [] [] pos) X.env = (do let ov ← eval o X.env; standAt apos.atName; let (f, first) ← holding [ov] (getMethod ov mn pl); callWith pos f first (backTo pos (starEach [] X.env)) (backToKw pos (keywordEach [] X.env))) := by rfl) :
    PE X (.Call (.Attribute o mn apos) [] [] pos) (tD g W (eMeth c mn n m m1 eNil)) :=
  pe_imp (pe_meth0S ho cl hm G hr hb (fun σ => L2N.passAt tk σ) ht) fun σ H Q q => meth_imp (fun σ H Q ⟨F, e, M, RS, h⟩ => h.here RS.m .nil) q
theorem make_imp {σ : L2.St} {H : Hp} {Q : VK} {t : TA} (ht : ∀ σ H Q, tA g W ma σ H Q → t σ H Q) (q : tD g W (eMake c n m ma) σ H Q) : tMakeS (g.ca c) (spD g n m) (WE W.w) t σ H Q := by
  obtain ⟨F, e, M, RS, q⟩ := q
  refine ht _ _ _ ⟨F, e, M, RS, q.bind fun ds M1 F1 H1 vs e1 g1 R1 rs q1 x dx hx hdx hne => ?_⟩
  split at q1
  · rename_i hl
    obtain ⟨g2, R2⟩ := R1.still (o := .own x) hdx
    have hx2 : upd H1 dx (.own x) x = none := by rw [upd_ne (Ne.symm hne)]; exact hx
    obtain ⟨g3, R3⟩ := R2.laid (m := .ob c [] []) (o := .ins (g.ca c) dx []) hx2 fun F' H' gr => .ob (vs := []) rfl .nil
    have gr := g2.trans g3
    refine ⟨by simp [← rs.length, hl], F1 ++ [x], M1 ++ [.ob c [] []], .ref M1.length :: ds, R3, .cons (.ref (by rw [← R1.len]; simp)) (rs.mono gr R1.good), ?_⟩
    refine (post_call (q1.up gr)).bind fun d M4 F4 H4 v e4 g4 R4 rv q4 => ?_
    cases d with
    | non =>
      cases rv
      refine ⟨rfl, q4.here R4 (.ref (pre_get g4.pre (by rw [← R1.len]; simp)))⟩
    | _ => exact q4.elim
  · exact q1.elim
theorem de_make (Mc : Mk X.K (g.ca c) f) (G : FnOk X.prog X.w X.K X.mg X.base (L2N.CX X.prog X.w) k f fd ps (spD g n m)) (hr : Room (k + 1) X.A) (tk : L2N.Takes X W.w) (hm : X.mg x = some (.ref (g.ca c))) (hb : Binds X.K fd ps []) (ha : PA X (a :: es) (tA g W ma)) (hg : Gl X x := by rfl)
    (hdb : (x == ("__debug__" : Str)) = false := by decide) (he : starEach (a :: es) X.env = (false, eval a X.env) :: starEach es X.env := by rfl) (hpl : (backTo pos (starEach es X.env)).any (·.1) = false := by rfl) :
    PE X (.Call (.Name x p) (a :: es) [] pos) (tD g W (eMake c n m ma)) := pe_imp (pe_makeS Mc G hr hm hb (fun σ => L2N.passAt tk σ) ha hg hdb he hpl) fun σ H Q q => make_imp (fun _ _ _ h => h) q
theorem de_make0 (Mc : Mk X.K (g.ca c) f) (G : FnOk X.prog X.w X.K X.mg X.base (L2N.CX X.prog X.w) k f fd ps (spD g n m)) (hr : Room (k + 1) X.A) (tk : L2N.Takes X W.w) (hm : X.mg x = some (.ref (g.ca c))) (hb : Binds X.K fd ps []) (hg : Gl X x := by rfl)
    (hdb : (x == ("__debug__" : Str)) = false := by decide) : PE X (.Call (.Name x p) [] [] pos) (tD g W (eMake c n m eNil)) := pe_imp (pe_make0S Mc G hr hm hb (fun σ => L2N.passAt tk σ) hg hdb) fun σ H Q q => make_imp (fun σ H Q ⟨F, e, M, RS, h⟩ => h.here RS.m .nil) q
theorem makeF_imp {fs : List Str} {σ : L2.St} {H : Hp} {Q : VK} {t : TA} (ht : ∀ σ H Q, tA g W ma σ H Q → t σ H Q) (q : tD g W (eMakeF c fs ma) σ H Q) : tMakeS (g.ca c) (spD g (fs.length + 1) (initC c fs)) (WE W.w) t σ H Q := by
  obtain ⟨F, e, M, RS, q⟩ := q
  refine ht _ _ _ ⟨F, e, M, RS, q.bind fun ds M1 F1 H1 vs e1 g1 R1 rs q1 x dx hx hdx hne => ?_⟩
  split at q1
  · rename_i hl
    obtain ⟨g2, R2⟩ := R1.still (o := .own x) hdx
    have hx2 : upd H1 dx (.own x) x = none := by rw [upd_ne (Ne.symm hne)]; exact hx
    obtain ⟨g3, R3⟩ := R2.laid (m := .ob c [] []) (o := .ins (g.ca c) dx []) hx2 fun F' H' gr => .ob (vs := []) rfl .nil
    have gr := g2.trans g3
    refine ⟨by simp [← rs.length, hl], F1 ++ [x], M1 ++ [.ob c [] []], .ref M1.length :: ds, R3, .cons (.ref (by rw [← R1.len]; simp)) (rs.mono gr R1.good), ?_⟩
    have hM : (M1 ++ [MO.ob c [] []])[M1.length]? = some (.ob c [] []) := by simp
    have hs : (M1 ++ [MO.ob c [] []]).set M1.length (.ob c fs ds) = M1 ++ [.ob c fs ds] := by simp
    unfold initC
    dsimp only
    rw [hM]
    dsimp only
    rw [if_pos ⟨hl, rfl⟩, hs]
    intro F4 H4 v g4 R4 rv
    cases rv
    refine ⟨rfl, ?_⟩
    have low := rs.low
    have hpx : F4[M1.length]? = some x := pre_get g4.pre (by rw [← R1.len]; simp)
    obtain ⟨h, eh, rh⟩ := R4.obj _ _ _ hpx (by simp : (M1 ++ [MO.ob c fs ds])[M1.length]? = some (.ob c fs ds))
    cases rh with | ob hlen rr =>
    have RC := R4.cut R1.low
    have GC := (gr.trans g4).cut (k := M1.length) (by rw [R1.len]; exact Nat.le_refl _)
    refine q1.ok GC RC (.ins eh (fun z => ?_) hlen (rr.cut (by rw [← R1.len]; exact low)))
    obtain ⟨j, hj⟩ := List.getElem?_of_mem z
    have hjl : j < M1.length := by
      have := (List.getElem?_eq_some_iff.mp hj).1
      rw [List.length_take] at this; omega
    rw [List.getElem?_take_of_lt hjl] at hj
    have := (List.getElem?_inj (List.getElem?_eq_some_iff.mp hj).1 R4.nd).mp (hj.trans hpx.symm)
    omega
  · exact q1.elim
theorem de_makeF {fs : List Str} (Mc : Mk X.K (g.ca c) f) (G : FnOk X.prog X.w X.K X.mg X.base (L2N.CX X.prog X.w) k f fd ps (spD g (fs.length + 1) (initC c fs))) (hr : Room (k + 1) X.A) (tk : L2N.Takes X W.w) (hm : X.mg x = some (.ref (g.ca c))) (hb : Binds X.K fd ps []) (ha : PA X (a :: es) (tA g W ma)) (hg : Gl X x := by rfl)
    (hdb : (x == ("__debug__" : Str)) = false := by decide) (he : starEach (a :: es) X.env = (false, eval a X.env) :: starEach es X.env := by rfl) (hpl : (backTo pos (starEach es X.env)).any (·.1) = false := by rfl) :
    PE X (.Call (.Name x p) (a :: es) [] pos) (tD g W (eMakeF c fs ma)) := pe_imp (pe_makeS Mc G hr hm hb (fun σ => L2N.passAt tk σ) ha hg hdb he hpl) fun σ H Q q => makeF_imp (fun _ _ _ h => h) q
end
end T2
namespace T2
open PySem L2

/-! ### flat values, membership -/
def vOf : D → V
  | .bl b => .bl b
  | .int i => .int i
  | .str x => .str x
  | _ => .non
def flatD : D → Bool
  | .non => true
  | .bl _ => true
  | .int _ => true
  | .str _ => true
  | _ => false
theorem flat_rep {g : Wd} {F : List Addr} {H : Hp} {d : D} {v : V} (r : Rep g F H d v) (h : flatD d = true) : v = vOf d ∧ flatV v = true := by cases r <;> first | exact ⟨rfl, rfl⟩ | cases h
theorem flats_rep {g : Wd} {F : List Addr} {H : Hp} : ∀ {ds : List D} {vs : List V}, Reps g F H ds vs → ds.all flatD = true → vs = ds.map vOf ∧ vs.all flatV = true
  | _, _, .nil, _ => ⟨rfl, rfl⟩
  | _, _, .cons r t, h => by
    rw [List.all_cons, Bool.and_eq_true] at h
    obtain ⟨h1, h2⟩ := flat_rep r h.1
    obtain ⟨h3, h4⟩ := flats_rep t h.2
    exact ⟨by rw [h1, h3]; rfl, by rw [List.all_cons, h2, h4]; rfl⟩
def memD (x : D) (ys : List D) : Bool := inV (vOf x) (ys.map vOf)
/-- x in y: flat items; a sign in a text -/
def inRes (x y : D) (M : MH) : Option Bool := match y with
  | .str z => match x with
    | .str w => match w.cps.toList with
      | [c] => some (decide (c ∈ z.cps.toList))
      | _ => none
    | _ => none
  | y => match items M y with
    | some ds => if flatD x = true ∧ ds.all flatD = true then some (memD x ds) else none
    | none => none
def dIn (x y : D) (M : MH) : Res D := match inRes x y M with
  | some b => .ok (.bl b) M
  | none => .bad
def dNotIn (x y : D) (M : MH) : Res D := match inRes x y M with
  | some b => .ok (.bl (!b)) M
  | none => .bad
def rInA (K : PySem.W.Frag) : R2 := fun x y H Q => rIn K false x y H Q ∨ ∃ (c : Nat) (z : Str), x = .str ⟨#[c]⟩ ∧ y = .str z ∧ Q (.bl (decide (c ∈ z.cps.toList))) H
def rNotInA (K : PySem.W.Frag) : R2 := fun x y H Q => rIn K true x y H Q ∨ ∃ (c : Nat) (z : Str), x = .str ⟨#[c]⟩ ∧ y = .str z ∧ Q (.bl (!decide (c ∈ z.cps.toList))) H
theorem op_inA {X : Cx} : OpR X (compareOp .In) (rInA X.K) := op_in_seq.or op_in_sign
theorem op_notInA {X : Cx} : OpR X (compareOp .NotIn) (rNotInA X.K) := op_notIn_seq.or op_notIn_sign
theorem in_at {g : Wd} {F : List Addr} {M : MH} {H : Hp} {x y : D} {v w : V} {b : Bool} (R : RelM g F M H) (rx : Rep g F H x v) (ry : Rep g F H y w) (h : inRes x y M = some b) :
    (∃ p vs, w = .ref p ∧ (SqL g.K H p vs ∨ SqT g.K H p vs) ∧ flatV v = true ∧ vs.all flatV = true ∧ inV v vs = b) ∨ ∃ (c : Nat) (z : Str), v = .str ⟨#[c]⟩ ∧ w = .str z ∧ decide (c ∈ z.cps.toList) = b := by
  have key : ∀ ds, items M y = some ds → (if flatD x = true ∧ ds.all flatD = true then some (memD x ds) else none) = some b → ∃ p vs, w = .ref p ∧ (SqL g.K H p vs ∨ SqT g.K H p vs) ∧ flatV v = true ∧ vs.all flatV = true ∧ inV v vs = b := fun ds hd h => by
    split at h
    · rename_i hf
      cases h
      obtain ⟨p, vs, rfl, hs, r⟩ := items_at R ry hd
      obtain ⟨h1, h2⟩ := flat_rep rx hf.1
      obtain ⟨h3, h4⟩ := flats_rep r hf.2
      exact ⟨p, vs, rfl, hs, h2, h4, by rw [h1, h3]; rfl⟩
    · cases h
  cases y with
  | str z =>
    cases x with
    | str u =>
      dsimp only [inRes] at h
      split at h
      · rename_i c hc
        cases h; cases rx; cases ry
        refine .inr ⟨c, z, ?_, rfl, rfl⟩
        obtain ⟨arr⟩ := u
        have : arr = #[c] := by
          have h2 : arr.toList = [c] := hc
          rw [← Array.toList_inj, h2]
        rw [this]
      · cases h
    | _ => cases h
  | _ =>
    dsimp only [inRes] at h
    split at h
    · rename_i ds hd
      exact .inl (key ds hd h)
    · cases h
section
variable {X : Cx} {g : Wd} {W : WY} {a b c : Expr} {pos p : Pos} {m1 m2 m3 : EM} {ma : AM} {es : List Expr}
theorem sim_in (hK : g.K = X.K) : Sim2 g dIn (rInA X.K) := fun F M σ H W x y v w Q R rx ry q => by
  unfold dIn at q
  split at q
  · rename_i bb hb
    rcases in_at R rx ry hb with ⟨ad, vs, rfl, hs, f1, f2, e⟩ | ⟨cc, z, rfl, rfl, e⟩
    · rw [hK] at hs; exact .inl ⟨ad, vs, rfl, hs, f1, f2, by simp only [Bool.false_eq_true, if_false]; rw [e]; exact q.here R (.bl _)⟩
    · exact .inr ⟨cc, z, rfl, rfl, by rw [e]; exact q.here R (.bl _)⟩
  · exact q.elim
theorem sim_notIn (hK : g.K = X.K) : Sim2 g dNotIn (rNotInA X.K) := fun F M σ H W x y v w Q R rx ry q => by
  unfold dNotIn at q
  split at q
  · rename_i bb hb
    rcases in_at R rx ry hb with ⟨ad, vs, rfl, hs, f1, f2, e⟩ | ⟨cc, z, rfl, rfl, e⟩
    · rw [hK] at hs; exact .inl ⟨ad, vs, rfl, hs, f1, f2, by simp only [if_true]; rw [e]; exact q.here R (.bl _)⟩
    · exact .inr ⟨cc, z, rfl, rfl, by rw [e]; exact q.here R (.bl _)⟩
  · exact q.elim
theorem de_in (hK : g.K = X.K) (ha : PE X a (tD g W m1)) (hb : PE X b (tD g W m2)) (hm : behindInMarks .In b = false := by rfl) : PE X (.Compare a [.In] [b] pos) (tD g W (eBin dIn m1 m2)) := de_cmp op_inA (sim_in hK) ha hb hm
theorem de_notin (hK : g.K = X.K) (ha : PE X a (tD g W m1)) (hb : PE X b (tD g W m2)) (hm : behindInMarks .NotIn b = false := by rfl) : PE X (.Compare a [.NotIn] [b] pos) (tD g W (eBin dNotIn m1 m2)) := de_cmp op_notInA (sim_notIn hK) ha hb hm
theorem dt_in (hK : g.K = X.K) (ha : PE X a (tD g W m1)) (hb : PE X b (tD g W m2)) (hm : behindInMarks .In b = false := by rfl) : PT X (.Compare a [.In] [b] pos) (tB2 g W (bVal (eBin dIn m1 m2))) := dt_cmp op_inA (sim_in hK) ha hb hm
theorem dt_notin (hK : g.K = X.K) (ha : PE X a (tD g W m1)) (hb : PE X b (tD g W m2)) (hm : behindInMarks .NotIn b = false := by rfl) : PT X (.Compare a [.NotIn] [b] pos) (tB2 g W (bVal (eBin dNotIn m1 m2))) := dt_cmp op_notInA (sim_notIn hK) ha hb hm

/-! ### a dict of the text with text keys -/
structure KTab (g : Wd) (w : World) (d : Addr) (tab : List (Str × D)) : Prop where
  kd : ∃ es n, KDict g.K w d es n
  look : ∀ z, ∃ r, PySem.W.nsIn g.K d z = some r ∧ (match tab.lookup z, r with
    | some x, some u => ∃ v, RelV v u ∧ ∀ F H, Rep g F H x v
    | none, none => True
    | _, _ => False)
def eInK (tab : List (Str × D)) (neg : Bool) (m : EM) : EM := eUn (fun x M => match x with
  | .str z => .ok (.bl (if neg then !(tab.lookup z).isSome else (tab.lookup z).isSome)) M
  | _ => .bad) m
def eIxK (tab : List (Str × D)) (m : EM) : EM := eUn (fun x M => match x with
  | .str z => match tab.lookup z with
    | some d => .ok d M
    | none => .bad
  | _ => .bad) m
theorem inK_imp {tab : List (Str × D)} {d : Addr} (T : KTab g X.w d tab) (hK : g.K = X.K) {neg : Bool} {op : CmpOp} (hop : ∀ es n, KDict X.K X.w d es n → OpR X (compareOp op) (fun x y H Q => ∃ (z : Str) (r : Option Value), x = .str z ∧ y = .ref d ∧ PySem.W.nsIn X.K d z = some r ∧ Q (.bl (if neg then !r.isSome else r.isSome)) H))
    (ha : PE X a (tD g W m1)) (hb : PE X b (tC (.ref d))) {R : TE → Prop} (hR : ∀ r, OpR X (compareOp op) r → R (tOp r (tD g W m1) (tC (.ref d)))) (hI : ∀ t t' : TE, (∀ σ H Q, t' σ H Q → t σ H Q) → R t → R t') : R (tD g W (eInK tab neg m1)) := by
  obtain ⟨es, n, kd⟩ := T.kd
  rw [hK] at kd
  refine hI _ _ (fun σ H Q q => ?_) (hR _ (hop es n kd))
  obtain ⟨F, e, M, RS, q⟩ := q
  refine ⟨F, e, M, RS, q.bind fun x M1 F1 H1 v e1 g1 R1 rx q1 => ?_⟩
  cases rx with
  | str z =>
    obtain ⟨r, hr, hl⟩ := T.look z
    refine ⟨z, r, rfl, rfl, by rw [← hK]; exact hr, ?_⟩
    have e2 : r.isSome = (tab.lookup z).isSome := by
      cases h1 : tab.lookup z <;> cases r <;> rw [h1] at hl <;> first | rfl | exact hl.elim
    rw [e2]
    exact q1.here R1 (.bl _)
  | _ => exact q1.elim
theorem de_inK {tab : List (Str × D)} {d : Addr} (T : KTab g X.w d tab) (hK : g.K = X.K) (ha : PE X a (tD g W m1)) (hb : PE X b (tC (.ref d))) (hm : behindInMarks .In b = false := by rfl) : PE X (.Compare a [.In] [b] pos) (tD g W (eInK tab false m1)) :=
  inK_imp (op := .In) (neg := false) T hK (fun es n kd => op_in_kd kd) ha hb (R := fun t => PE X (.Compare a [.In] [b] pos) t) (fun r ho => pe_cmpR ho ha hb hm) fun t t' i h => pe_imp h i
theorem de_notinK {tab : List (Str × D)} {d : Addr} (T : KTab g X.w d tab) (hK : g.K = X.K) (ha : PE X a (tD g W m1)) (hb : PE X b (tC (.ref d))) (hm : behindInMarks .NotIn b = false := by rfl) : PE X (.Compare a [.NotIn] [b] pos) (tD g W (eInK tab true m1)) :=
  inK_imp (op := .NotIn) (neg := true) T hK (fun es n kd => op_notIn_kd kd) ha hb (R := fun t => PE X (.Compare a [.NotIn] [b] pos) t) (fun r ho => pe_cmpR ho ha hb hm) fun t t' i h => pe_imp h i
theorem dt_inK {tab : List (Str × D)} {d : Addr} (T : KTab g X.w d tab) (hK : g.K = X.K) (ha : PE X a (tD g W m1)) (hb : PE X b (tC (.ref d))) (hm : behindInMarks .In b = false := by rfl) : PT X (.Compare a [.In] [b] pos) (tB2 g W (bVal (eInK tab false m1))) :=
  pt_imp (inK_imp (op := .In) (neg := false) T hK (fun es n kd => op_in_kd kd) ha hb (R := fun t => PT X (.Compare a [.In] [b] pos) (tTest t)) (fun r ho => pt_cmpR ho ha hb hm) fun t t' i h => pt_imp h fun σ H Q q => i σ H _ q) fun σ H Q q => val_imp q
theorem dt_notinK {tab : List (Str × D)} {d : Addr} (T : KTab g X.w d tab) (hK : g.K = X.K) (ha : PE X a (tD g W m1)) (hb : PE X b (tC (.ref d))) (hm : behindInMarks .NotIn b = false := by rfl) : PT X (.Compare a [.NotIn] [b] pos) (tB2 g W (bVal (eInK tab true m1))) :=
  pt_imp (inK_imp (op := .NotIn) (neg := true) T hK (fun es n kd => op_notIn_kd kd) ha hb (R := fun t => PT X (.Compare a [.NotIn] [b] pos) (tTest t)) (fun r ho => pt_cmpR ho ha hb hm) fun t t' i h => pt_imp h fun σ H Q q => i σ H _ q) fun σ H Q q => val_imp q
end
end T2
namespace T2
open PySem L2
section
variable {X : Cx} {g : Wd} {W : WY} {a b c : Expr} {pos p apos : Pos} {m1 m2 m3 : EM} {ma : AM} {es : List Expr}
theorem de_ixK {tab : List (Str × D)} {d : Addr} (T : KTab g X.w d tab) (hK : g.K = X.K) (hc : X.calm = true) (tk : L2N.Takes X W.w) (ha : PE X a (tC (.ref d))) (hb : PE X b (tD g W m1)) (hs : PlainIx b := by intro _ _; rfl) : PE X (.Subscript a b pos) (tD g W (eIxK tab m1)) :=
  pe_imp (L2H.pe_ixDXN hc tk ha hb hs) fun σ H Q q => by
    obtain ⟨es, n, kd⟩ := T.kd
    rw [hK] at kd
    obtain ⟨F, e, M, RS, q⟩ := q
    refine ⟨F, e, M, RS, q.bind fun x M1 F1 H1 v e1 g1 R1 rx q1 => ?_⟩
    cases rx with
    | str z =>
      refine ⟨d, z, rfl, rfl, .inl ?_⟩
      obtain ⟨r, hr, hl⟩ := T.look z
      dsimp only at q1
      cases h1 : tab.lookup z with
      | none => rw [h1] at q1; exact q1.elim
      | some y =>
        rw [h1] at q1 hl
        cases r with
        | none => exact hl.elim
        | some u =>
          obtain ⟨v, rv, rr⟩ := hl
          rw [hK] at hr
          exact ⟨v, ⟨es, n, u, kd.at_, kd.lit, hr, rv⟩, q1.here R1 (rr F1 H1)⟩
    | _ => exact q1.elim

/-! ### slices -/
abbrev OM := Env2 → MH → Res (Option Int)
def oNone : OM := fun _ M => .ok none M
def oSome (m : EM) : OM := fun e M => (m e M).bind fun d M1 => match d with
  | .int i => .ok (some i) M1
  | _ => .bad
abbrev rO : RAT (Option Int) (Option Int) := fun _ _ _ a b => a = b
abbrev tO (g : Wd) (W : WY) (m : OM) : TO := tG g rO W m
theorem po_imp {e : Option Expr} {t t' : TO} (h : PO X e t) (i : ∀ σ H Q, t' σ H Q → t σ H Q) : PO X e t' := ⟨fun pins s σ H Q I q => h.run pins s σ H Q I (i σ H Q q)⟩
theorem do_none : PO X none (tO g W oNone) := po_imp po_none fun σ H Q ⟨F, e, M, RS, q⟩ => q.here RS.m rfl
theorem do_some (ha : PE X a (tD g W m1)) : PO X (some a) (tO g W (oSome m1)) := po_imp (po_some ha) fun σ H Q ⟨F, e, M, RS, q⟩ => ⟨F, e, M, RS, q.bind fun x M1 F1 H1 v e1 g1 R1 rx q1 => by
  cases rx with
  | int i => exact ⟨i, rfl, q1.here R1 rfl⟩
  | _ => exact q1.elim⟩
def dSl (mk : List D → MH → Res D) (x : D) (lo hi : Option Int) (M : MH) : Res D := match x with
  | .str z => if z.length ≤ big then .ok (.str (cutS z lo hi)) M else .bad
  | .tup ds => .ok (.tup (cutD ds lo hi)) M
  | x => match items M x with
    | some ds => mk (cutD ds lo hi) M
    | none => .bad
def eSl (mk : List D → MH → Res D) (m : EM) (l h : OM) : EM := fun e M => (m e M).bind fun x M1 => (l e M1).bind fun lo M2 => (h e M2).bind fun hi M3 => dSl mk x lo hi M3
/-- a new list -/
def MkOk (g : Wd) (mk : List D → MH → Res D) : Prop := ∀ (W : WX) (F : List Addr) (M : MH) (H : Hp) (σ : L2.St) (Q : VK) (ds : List D) (vs : List V) (p : Addr), RelM g F M H → Reps g F H ds vs → post g rD W F σ H (mk ds M) Q → H p = none → Q (.ref p) (upd H p (.lst vs))
theorem mkL_ok : MkOk g mkL := fun W F M H σ Q ds vs p R r q hp => mkL_post R r q hp
theorem mkF_ok : MkOk g mkF := fun W F M H σ Q ds vs p R r q hp => mkF_post R r q hp
def rSlAll (K : PySem.W.Frag) : V → Option Int → Option Int → Hp → VK → Prop := fun x lo hi H Q => rSlS x lo hi H Q ∨ rSlA K x lo hi H Q ∨ rSlL K x lo hi H Q
theorem sl_all : SlR X (rSlAll X.K) := sl_str.or (sl_tupA.or sl_list)
theorem cut_rep {F : List Addr} {H : Hp} {ds : List D} {vs : List V} (r : Reps g F H ds vs) (lo hi : Option Int) : Reps g F H (cutD ds lo hi) (cutV vs lo hi) := by
  unfold cutD cutV
  rw [r.length]
  exact (r.drop _).take _
theorem cut_whole {ds : List D} {lo hi : Option Int} (h : HT.sIx ds.length 0 lo = 0 ∧ HT.sIx ds.length ds.length hi = ds.length) : cutD ds lo hi = ds := by
  unfold cutD
  rw [h.1, h.2]; simp
theorem de_sl {lo hi : Option Expr} {l h : OM} {mk : List D → MH → Res D} {p2 : Pos} (hK : g.K = X.K) (hmk : MkOk g mk) (ha : PE X a (tD g W m1)) (hl : PO X lo (tO g W l)) (hh : PO X hi (tO g W h)) : PE X (.Subscript a (.Slice lo hi none p2) pos) (tD g W (eSl mk m1 l h)) :=
  pe_imp (pe_slice sl_all ha hl hh) fun σ H Q ⟨F, e, M, RS, q⟩ => ⟨F, e, M, RS, q.bind fun x M1 F1 H1 v e1 g1 R1 rx q1 =>
    ⟨F1, e, M1, RS.up g1 R1, q1.bind fun l0 M2 F2 H2 l1 e2 g2 R2 rl q2 => by
      cases rl
      refine ⟨F2, e, M2, (RS.up g1 R1).up g2 R2, q2.bind fun h0 M3 F3 H3 h1 e3 g3 R3 rh q3 => ?_⟩
      cases rh
      have r3 := (rx.mono g2 R1.good).mono g3 R2.good
      have key : ∀ ds, items M3 x = some ds → (∀ zs, x ≠ .tup zs) → post g rD W.w F3 σ H3 (mk (cutD ds l0 h0) M3) Q → rSlAll X.K v l0 h0 H3 Q := fun ds hd hx q4 => by
        cases r3 with
        | tup => exact absurd rfl (hx _)
        | fro h1 r1 => cases hd; exact .inr (.inr ⟨_, _, rfl, by rw [← hK]; exact h1.sq, fun p hp => hmk W.w F3 M3 H3 σ Q _ _ p R3 (cut_rep r1 _ _) q4 hp⟩)
        | ref h1 =>
          dsimp only [items] at hd
          split at hd
          · rename_i ds' hm
            cases hd
            obtain ⟨vs, hv, r⟩ := lst_at R3 h1 hm
            exact .inr (.inr ⟨_, vs, rfl, SqL.of hv, fun p hp => hmk W.w F3 M3 H3 σ Q _ _ p R3 (cut_rep r _ _) q4 hp⟩)
          · cases hd
        | _ => cases hd
      cases x with
      | str z =>
        cases r3
        dsimp only [dSl] at q3
        split at q3
        · rename_i hz; exact .inl ⟨z, rfl, bigLine hz, q3.here R3 (.str _)⟩
        · exact q3.elim
      | tup ds =>
        cases r3 with | tup h1 r1 =>
        refine .inr (.inl ⟨_, _, rfl, by rw [← hK]; exact h1, fun hw => ?_, fun hw p hp => ?_⟩)
        · rw [← r1.length] at hw
          dsimp only [dSl] at q3
          rw [cut_whole hw] at q3
          exact q3.here R3 (.tup h1 r1)
        · exact tup_post R3 (cut_rep r1 l0 h0) q3 hp
      | _ =>
        dsimp only [dSl] at q3
        split at q3
        · rename_i ds hd; exact key ds hd (by intro zs z; cases z) q3
        · exact q3.elim⟩⟩

/-! ### further operations -/
theorem sim_neg : Sim1 g dNeg (rU fun i => .int (-i)) := fun F M σ H W x v Q R rx q => by
  unfold dNeg at q
  split at q
  · cases rx; exact ⟨_, rfl, q.here R (.int _)⟩
  · exact q.elim
theorem de_neg (ha : PE X a (tD g W m1)) : PE X (.UnaryOp .USub a pos) (tD g W (eUn dNeg m1)) := pe_imp (pe_un un_neg ha) fun σ H Q q => un_imp sim_neg q
/-- a op b op' c, the answers bools -/
def eChain (f f' : D → D → MH → Res D) (m1 m2 m3 : EM) : EM := fun e M => (m1 e M).bind fun x M1 => (m2 e M1).bind fun y M2 => (f x y M2).bind fun r M3 => match r with
  | .bl true => (m3 e M3).bind fun z M4 => f' y z M4
  | .bl false => .ok (.bl false) M3
  | _ => .bad
theorem chain_imp {f f' : D → D → MH → Res D} {r r' : R2} (hs : Sim2 g f r) (hs' : Sim2 g f' r') {σ : L2.St} {H : Hp} {Q : VK} (q : tD g W (eChain f f' m1 m2 m3) σ H Q) : tChain r r' (tD g W m1) (tD g W m2) (tD g W m3) σ H Q := by
  obtain ⟨F, e, M, RS, q⟩ := q
  refine ⟨F, e, M, RS, q.bind fun x M1 F1 H1 v e1 g1 R1 rx q1 => ?_⟩
  have RS1 := RS.up g1 R1
  refine ⟨F1, e, M1, RS1, q1.bind fun y M2 F2 H2 w e2 g2 R2 ry q2 => ?_⟩
  have RS2 := RS1.up g2 R2
  refine hs F2 M2 σ H2 W.w x y v w _ R2 (rx.mono g2 R1.good) ry (q2.bind fun z M3 F3 H3 u e3 g3 R3 rz q3 => ?_)
  cases rz with
  | bl k =>
    refine ⟨k, rfl, ?_⟩
    cases k with
    | true =>
      rw [if_pos rfl]
      refine ⟨F3, e, M3, RS2.up g3 R3, q3.bind fun t M4 F4 H4 u4 e4 g4 R4 rt q4 => ?_⟩
      exact hs' F4 M4 σ H4 W.w y t w u4 Q R4 ((ry.mono g3 R2.good).mono g4 R3.good) rt q4
    | false =>
      rw [if_neg Bool.false_ne_true]
      exact q3.here R3 (.bl false)
  | _ => exact q3.elim
theorem de_chain {op op' : CmpOp} {f f' : D → D → MH → Res D} {r r' : R2} (ho : OpR X (compareOp op) r) (ho' : OpR X (compareOp op') r') (hs : Sim2 g f r) (hs' : Sim2 g f' r') (ha : PE X a (tD g W m1)) (hb : PE X b (tD g W m2)) (hc : PE X c (tD g W m3))
    (hm : lastMarks [op, op'] [b, c] = false := by with_unfolding_all rfl) : PE X (.Compare a [op, op'] [b, c] pos) (tD g W (eChain f f' m1 m2 m3)) := pe_imp (pe_chain ho ho' ha hb hc hm) fun σ H Q q => chain_imp hs hs' q
theorem de_lele (ha : PE X a (tD g W m1)) (hb : PE X b (tD g W m2)) (hc : PE X c (tD g W m3)) (hm : lastMarks [.LtE, .LtE] [b, c] = false := by with_unfolding_all rfl) : PE X (.Compare a [.LtE, .LtE] [b, c] pos) (tD g W (eChain dLe dLe m1 m2 m3)) := de_chain op_le op_le sim_cmpI sim_cmpI ha hb hc hm
/-- xs.append(e) -/
def eApp (mo ma : EM) : EM := fun e M => (mo e M).bind fun x M1 => match x with
  | .ref n => match M1[n]? with
    | some (.lst _) => (ma e M1).bind fun y M2 => match M2[n]? with
      | some (.lst ds) => if ds.length < big then .ok .non (M2.set n (.lst (ds ++ [y]))) else .bad
      | _ => .bad
    | _ => .bad
  | _ => .bad
theorem de_app {o : Expr} (ho : PE X o (tD g W m1)) (ha : PE X a (tD g W m2)) (hst : starEach [a] X.env = (false, eval a X.env) :: starEach [] X.env := by rfl)
    (hpe : ∀ {to : TE} {t : TA}, PE X o to → PA X [a] t → PE X (.Call (.Attribute o "append" apos) [a] [] pos) (tBM X.K "list" rAppend to t) := by intro _ _ h1 h2; exact pe_bm PySem.F.plainAttrs_list PySem.F.slot_list_append PySem.F.type_list_append mt_append h1 h2) :
    PE X (.Call (.Attribute o "append" apos) [a] [] pos) (tD g W (eApp m1 m2)) :=
  pe_imp (hpe ho (de_cons ha de_nil hst)) fun σ H Q ⟨F, e, M, RS, q⟩ => ⟨F, e, M, RS, q.bind fun x M1 F1 H1 v e1 g1 R1 rx q1 => by
    cases x with
    | ref n =>
      cases rx with | ref hn =>
      dsimp only at q1
      split at q1
      · rename_i ds0 hd0
        obtain ⟨vs0, hv0, r0⟩ := lst_at R1 hn hd0
        refine ⟨.inl ⟨rfl, vs0, SqL.of hv0⟩, F1, e, M1, RS.up g1 R1, ?_⟩
        unfold eCons eNil
        refine (?_ : post g rDs W.w F1 σ H1 ((m2 e M1).bind fun x M1 => .ok [x] M1) _)
        cases h2 : m2 e M1 with
        | ok y M2 =>
          rw [h2] at q1
          intro F2 H2 us g2 R2 r2
          obtain ⟨u, rfl, ru⟩ := one_rep r2
          have hn2 := pre_get g2.pre hn
          dsimp only [Res.bind] at q1
          split at q1
          · rename_i ds hd
            obtain ⟨vs, hv, r⟩ := lst_at R2 hn2 hd
            split at q1
            · rename_i hl
              refine ⟨_, vs, u, rfl, rfl, hv, by rw [← r.length]; exact Nat.lt_of_lt_of_le hl (by decide), ?_⟩
              obtain ⟨g3, R3⟩ := R2.put (o := .lst (vs ++ [u])) (m := .lst (ds ++ [y])) hn2 trivial fun H' gr => .lst ((r.mono gr R2.good).append (.cons (ru.mono gr R2.good) .nil))
              exact (q1.up g2).ok g3 R3 .non
            · exact q1.elim
          · exact q1.elim
        | exc c ns ds M2 => rw [h2] at q1; exact q1
        | bad => rw [h2] at q1; exact q1.elim
      · exact q1.elim
    | _ => exact q1.elim⟩
end
end T2
namespace T2
open PySem L2

/-! ### isinstance -/
abbrev Tg := Sum String Nat
def tagOf (M : MH) : D → Option Tg
  | .non => some (.inl "NoneType")
  | .bl _ => some (.inl "bool")
  | .int _ => some (.inl "int")
  | .str _ => some (.inl "str")
  | .tup _ => some (.inl "tuple")
  | .fro _ => some (.inl "list")
  | .ins c _ _ => some (.inr c)
  | .ref n => match M[n]? with
    | some (.lst _) => some (.inl "list")
    | some (.dk _ _) => some (.inl "dict")
    | some (.dt _ _) => some (.inl "dict")
    | some (.ob c _ _) => some (.inr c)
    | _ => none
  | _ => none
def clsTag : D → Option Tg
  | .ty n => some (.inl n)
  | .cls c => some (.inr c)
  | _ => none
def dIsi (isi : Tg → Tg → Option Bool) (ds : List D) (M : MH) : Res D := match ds with
  | [x, c] => match tagOf M x, clsTag c with
    | some t, some u => (match isi t u with
      | some b => .ok (.bl b) M
      | none => .bad)
    | _, _ => .bad
  | _ => .bad
def tagV (g : Wd) : Tg → Value
  | .inl n => .type n
  | .inr c => .ref (g.ca c)
structure ClsI (K : PySem.W.Frag) (C : Addr) : Prop where
  cl : Cls K C
  ha : PySem.W.findIn K (.ref C) "__class__" = some (some (.builtin "object.__class__"))
  hn : PySem.W.specialIn K (.builtin "object.__class__") "__get__" = some (some (.builtin "getset_descriptor.__get__"))
  ht : PySem.W.takesIn K (.builtin "object.__class__") = some true
  hm : PySem.W.mroIn K C (.type "object") = some true
structure IsiOk (g : Wd) (isi : Tg → Tg → Option Bool) : Prop where
  kit : ∀ t c b, isi t c = some b → PySem.W.kitOne g.K (tagV g t) (tagV g c) = some b
  own : ∀ c t b, isi (.inr c) t = some b → ClsI g.K (g.ca c)
section
variable {X : Cx} {g : Wd} {W : WY} {a b c : Expr} {pos p apos : Pos} {m1 m2 m3 : EM} {ma : AM} {es : List Expr}
theorem tag_ty {isi : Tg → Tg → Option Bool} (I : IsiOk g isi) {F : List Addr} {M : MH} {H : Hp} {x : D} {v : V} {t u : Tg} {bb : Bool} (R : RelM g F M H) (r : Rep g F H x v) (h : tagOf M x = some t) (hi : isi t u = some bb) : TyX g.K H v (tagV g t) := by
  cases r with
  | non => cases h; exact .base .non
  | bl => cases h; exact .base (.bl _)
  | int => cases h; exact .base (.int _)
  | str => cases h; exact .base (.str _)
  | ty => cases h
  | cls => cases h
  | obj => cases h
  | tk => cases h
  | tup h1 r1 =>
    cases h
    rcases h1 with (h1 | ⟨o, h1⟩) | ⟨o, its, n, h1, h2, _⟩
    · exact .base (.tup h1)
    · exact .fTuple h1
    · exact .kTuple h1 h2
  | fro h1 r1 =>
    cases h
    rcases h1 with ⟨h1, _⟩ | ⟨o, h1⟩ | ⟨o, its, n, h1, h2, _⟩
    · exact .base (.lst h1)
    · exact .base (.frz h1)
    · exact .kList h1 h2
  | ins h1 h2 h3 r1 =>
    cases h
    have C := I.own _ _ _ hi
    exact .base (.ins h1 C.cl C.ha C.hn C.ht C.hm)
  | ref hn =>
    dsimp only [tagOf] at h
    split at h
    · rename_i hm; cases h; obtain ⟨o, e, ro⟩ := R.obj _ _ _ hn hm; cases ro; exact .base (.lst e)
    · rename_i hm; cases h; obtain ⟨o, e, ro⟩ := R.obj _ _ _ hn hm; cases ro; exact .base (.dK e)
    · rename_i hm; cases h; obtain ⟨o, e, ro⟩ := R.obj _ _ _ hn hm; cases ro; exact .base (.dT e)
    · rename_i hm; cases h; obtain ⟨o, e, ro⟩ := R.obj _ _ _ hn hm; cases ro
      have C := I.own _ _ _ hi
      exact .base (.ins e C.cl C.ha C.hn C.ht C.hm)
    · cases h
theorem sim_isi {isi : Tg → Tg → Option Bool} (I : IsiOk g isi) (hK : g.K = X.K) : SimA g (dIsi isi) (rIsi X.K) := fun F M σ H W ds vs Q R r q => by
  unfold dIsi at q
  split at q
  · rename_i x cc
    obtain ⟨v, w, rfl, rv, rw⟩ := two_rep r
    split at q
    · rename_i t u h1 h2
      split at q
      · rename_i bb hb
        have ty := tag_ty I R rv h1 hb
        have kt := I.kit _ _ _ hb
        rw [hK] at ty kt
        refine ⟨v, w, tagV g t, tagV g u, bb, rfl, ?_, ty, kt, q.here R (.bl _)⟩
        cases rw with
        | ty n => cases h2; exact .ty n
        | cls n => cases h2; exact .own _
        | _ => cases h2
      · exact q.elim
    · exact q.elim
  · exact q.elim
theorem de_isi {isi : Tg → Tg → Option Bool} (I : IsiOk g isi) (hK : g.K = X.K) (ha : PA X (a :: es) (tA g W ma)) (hm : X.mg "isinstance" = none) (hg : Gl X "isinstance" := by rfl) (he : starEach (a :: es) X.env = (false, eval a X.env) :: starEach es X.env := by rfl)
    (hpl : (backTo pos (starEach es X.env)).any (·.1) = false := by rfl) : PE X (.Call (.Name "isinstance" p) (a :: es) [] pos) (tD g W (eArgs (dIsi isi) ma)) := de_callB call_isi (sim_isi I hK) hm (by decide +kernel) ha hg (by decide) (by decide) he hpl
end

/-! ### list comprehensions (one clause) -/
def wipe2 (e : Env2) : List Nat → Env2
  | [] => e
  | v :: vs => (wipe2 e vs).set v none
theorem wipe_rep {g : Wd} {F : List Addr} {H : Hp} {e : Env2} {σ : L2.St} (r : EnvR g F H e σ) : ∀ vs : List Nat, EnvR g F H (wipe2 e vs) (wipe σ vs)
  | [] => r
  | v :: vs => (wipe_rep r vs).unset v none
/-- what is raised within a comprehension is not spoken of -/
def noX {A : Type} (r : Res A) : Res A := match r with
  | .exc _ _ _ _ => .bad
  | r => r
def lcStep (tg : TgM) (tt : BM) (m : EM) (e : Env2) (x : D) (M : MH) : Res (Option D) := match tg x e with
  | none => .bad
  | some e1 => (noX (tt e1 M)).bind fun b M1 => if b = true then (noX (m e1 M1)).bind fun y M2 => .ok (some y) M2 else .ok none M1
/-- y goes behind the list at n -/
def pushAt (n : Nat) (o : Option D) (M : MH) : Option MH := match o with
  | none => some M
  | some y => match M[n]? with
    | some (.lst acc) => if acc.length < big then some (M.set n (.lst (acc ++ [y]))) else none
    | _ => none
def lcV (tg : TgM) (tt : BM) (m : EM) (e : Env2) (n : Nat) : List D → MH → Res D
  | [], M => .ok (.ref n) M
  | x :: xs, M => (lcStep tg tt m e x M).bind fun o M1 => match pushAt n o M1 with
    | some M2 => lcV tg tt m e n xs M2
    | none => .bad
def lcL (tg : TgM) (tt : BM) (m : EM) (e : Env2) (n s : Nat) : Nat → Nat → MH → Res D
  | 0, i, M => match M[s]? with
    | some (.lst ds) => if ds.length ≤ i then .ok (.ref n) M else .bad
    | _ => .bad
  | k + 1, i, M => match M[s]? with
    | some (.lst ds) => match ds[i]? with
      | none => .ok (.ref n) M
      | some x => (lcStep tg tt m e x M).bind fun o M1 => match pushAt n o M1 with
        | some M2 => lcL tg tt m e n s k (i + 1) M2
        | none => .bad
    | _ => .bad
/-- [m for .. in it if tt]: the list stands at its place from the start -/
def eLc (it : Env2 → MH → Res IV) (tg : TgM) (tt : BM) (m : EM) (vs : List Nat) : EM := fun e M => match it e M with
  | .ok (.vals ds) M1 => lcV tg tt m (wipe2 e vs) M1.length ds (M1 ++ [.lst []])
  | .ok (.live s) M1 => match M1[s]? with
    | some (.lst ds) => lcL tg tt m (wipe2 e vs) M1.length s ds.length 0 (M1 ++ [.lst []])
    | _ => .bad
  | .exc c ns ds M1 => .exc c ns ds M1
  | .bad => .bad
def bYes : BM := fun _ M => .ok true M
abbrev W0 : WY := ⟨fun _ _ _ _ => False, ⟨[], []⟩⟩
/-- the target's slots are the comprehension's own -/
def TgOwn (tg : TgM) (gt : TG) (vs : List Nat) : Prop := ∀ (v : V) (σ : L2.St) (H : Hp) (Q : L2.St → Hp → Prop), gt v (wipe σ vs) H Q → gt v (wipe σ vs) H fun σ2 H2 => wipe σ2 vs = wipe σ vs ∧ Q σ2 H2
theorem wipe_get (σ : L2.St) : ∀ (vs : List Nat) (i : Nat), i ∈ vs → ∀ x, (wipe (σ.set i x) vs) = wipe σ vs
  | [], _, h, _ => by simp at h
  | v :: vs, i, h, x => by
    unfold wipe
    by_cases hi : i ∈ vs
    · rw [wipe_get σ vs i hi x]
    · have : i = v := by simp at h; rcases h with h | h; exact h; exact absurd h hi
      subst this
      have key : ∀ (ws : List Nat) (y : Option V), i ∉ ws → wipe (σ.set i y) ws = (wipe σ ws).set i y := by
        intro ws y
        induction ws with
        | nil => intro _; rfl
        | cons w ws ih =>
          intro hn
          simp at hn
          unfold wipe
          rw [ih hn.2]
          exact List.set_comm _ _ hn.1
      rw [key vs x hi, List.set_set]
theorem wipe_wipe (σ : L2.St) : ∀ (vs ws : List Nat), (∀ i ∈ vs, i ∈ ws) → wipe (wipe σ vs) ws = wipe σ ws
  | [], ws, _ => rfl
  | v :: vs, ws, h => by
    show wipe ((wipe σ vs).set v none) ws = _
    rw [wipe_get _ ws v (h v (by simp)) none]
    exact wipe_wipe σ vs ws fun i hi => h i (by simp [hi])
theorem tgName_own (i : Nat) {vs : List Nat} (h : i ∈ vs) : TgOwn (tgName i) (gName i) vs := fun v σ H Q q => ⟨by
  rw [wipe_get _ vs i h]
  exact wipe_wipe σ vs vs fun _ z => z, q⟩
section
variable {X : Cx} {g : Wd} {W : WY} {pos : Pos} {m : EM} {tt : BM}
/-- one item of the comprehension -/
theorem lcStep_run {F : List Addr} {e : Env2} {M : MH} {σ : L2.St} {H : Hp} {x : D} {v : V} {tg : TgM} {gt : TG} {vs : List Nat} {n : Nat} {ad : Addr} {k : MH → Res D} {Q : VK} {Nx : Hp → Prop} {τ : L2.St}
    (RS : RelS g ⟨[], []⟩ F (wipe2 e vs) M (wipe σ vs) H) (ts : TgSim g tg gt) (ow : TgOwn tg gt vs) (r : Rep g F H x v) (hn : F[n]? = some ad)
    (q : post g rD W.w F τ H ((lcStep tg tt m (wipe2 e vs) x M).bind fun o M1 => match pushAt n o M1 with | some M2 => k M2 | none => .bad) Q)
    (f : ∀ M1 F1 H1, Grow F H F1 H1 → RelM g F1 M1 H1 → post g rD W.w F1 τ H1 (k M1) Q → Nx H1) :
    gt v (wipe σ vs) H fun σ2 H2 => wipe σ2 vs = wipe σ vs ∧ tB2 g W0 tt σ2 H2 fun b H3 => if b = true then tD g W0 m σ2 H3 fun y H4 => ∃ acc, H4 ad = some (.lst acc) ∧ acc.length < sizeLine ∧ Nx (upd H4 ad (.lst (acc ++ [y]))) else Nx H3 := by
  unfold lcStep at q
  cases ht : tg x (wipe2 e vs) with
  | none => rw [ht] at q; exact q.elim
  | some e1 =>
    rw [ht] at q
    dsimp only at q
    refine ow v σ H _ (ts F M _ e1 _ H x v _ RS.m RS.e r ht fun σ2 E2 => ?_)
    refine ⟨F, e1, M, ⟨RS.m, E2, pin_nil, xrs_nil⟩, ?_⟩
    cases hb : tt e1 M with
    | bad => rw [hb] at q; exact q.elim
    | exc c ns ds M1 => rw [hb] at q; exact q.elim
    | ok b M1 =>
      rw [hb] at q
      intro F1 H1 b' g1 R1 eb
      cases eb
      dsimp only [Res.bind, noX] at q
      have RS1 : RelS g ⟨[], []⟩ F1 e1 M1 σ2 H1 := RelS.up ⟨RS.m, E2, pin_nil, xrs_nil⟩ g1 R1
      cases b with
      | false => exact f M1 F1 H1 g1 R1 (q.up g1)
      | true =>
        refine ⟨F1, e1, M1, RS1, ?_⟩
        rw [if_pos rfl] at q
        cases hm : m e1 M1 with
        | bad => rw [hm] at q; exact q.elim
        | exc c ns ds M2 => rw [hm] at q; exact q.elim
        | ok y M2 =>
          rw [hm] at q
          intro F2 H2 u g2 R2 ru
          have hn2 : F2[n]? = some ad := pre_get g2.pre (pre_get g1.pre hn)
          have g12 := g1.trans g2
          dsimp only [Res.bind, pushAt, noX] at q
          cases hM : M2[n]? with
          | none => rw [hM] at q; exact q.elim
          | some o =>
            rw [hM] at q
            cases o with
            | lst acc =>
              dsimp only at q
              by_cases hl : acc.length < big
              · rw [if_pos hl] at q
                obtain ⟨us, hu, ra⟩ := lst_at R2 hn2 hM
                refine ⟨us, hu, by rw [← ra.length]; exact Nat.lt_of_lt_of_le hl (by decide), ?_⟩
                obtain ⟨g3, R3⟩ := R2.put (o := .lst (us ++ [u])) (m := .lst (acc ++ [y])) hn2 trivial fun H' gr => .lst ((ra.mono gr R2.good).append (.cons (ru.mono gr R2.good) .nil))
                exact f _ F2 _ (g12.trans g3) R3 (q.up (g12.trans g3))
              · rw [if_neg hl] at q; exact q.elim
            | _ => exact q.elim
theorem eLc_imp {it : Env2 → MH → Res IV} {wi : TI} {tg : TgM} {gt : TG} {vs : List Nat} (hsim : ItSim g W it wi) (ts : TgSim g tg gt) (ow : TgOwn tg gt vs) {σ : L2.St} {H : Hp} {Q : VK} (q : tD g W (eLc it tg tt m vs) σ H Q) : tLc wi gt (tB2 g W0 tt) (tD g W0 m) vs σ H Q := by
  obtain ⟨F, e, M, RS, q⟩ := q
  refine hsim σ H F e M _ RS ?_
  unfold eLc at q
  cases hi : it e M with
  | bad => rw [hi] at q; exact q
  | exc c ns ds M1 => rw [hi] at q; exact q
  | ok iv M1 =>
    rw [hi] at q
    cases iv with
    | vals ds =>
      intro F1 H1 J g1 R1 itv ad had
      obtain ⟨g2, R2⟩ := R1.laid (m := .lst []) (o := .lst []) had fun F' H' gr => .lst .nil
      have RS2 : RelS g W.p (F1 ++ [ad]) e (M1 ++ [.lst []]) σ (upd H1 ad (.lst [])) := (RS.up g1 R1).up g2 R2
      have hn0 : (F1 ++ [ad])[M1.length]? = some ad := by rw [← R1.len]; simp
      refine ⟨fun i k H' => i + k = ds.length ∧ ∃ F' M', Grow (F1 ++ [ad]) (upd H1 ad (.lst [])) F' H' ∧ RelM g F' M' H' ∧ post g rD W.w F' σ H' (lcV tg tt m (wipe2 e vs) M1.length (ds.drop i) M') Q, ⟨ds.length, by simp, F1 ++ [ad], M1 ++ [.lst []], .same, R2, by simpa using q.up (g1.trans g2)⟩, ?_⟩
      rintro i k H3 ⟨hk, F3, M3, g3, R3, q3⟩
      have hn3 : F3[M1.length]? = some ad := pre_get g3.pre hn0
      by_cases hlt : i < ds.length
      · refine .inr ⟨itv.go F3 H3 i (g2.trans g3) hlt, fun H' => ∃ F' M', Grow (F1 ++ [ad]) (upd H1 ad (.lst [])) F' H' ∧ RelM g F' M' H' ∧ post g rD W.w F' σ H' (lcV tg tt m (wipe2 e vs) M1.length (ds.drop (i + 1)) M') Q, fun H' z => ⟨k - 1, by omega, by omega, z⟩, fun x H4 hy => ?_⟩
        obtain ⟨hk4, d, hd, rd⟩ := itv.yld F3 H3 i x H4 (g2.trans g3) hlt hy
        obtain ⟨gk, Rk⟩ := R3.keep hk4
        replace q3 := q3.up gk
        replace g3 := g3.trans gk
        replace R3 := Rk
        rw [drop_cons' hd] at q3
        unfold lcV at q3
        have RS3 : RelS g ⟨[], []⟩ F3 (wipe2 e vs) M3 (wipe σ vs) H4 := ⟨R3, wipe_rep (RS2.up g3 R3).e vs, pin_nil, xrs_nil⟩
        exact lcStep_run RS3 ts ow rd hn3 q3 fun M5 F5 H5 g5 R5 q5 => ⟨F5, M5, g3.trans g5, R5, q5⟩
      · have hge : ds.length ≤ i := Nat.le_of_not_lt hlt
        rw [List.drop_eq_nil_of_le hge] at q3
        exact .inl ⟨itv.stop F3 H3 i (g2.trans g3) hge, q3.here R3 (.ref hn3)⟩
    | live sr =>
      dsimp only at q
      split at q
      · rename_i ds0 hd0
        refine ⟨ds0, hd0, fun F1 H1 as g1 R1 has ad had => ?_⟩
        obtain ⟨g2, R2⟩ := R1.laid (m := .lst []) (o := .lst []) had fun F' H' gr => .lst .nil
        have RS2 : RelS g W.p (F1 ++ [ad]) e (M1 ++ [.lst []]) σ (upd H1 ad (.lst [])) := (RS.up g1 R1).up g2 R2
        have hn0 : (F1 ++ [ad])[M1.length]? = some ad := by rw [← R1.len]; simp
        have hs0 : (F1 ++ [ad])[sr]? = some as := pre_get (List.prefix_append _ _) has
        refine ⟨fun i k H' => ∃ F' M', Grow (F1 ++ [ad]) (upd H1 ad (.lst [])) F' H' ∧ RelM g F' M' H' ∧ post g rD W.w F' σ H' (lcL tg tt m (wipe2 e vs) M1.length sr k i M') Q, ⟨ds0.length, F1 ++ [ad], M1 ++ [.lst []], .same, R2, q.up (g1.trans g2)⟩, ?_⟩
        rintro i k H3 ⟨F3, M3, g3, R3, q3⟩
        have hn3 : F3[M1.length]? = some ad := pre_get g3.pre hn0
        have hs3 : F3[sr]? = some as := pre_get g3.pre hs0
        cases k with
        | zero =>
          unfold lcL at q3
          split at q3
          · rename_i ds hd
            obtain ⟨us, hu, ru⟩ := lst_at R3 hs3 hd
            split at q3
            · rename_i hl
              exact .inl ⟨⟨us, SqL.of hu, by rw [← ru.length]; exact hl⟩, q3.here R3 (.ref hn3)⟩
            · exact q3.elim
          · exact q3.elim
        | succ k =>
          unfold lcL at q3
          split at q3
          · rename_i ds hd
            obtain ⟨us, hu, ru⟩ := lst_at R3 hs3 hd
            split at q3
            · rename_i hx
              exact .inl ⟨⟨us, SqL.of hu, by rw [← ru.length]; exact List.getElem?_eq_none_iff.mp hx⟩, q3.here R3 (.ref hn3)⟩
            · rename_i d hx
              obtain ⟨v, hv, rv⟩ := ru.get hx
              refine .inr ⟨⟨us, v, SqL.of hu, hv⟩, fun H' => ∃ F' M', Grow (F1 ++ [ad]) (upd H1 ad (.lst [])) F' H' ∧ RelM g F' M' H' ∧ post g rD W.w F' σ H' (lcL tg tt m (wipe2 e vs) M1.length sr k (i + 1) M') Q, fun H' z => ⟨k, Nat.lt_succ_self k, z⟩, ?_⟩
              rintro x H4 ⟨rfl, hy⟩
              have ex : v = x := Option.some.inj (hv.symm.trans (hy us (SqL.of hu)))
              subst ex
              have RS3 : RelS g ⟨[], []⟩ F3 (wipe2 e vs) M3 (wipe σ vs) H4 := ⟨R3, wipe_rep (RS2.up g3 R3).e vs, pin_nil, xrs_nil⟩
              exact lcStep_run RS3 ts ow rv hn3 q3 fun M5 F5 H5 g5 R5 q5 => ⟨F5, M5, g3.trans g5, R5, q5⟩
          · exact q3.elim
      · exact q.elim
variable {elt tgE iter : Expr} {ifs : List Expr} {scope : Scope} {own : List (Str × Nat)}
theorem de_lc {it : Env2 → MH → Res IV} {wi : TI} {tg : TgM} {gt : TG} (hN : X.N.Nodup) (hi : PI X tgE iter wi) (hsim : ItSim g W it wi) (ok : BlkOk X.N X.env.scope scope own) (ts : TgSim g tg gt) (ow : TgOwn tg gt (own.map (·.2)))
    (hg : ∀ (s : Shared) (H : Hp) (C : Addr) (cl : List (Str × Addr)) (fp : List Addr), PG (X.blk s H scope (compEnvC scope cl C X.env) fp) tgE gt) (ht : ∀ (s : Shared) (H : Hp) (C : Addr) (cl : List (Str × Addr)) (fp : List Addr), PTs (X.blk s H scope (compEnvC scope cl C X.env) fp) ifs (tB2 g W0 tt))
    (he : ∀ (s : Shared) (H : Hp) (C : Addr) (cl : List (Str × Addr)) (fp : List Addr), PE (X.blk s H scope (compEnvC scope cl C X.env) fp) elt (tD g W0 m)) (hc : X.calm = true := by rfl) (hs : ∀ x, foldedSetIterable iter X.env x = pure x := by intro _; rfl) :
    PE X (.ListComp elt [⟨tgE, iter, ifs, 0⟩] scope pos) (tD g W (eLc it tg tt m (own.map (·.2)))) := pe_imp (pe_lc hc hN hi ok hg ht he hs) fun σ H Q q => eLc_imp hsim ts ow q
theorem ds_setLc {it : Env2 → MH → Res IV} {wi : TI} {tg : TgM} {gt : TG} {i : Nat} {y : Str} {py spos : Pos} (hpin : ∀ p ∈ W.p.xs, i ≠ p.1) (hN : X.N.Nodup) (hi : PI X tgE iter wi) (hsim : ItSim g W it wi) (ok : BlkOk X.N X.env.scope scope own) (ts : TgSim g tg gt) (ow : TgOwn tg gt (own.map (·.2)))
    (hg : ∀ (s : Shared) (H : Hp) (C : Addr) (cl : List (Str × Addr)) (fp : List Addr), PG (X.blk s H scope (compEnvC scope cl C X.env) fp) tgE gt) (ht : ∀ (s : Shared) (H : Hp) (C : Addr) (cl : List (Str × Addr)) (fp : List Addr), PTs (X.blk s H scope (compEnvC scope cl C X.env) fp) ifs (tB2 g W0 tt))
    (he : ∀ (s : Shared) (H : Hp) (C : Addr) (cl : List (Str × Addr)) (fp : List Addr), PE (X.blk s H scope (compEnvC scope cl C X.env) fp) elt (tD g W0 m)) (hsw : swapsWith (.ListComp elt [⟨tgE, iter, ifs, 0⟩] scope pos) (some (.Name y py)) spos.line X.env = pure true)
    (hy : X.N[i]? = some y := by rfl) (hyl : X.env.scope.names.lookup y = some .local := by rfl) (hc : X.calm = true := by rfl) (hs : ∀ x, foldedSetIterable iter X.env x = pure x := by intro _; rfl) :
    PS X (.Assign [.Name y py] (.ListComp elt [⟨tgE, iter, ifs, 0⟩] scope pos) spos) (tS g W (sSet i (eLc it tg tt m (own.map (·.2))))) :=
  ps_imp (ps_setLc hc hN hy hyl hsw hi ok hg ht he hs) fun E σ H ⟨F, e, M, RS, q⟩ => eLc_imp hsim ts ow ⟨F, e, M, RS, q.step RS fun d M1 F1 H1 v _ g1 R1 r q1 => q1 F1 H1 _ .same R1 ((RS.up g1 R1).e.set r i) (RS.x.set hpin)⟩
theorem dts_nil : PTs X [] (tB2 g W bYes) := ⟨fun pins s σ H Q I ⟨F, e, M, RS, q⟩ => pts_nil.run pins s σ H Q I (q.here RS.m rfl)⟩
theorem dts_one {c : Expr} {b1 : BM} (h : PT X c (tB2 g W b1)) : PTs X [c] (tB2 g W b1) := pts_one h
end
end T2
namespace T2
open PySem L2

/-! ### raise, try -/
def sRaise0 (c : Nat) : SM := fun e M => .ex c [] [] e M
/-- behind a suite its name is gone -/
def unbind (i : Nat) (r : SR) : SR := match r with
  | .nx e2 M2 => .nx (e2.set i none) M2
  | .bk e2 M2 => .bk (e2.set i none) M2
  | .ct e2 M2 => .ct (e2.set i none) M2
  | .rt d M2 => .rt d M2
  | _ => .bad
/-- try: body except C as n: suite (n in slot i); ct tells whether the clause takes an exception of the class -/
def sTry (i : Nat) (ct : Nat → Option Bool) (body : SM) (suite : Nat → List Str → List D → SM) : SM := fun e M => match body e M with
  | .ex c ns ds e1 M1 => match ct c with
    | some true => if i < e1.length then unbind i (suite c ns ds (e1.set i none) M1) else .bad
    | some false => .ex c ns ds e1 M1
    | none => .bad
  | r => r
/-- within a suite: the name's slot, the exception's address, its fields -/
abbrev WS (i : Nat) (ad : Addr) (ns : List Str) (ds : List D) (d : Option Addr) : WY := ⟨fun _ _ _ _ => False, ⟨[(i, ad)], [(ns, ds, d)]⟩⟩
section
variable {X : Cx} {g : Wd} {W : WY} {a b : Expr} {pos p apos : Pos} {m1 m2 m3 : EM} {ma : AM} {es : List Expr} {s1 : SM}
theorem ds_raise0 {c : Nat} {x m : Str} {j : Nat} {p2 pos2 : Pos} {B newId initId} {bmB} (Fx : ExcBaseFacts B newId initId bmB) (q : PySem.W.excIn X.K (g.ca c) bmB newId = true) (gC : X.mg x = some (.ref (g.ca c))) (kC : PySem.W.keepIn X.K (.ref (g.ca c)) = true)
    (sB : PySem.W.subIn X.K (.ref (g.ca c)) (.type "BaseException") = some true) (tB : PySem.W.typeIn X.K (.ref (g.ca c)) = some (.type "type")) (tk : L2N.Takes X W.w) (hc : X.calm = true := by rfl) (hg : Gl X x := by rfl) (hdb : (x == ("__debug__" : Str)) = false := by decide) :
    PS X (.Raise (some (.Call (.Name x p) [.Constant (.str m) j p2] [] pos)) none pos2) (tS g W (sRaise0 c)) :=
  ps_imp (L2N.ps_raise hc tk (L2N.pmk_own Fx q gC kC (raises_own sB tB) hg hdb)) fun E σ H ⟨F, e, M, RS, q⟩ => q F H σ none .same RS.m RS.e .no
theorem ds_try {i : Nat} {n x : Str} {np pos' : Pos} {body sts : List Stmt} {b0 : Stmt} {h : Nat} {ct : Nat → Option Bool} {suite : Nat → List Str → List D → SM} (px : W.p.xs = []) (hN : X.N.Nodup) (gC : X.mg x = some (.ref (g.ca h))) (hct : ∀ c bb, ct c = some bb → PySem.W.exmOne X.K (.ref (g.ca c)) (.ref (g.ca h)) = some bb) (tk : L2N.Takes X W.w)
    (hb : ∀ (w1 : WX) (pn : List (Addr × Obj)) (xe : Value → Shared → Prop), L2N.Takes (X.tr pn xe) w1 → PassesOwn (model X.prog X.w) X.A X.env xe → PSs (X.tr pn xe) body (tS g ⟨w1, W.p⟩ s1))
    (hsu : ∀ (ad : Addr) (oe : Obj) (c : Nat) (d : Option Addr) (pn : List (Addr × Obj)) (ns : List Str) (ds : List D), L2N.Zn (.ref (g.ca c)) d oe → (∃ vs, oe.data = .fields vs) → (ns = [] → d = none) → PSs (X.suite ad ((ad, oe) :: pn)) (b0 :: sts) (tS g (WS i ad ns ds d) (suite c ns ds)))
    (hi : X.N[i]? = some n := by rfl) (hln : X.env.kindOf n = some .local := by rfl) (hs : X.stack = X.env :: X.outer := by rfl) (hf : X.env.frame = some X.env.locals := by rfl) (hg : Gl X x := by rfl) (hdb : (x == ("__debug__" : Str)) = false := by decide) :
    PS X (.Try body [.ExceptHandler (some (.Name x np)) (some n) (b0 :: sts) pos'] [] [] pos) (tS g W (sTry i ct s1 suite)) := by
  refine ps_imp (L2N.ps_try_as (i := i) (c := .ref (g.ca h)) (tb := fun W1 => tS g ⟨W1, W.p⟩ s1) (ts := fun ad cls d => fun E σ H => ∃ c ns ds, cls = .ref (g.ca c) ∧ (ns = [] → d = none) ∧ tS g (WS i ad ns ds d) (suite c ns ds) E σ H) (Wout := W.w) hs hf hN hi hln ⟨hg, hdb, .inl gC⟩ tk (fun W1 pn xe t po => hb W1 pn xe t po) ?_) ?_
  · intro ad oe cls d pn hz hv
    refine ⟨fun pins s σ H E I ⟨c, ns, ds, ec, hd, q⟩ => ?_⟩
    subst ec
    exact (hsu ad oe c d pn ns ds hz hv hd).run pins s σ H E I q
  · rintro E σ H ⟨F, e, M, RS, q⟩
    refine ⟨F, e, M, RS, ?_⟩
    unfold sTry at q
    cases hm : s1 e M with
    | nx e1 M1 => rw [hm] at q; exact q
    | rt d M1 => rw [hm] at q; exact q
    | bk e1 M1 => rw [hm] at q; exact q
    | ct e1 M1 => rw [hm] at q; exact q
    | bad => rw [hm] at q; exact q
    | ex c ns ds e1 M1 =>
      rw [hm] at q
      intro F1 H1 σ1 d g1 R1 E1 x1
      dsimp only at q
      cases hc : ct c with
      | none => rw [hc] at q; exact q.elim
      | some bb =>
        rw [hc] at q
        refine ⟨bb, hct c bb hc, fun hbb ad had => ?_, fun hbb => ?_⟩
        · subst hbb
          dsimp only at q
          by_cases hl : i < e1.length
          · rw [if_pos hl] at q
            have hl2 : i < σ1.length := by rw [← E1.length]; exact hl
            refine ⟨c, ns, ds, rfl, fun z => ?_, F1, e1.set i none, M1, ⟨R1, E1.unset i _, fun pp hp => ?_, fun t ht => ?_⟩, ?_⟩
            · cases x1 with
              | no => rfl
              | so _ hne => exact absurd z hne
            · have : pp = (i, ad) := by simpa using hp
              subst this
              exact List.getElem?_set_self hl2
            · have : t = (ns, ds, d) := by simpa using ht
              subst this
              exact x1
            · have q := q.up g1
              cases hs2 : suite c ns ds (e1.set i none) M1 with
              | nx e2 M2 => rw [hs2] at q; exact fun F2 H2 σ2 g2 R2 E2 _ => q F2 H2 _ g2 R2 (E2.unset i none) (by rw [px]; exact pin_nil)
              | bk e2 M2 => rw [hs2] at q; exact fun F2 H2 σ2 g2 R2 E2 _ => q F2 H2 _ g2 R2 (E2.unset i none) (by rw [px]; exact pin_nil)
              | ct e2 M2 => rw [hs2] at q; exact fun F2 H2 σ2 g2 R2 E2 _ => q F2 H2 _ g2 R2 (E2.unset i none) (by rw [px]; exact pin_nil)
              | rt d2 M2 => rw [hs2] at q; exact q
              | ex => rw [hs2] at q; exact q.elim
              | bad => rw [hs2] at q; exact q.elim
          · rw [if_neg hl] at q; exact q.elim
        · subst hbb
          exact q F1 H1 σ1 d g1 R1 E1 x1
/-- isinstance(n, C) within the suite: n the exception (no fields) -/
def eXIs (b : Option Bool) (ns : List Str) : EM := fun _ M => match b with
  | some b => if ns.isEmpty = true then .ok (.bl b) M else .bad
  | none => .bad
theorem de_xis {i : Nat} {ad : Addr} {oe : Obj} {c k : Nat} {d : Option Addr} {pn : List (Addr × Obj)} {ns : List Str} {ds : List D} {n x : Str} {p1 p2 : Pos} {isx : Nat → Option Bool} (hE : ∀ c bb, isx c = some bb → ExcC X.K (g.ca c) ∧ PySem.W.kitOne X.K (.ref (g.ca c)) (.ref (g.ca k)) = some bb) (hz : L2N.Zn (.ref (g.ca c)) d oe) (hf : ∃ vs, oe.data = .fields vs) (hd : ns = [] → d = none)
    (hm : X.mg "isinstance" = none) (gC : X.mg x = some (.ref (g.ca k)))
    (hN : X.N[i]? = some n := by rfl) (hv : Vis X.env.scope n := by first | exact Or.inl rfl | exact Or.inr (Or.inl rfl) | exact Or.inr (Or.inr rfl)) (hdn : (n == ("__debug__" : Str)) = false := by decide) (hcd : (n == ("__classdict__" : Str)) = false := by decide) (hg : Gl (X.suite ad ((ad, oe) :: pn)) "isinstance" := by rfl) (hgx : Gl (X.suite ad ((ad, oe) :: pn)) x := by rfl)
    (he : starEach [.Name n p1, .Name x p2] X.env = (false, eval (.Name n p1) X.env) :: starEach [.Name x p2] X.env := by rfl) (he2 : starEach [.Name x p2] X.env = (false, eval (.Name x p2) X.env) :: starEach [] X.env := by rfl) (hpl : (backTo pos (starEach [.Name x p2] X.env)).any (·.1) = false := by rfl) (hdx : (x == ("__debug__" : Str)) = false := by decide) :
    PE (X.suite ad ((ad, oe) :: pn)) (.Call (.Name "isinstance" p) [.Name n p1, .Name x p2] [] pos) (tD g (WS i ad ns ds d) (eXIs (isx c) ns)) := by
  refine ⟨fun pins s σ H Q I ⟨F, e, M, RS, q⟩ => ?_⟩
  cases hx : isx c with
  | none => rw [hx] at q; exact q.elim
  | some bb =>
    rw [hx] at q
    dsimp only [eXIs] at q
    cases ns with
    | cons n0 ns => exact q.elim
    | nil =>
      have dn := hd rfl
      subst dn
      obtain ⟨EC, kt⟩ := hE c bb hx
      refine (pe_callB (X := X.suite ad ((ad, oe) :: pn)) (call_isE EC hz.zc hf) hg hm (by decide +kernel) (pa_cons (pe_var (i := i) hN hv hdn hcd) (pa_cons (pe_glob (X := X.suite ad ((ad, oe) :: pn)) (v := .ref (g.ca k)) hgx gC rfl hdx) pa_nil he2) he) (by decide) (by decide) he hpl).run pins s σ H Q I ?_
      refine ⟨.ref ad, RS.x (i, ad) (by simp), .ref (g.ca k), .ref (g.ca k), bb, rfl, fun u r => r, kt, q.here RS.m (.bl _)⟩
end
end T2
namespace T2
open PySem L2

/-! ### defs with defaults; calls with keywords -/
theorem kbn0 {K : PySem.W.Frag} {x qual : Str} {params : Arguments} {body : List Stmt} {scope : Scope} {kws : List (Str × V)} {f : Addr} {fd : FuncData} {ps : List Str} (F : FunD K x qual params body scope [] kws f fd) (n : Nat) (ks : List Str) (ms : List (Str × V)) (G : {A : Type} → List A → List A → List A → List A) (hk : kws ≠ []) (hms : ∀ q ∈ ms, q ∈ kws)
    (hrel : ∀ {vs mz zs : List V} {us mv ws : List Value}, Vals vs us → Vals mz mv → Vals zs ws → Vals (G vs mz zs) (G us mv ws))
    (h : ∀ (D : Addr) (doc pm : Value) (an : Option Addr) (cdv ct : Value) (us mv ws : List Value), us.length = n → mv.length = ms.length → ws.length = ks.length →
      KwChain D ((ms.map (·.1)).zip mv) (bindArgs (PySem.W.fnOf x qual params body scope .none (.ref D) doc pm an cdv ct) ⟨us, ks.zip ws⟩) (ps.zip (G us mv ws))) :
    ∃ mv : List Value, KBn K fd ps n ks (fun us ws => G us mv ws) (fun vs zs => G vs (ms.map (·.2)) zs) := by
  obtain ⟨oc, od, dV, kV, doc, pm, an, cdv, ct, osl, rfl, lk, hcd, hD, hK⟩ := F.ex
  rcases hD with ⟨_, rfl⟩ | ⟨z, _⟩
  · rcases hK with z | ⟨D, rfl, hq⟩
    · exact absurd z hk
    · obtain ⟨mv, hl, rk, hks⟩ := kwd_vals (ms := ms) fun q hm => hq q (hms q hm)
      exact ⟨mv, fun s us ws KI l1 l2 => L2.BindsTo.of_looks fun M => KwChain.looks KI hks (h D doc pm an cdv ct us mv ws l1 hl l2), fun r1 r2 => hrel r1 rk r2⟩
  · exact absurd rfl z
def eCallK (n k : Nat) (gD : List D → List D → List D) (f : List D → MH → Res D) (ma mk : AM) : EM := fun e M => (ma e M).bind fun ds M1 => (mk e M1).bind fun zs M2 => if ds.length = n ∧ zs.length = k then f (gD ds zs) M2 else .bad
section
variable {X : Cx} {g : Wd} {W : WY} {a : Expr} {pos p apos kpos : Pos} {m1 m2 m3 : EM} {ma mk : AM} {es : List Expr} {kws : List Keyword}
theorem pk_imp {t t' : TA} (h : PK X kws t) (i : ∀ σ H Q, t' σ H Q → t σ H Q) : PK X kws t' := ⟨fun pos pins s σ H Q I q => h.run pos pins s σ H Q I (i σ H Q q)⟩
theorem dk_nil : PK X [] (tA g W eNil) := pk_imp pk_nil fun σ H Q ⟨F, e, M, RS, q⟩ => q.here RS.m .nil
theorem dk_cons {nm : Option Str} (ha : PE X a (tD g W m1)) (hb : PK X kws (tA g W ma)) : PK X (⟨nm, a, kpos⟩ :: kws) (tA g W (eCons m1 ma)) :=
  pk_imp (pk_cons ha hb) fun σ H Q ⟨F, e, M, RS, q⟩ => by
    refine ⟨F, e, M, RS, q.bind fun x M1 F1 H1 v e1 g1 R1 rx q1 => ?_⟩
    refine ⟨F1, e, M1, RS.up g1 R1, q1.bind fun y M2 F2 H2 w e2 g2 R2 ry q2 => ?_⟩
    exact q2.here R2 (.cons (rx.mono g2 R1.good) ry)
def tCallNS (n m : Nat) (sp : Sp) (gV : List V → List V → List V) (E : L2.St → XK) (t tk : TA) : TE := fun σ H Q => t σ H fun vs H1 => tk σ H1 fun zs H2 => vs.length = n ∧ zs.length = m ∧ sp (gV vs zs) H2 Q (E σ)
variable {CX : CXT} {k n N : Nat} {f : Addr} {fd : FuncData} {ps ks : List Str} {sp : Sp} {E : L2.St → XK} {x : Str} {t tq : TA} {gg : List Value → List Value → List Value} {gV : List V → List V → List V}
theorem run_fnNS {pins : List (Addr × Obj)} {σ : L2.St} {H : Hp} {s : Shared} {Q : VK} {us ws : List Value} {vs zs : List V} (G : FnOk X.prog X.w X.K X.mg X.base CX k f fd ps sp) (hr : Room k X.A) (hb : KBn X.K fd ps n ks gg gV) (hx : PassesAt CX X σ (E σ))
    (I : Inv X pins σ H s) (r : Vals vs us) (rz : Vals zs ws) (l1 : vs.length = n) (l2 : zs.length = ks.length) (h : sp (gV vs zs) H Q (E σ)) : wpAny (model X.prog X.w) X.A (call (.ref f) us (ks.zip ws)) (EP X pins σ Q) X.xe s := by
  refine wpAny_call (codeAny_mono (G.run X.A X.stack s H ⟨us, ks.zip ws⟩ (gg us ws) (gV vs zs) Q (E σ) hr I.env0 (hb.to s us ws I.kIn (r.length.symm.trans l1) (rz.length.symm.trans l2)) (hb.rel r rz) h) ?_)
  intro r s' hq
  cases r with
  | error e => exact hx pins H s e s' I hq
  | ok fl =>
    cases fl with
    | ret u => exact I.after hq
    | next => exact hq.elim
    | brk => exact hq.elim
    | cont => exact hq.elim
theorem pe_callNS (G : FnOk X.prog X.w X.K X.mg X.base CX k f fd ps sp) (hr : Room k X.A) (hm : X.mg x = some (.ref f)) (hk : PySem.W.keepIn X.K (.ref f) = true) (hb : KBn X.K fd ps n ks gg gV) (hx : ∀ σ, PassesAt CX X σ (E σ)) (ha : PA X (a :: es) t) (hkw : PK X kws tq) (hg : Gl X x)
    (hall : (backToKw pos (keywordEach kws X.env)).all (·.1.isSome) = true) (hks : (backToKw pos (keywordEach kws X.env)).filterMap (·.1) = ks) (hdb : (x == ("__debug__" : Str)) = false) (he : starEach (a :: es) X.env = (false, eval a X.env) :: starEach es X.env)
    (hpl : ((backTo pos (starEach (a :: es) X.env)).any (·.1) || (backToKw pos (keywordEach kws X.env)).any (·.1.isNone)) = false) : PE X (.Call (.Name x p) (a :: es) kws pos) (tCallNS n ks.length sp gV E t tq) := by
  refine ⟨fun pins s σ H Q I h => wpAny_Call_Name_kw (ld_glob I hg hm (PySem.W.callWith_KW (h₀ := X.base) I.ok.mod.kin hk hall (thn (ha.run pos pins s σ H _ I h) ?_) hpl he) hdb)⟩
  rintro us s1 ⟨vs, H1, I1, r, q⟩
  refine thn (hkw.run pos pins s1 σ H1 _ I1 q) ?_
  rintro ws s2 ⟨zs, H2, I2, rz, l1, l2, q2⟩
  exact ⟨I2.kIn, by rw [hks]; exact run_fnNS G hr hb (hx σ) I2 r rz l1 l2 q2⟩
theorem de_callK {kk : Nat} {m : List D → MH → Res D} {gD : List D → List D → List D} (G : FnOk X.prog X.w X.K X.mg X.base (L2N.CX X.prog X.w) k f fd ps (spD g N m)) (hr : Room k X.A) (tk : L2N.Takes X W.w) (hm : X.mg x = some (.ref f)) (hk : PySem.W.keepIn X.K (.ref f) = true) (hb : KBn X.K fd ps n ks gg gV)
    (hG : ∀ F H ds vs zs ws, ds.length = n → zs.length = ks.length → Reps g F H ds vs → Reps g F H zs ws → Reps g F H (gD ds zs) (gV vs ws)) (hl : ∀ vs zs, vs.length = n → zs.length = ks.length → (gV vs zs).length = N) (ha : PA X (a :: es) (tA g W ma)) (hkw : PK X kws (tA g W mk)) (hkk : ks.length = kk := by rfl) (hg : Gl X x := by rfl)
    (hall : (backToKw pos (keywordEach kws X.env)).all (·.1.isSome) = true := by rfl) (hks : (backToKw pos (keywordEach kws X.env)).filterMap (·.1) = ks := by rfl) (hdb : (x == ("__debug__" : Str)) = false := by decide) (he : starEach (a :: es) X.env = (false, eval a X.env) :: starEach es X.env := by rfl)
    (hpl : ((backTo pos (starEach (a :: es) X.env)).any (·.1) || (backToKw pos (keywordEach kws X.env)).any (·.1.isNone)) = false := by rfl) : PE X (.Call (.Name x p) (a :: es) kws pos) (tD g W (eCallK n kk gD m ma mk)) := by
  subst hkk
  exact pe_imp (pe_callNS G hr hm hk hb (fun σ => L2N.passAt tk σ) ha hkw hg hall hks hdb he hpl) fun σ H Q ⟨F, e, M, RS, q⟩ => ⟨F, e, M, RS, q.bind fun ds M1 F1 H1 vs e1 g1 R1 r q1 => ⟨F1, e, M1, RS.up g1 R1, q1.bind fun zs M2 F2 H2 ws e2 g2 R2 rz q2 => by
    split at q2
    · rename_i hh
      have l1 : vs.length = n := by rw [← r.length]; exact hh.1
      have l2 : ws.length = ks.length := by rw [← rz.length]; exact hh.2
      exact ⟨l1, l2, hl vs ws l1 l2, F2, M2, gD ds zs, R2, hG F2 H2 ds vs zs ws hh.1 hh.2 (r.mono g2 R1.good) rz, post_call q2⟩
    · exact q2.elim⟩⟩
end
/-! ### methods of texts -/
def dStr0 (f : Str → Str) (x : D) (M : MH) : Res D := match x with
  | .str z => if z.length ≤ big then .ok (.str (f z)) M else .bad
  | _ => .bad
section
variable {X : Cx} {g : Wd} {W : WY} {a : Expr} {pos p apos kpos : Pos} {m1 m2 m3 : EM}
theorem de_upper (ha : PE X a (tD g W m1)) (hbase : attributeBase a "upper" X.env (eval a X.env) = eval a X.env := by rfl) (hline : (apos.endLine == pos.line) = true := by rfl) : PE X (.Call (.Attribute a "upper" apos) [] [] pos) (tD g W (eUn (dStr0 Txt.upper) m1)) :=
  pe_imp (pe_bm0 PySem.F.plainAttrs_str PySem.F.slot_str_upper PySem.F.type_str_upper mt_upper ha hbase hline) fun σ H Q ⟨F, e, M, RS, q⟩ => ⟨F, e, M, RS, q.bind fun x M1 F1 H1 v e1 g1 R1 rx q1 => by
    unfold dStr0 at q1
    split at q1
    · cases rx
      split at q1
      · rename_i hl; exact ⟨rfl, _, rfl, rfl, Nat.le_trans hl (by decide), q1.here R1 (.str _)⟩
      · exact q1.elim
    · exact q1.elim⟩
end
theorem fnD_ok2 {P : Program} {w : World} {K : PySem.W.Frag} {mg : Str → Option Value} {base : Heap} {g : Wd} {x qual : Str} {st : Stmt} {f : Addr} {fd : FuncData} {N ps : List Str} {k : Nat} {b : SM} {dvs : List V} {kws : List (Str × V)} (F : FunD K x qual (defArgs st) (defBody st) (defScope st) dvs kws f fd) (S : FnScope N ps (defScope st))
    (hbody : ∀ (cdv : Value) (A : Around) (outer : List Env) (s : Shared) (H : Hp) (E : XK), Room k (A.deeper (PyProof.Rows.envOfC qual (defScope st) s.heap.objs.size f cdv)) →
      L2N.Takes (cxOf (L2N.CX P w) P w K mg base N qual (defScope st) f cdv A outer s H E) (WY.mk (fun c d _ H => E c d H) ⟨[], []⟩).w →
      PassesOwn (model P w) (cxOf (L2N.CX P w) P w K mg base N qual (defScope st) f cdv A outer s H E).A (cxOf (L2N.CX P w) P w K mg base N qual (defScope st) f cdv A outer s H E).env (cxOf (L2N.CX P w) P w K mg base N qual (defScope st) f cdv A outer s H E).xe →
      PSs (cxOf (L2N.CX P w) P w K mg base N qual (defScope st) f cdv A outer s H E) (defBody st) (tS g ⟨fun c d _ H => E c d H, ⟨[], []⟩⟩ b)) : FnOk P w K mg base (L2N.CX P w) (k + 1) f fd ps (spD g ps.length (fnB N.length b)) :=
  F.ok S (fun vs H Q E h => h.1) fun cdv A outer s H vs Q E hr h => ⟨_, hbody cdv A outer s H E hr (L2N.takes_of rfl rfl rfl rfl) (passes_of (X := cxOf (L2N.CX P w) P w K mg base N qual (defScope st) f cdv A outer s H E) rfl), body_run h⟩
end T2
namespace T2
open PySem L2
section
variable {X : Cx}
theorem pe_or {e : Expr} {t1 t2 : TE} (h1 : PE X e t1) (h2 : PE X e t2) : PE X e (fun σ H Q => t1 σ H Q ∨ t2 σ H Q) := ⟨fun pins s σ H Q I q => q.elim (h1.run pins s σ H Q I) (h2.run pins s σ H Q I)⟩
theorem pt_or {e : Expr} {t1 t2 : TT} (h1 : PT X e t1) (h2 : PT X e t2) : PT X e (fun σ H Q => t1 σ H Q ∨ t2 σ H Q) := ⟨fun pins s σ H Q I q => q.elim (h1.run pins s σ H Q I) (h2.run pins s σ H Q I)⟩
theorem ps_or {e : Stmt} {t1 t2 : TS} (h1 : PS X e t1) (h2 : PS X e t2) : PS X e (fun E σ H => t1 E σ H ∨ t2 E σ H) := ⟨fun pins s σ H E I q => q.elim (h1.run pins s σ H E I) (h2.run pins s σ H E I)⟩
end

/-! ### dicts with int and text keys -/
def keyOf : D → Option Key
  | .int i => some (.inl i)
  | .str x => some (.inr x)
  | _ => none
def kGet {k A : Type} [DecidableEq k] (ks : List k) (ds : List A) (x : k) : Option A := ((ks.zip ds).find? fun p => decide (p.1 = x)).map (·.2)
def kPut {k A : Type} [DecidableEq k] (x : k) (d : A) : List k → List A → List k × List A
  | n :: ns, y :: ds => if n = x then (n :: ns, d :: ds) else ((n :: (kPut x d ns ds).1), (y :: (kPut x d ns ds).2))
  | _, _ => ([x], [d])
theorem key_rep {g : Wd} {F : List Addr} {H : Hp} {d : D} {v : V} {k : Key} (r : Rep g F H d v) (h : keyOf d = some k) : v = kV k := by cases r <;> first | (cases h; rfl) | cases h
theorem kGet_rep {g : Wd} {F : List Addr} {H : Hp} {κ : Type} [DecidableEq κ] {x : κ} : ∀ {ks : List κ} {ds : List D} {vs : List V}, Reps g F H ds vs → (match kGet ks ds x with
    | some d => ∃ v, valV (ks.zip vs) x = some v ∧ Rep g F H d v
    | none => valV (ks.zip vs) x = none)
  | [], _, _, _ => by simp [kGet, valV]
  | _ :: _, _, _, .nil => by simp [kGet, valV]
  | n :: ns, _, _, .cons (d := d) (v := v) (ds := ds) (vs := vs) r t => by
    unfold kGet valV
    rw [List.zip_cons_cons, List.zip_cons_cons, List.find?_cons, List.find?_cons]
    by_cases hn : n = x
    · simp only [hn, decide_true]
      exact ⟨_, rfl, r⟩
    · simp only [hn, decide_false]
      exact kGet_rep t
section
variable {X : Cx} {g : Wd} {W : WY} {a b c : Expr} {pos p apos : Pos} {m1 m2 m3 : EM} {ma : AM} {es : List Expr}
theorem dk_at {F : List Addr} {M : MH} {H : Hp} {n : Nat} {ad : Addr} {ks : List Key} {ds : List D} (R : RelM g F M H) (hn : F[n]? = some ad) (hm : M[n]? = some (.dk ks ds)) : ∃ vs, H ad = some (.dK (ks.zip vs)) ∧ ks.length = vs.length ∧ Reps g F H ds vs := by
  obtain ⟨h, e, r⟩ := R.obj n ad _ hn hm
  cases r with | dk hl r => exact ⟨_, e, hl, r⟩
/-- any x[y] -/
def dIxA (x y : D) (M : MH) : Res D := match x with
  | .ref n => match M[n]? with
    | some (.dk ks ds) => match keyOf y with
      | some k => (match kGet ks ds k with
        | some d => .ok d M
        | none => .bad)
      | none => .bad
    | _ => dIx x y M
  | _ => dIx x y M
theorem de_ixA (hK : g.K = X.K) (hu : X.A.units + 1 < cLine) (ha : PE X a (tD g W m1)) (hb : PE X b (tD g W m2)) (hs : PlainIx b := by intro _ _; rfl) (hs2 : NoSl b := by intro _ _; rfl) : PE X (.Subscript a b pos) (tD g W (eBin dIxA m1 m2)) :=
  pe_imp (pe_or (pe_ix ix_seq ha hb hs) (pe_dget hu ha hb hs2)) fun σ H Q ⟨F, e, M, RS, q⟩ => by
    cases h1 : m1 e M with
    | bad => unfold eBin at q; rw [h1] at q; exact q.elim
    | exc c ns ds M1 => exact .inl ⟨F, e, M, RS, by rw [h1]; unfold eBin at q; rw [h1] at q; exact q⟩
    | ok x M1 =>
      cases h2 : m2 e M1 with
      | bad => unfold eBin at q; rw [h1] at q; dsimp only [Res.bind] at q; rw [h2] at q; exact q.elim
      | exc c ns ds M2 =>
        refine .inl ⟨F, e, M, RS, ?_⟩
        rw [h1]
        intro F1 H1 v g1 R1 rx
        refine ⟨F1, e, M1, RS.up g1 R1, ?_⟩
        rw [h2]
        unfold eBin at q; rw [h1] at q; dsimp only [Res.bind] at q; rw [h2] at q
        exact q.up g1
      | ok y M2 =>
        have q0 : post g rD W.w F σ H (dIxA x y M2) Q := by unfold eBin at q; rw [h1] at q; dsimp only [Res.bind] at q; rw [h2] at q; exact q
        by_cases hd : ∃ n ks ds, x = .ref n ∧ M2[n]? = some (.dk ks ds)
        · obtain ⟨n, ks, ds, rfl, hM⟩ := hd
          refine .inr ⟨F, e, M, RS, ?_⟩
          rw [h1]
          intro F1 H1 v g1 R1 rx
          refine ⟨F1, e, M1, RS.up g1 R1, ?_⟩
          rw [h2]
          intro F2 H2 w g2 R2 ry
          cases rx with | ref hn =>
          have hn2 := pre_get g2.pre hn
          obtain ⟨vs, hv, hl, r⟩ := dk_at R2 hn2 hM
          dsimp only [dIxA] at q0
          rw [hM] at q0
          dsimp only at q0
          cases hk : keyOf y with
          | none => rw [hk] at q0; exact q0.elim
          | some k =>
            rw [hk] at q0
            dsimp only at q0
            have ek := key_rep ry hk
            subst ek
            have kg := kGet_rep (x := k) (ks := ks) r
            cases hg : kGet ks ds k with
            | none => rw [hg] at q0; exact q0.elim
            | some d =>
              rw [hg] at q0 kg
              obtain ⟨u, hu2, ru⟩ := kg
              exact ⟨_, u, rfl, hu2 ▸ DGet.k hv, (q0.up (g1.trans g2)).here R2 ru⟩
        · have e0 : dIxA x y M2 = dIx x y M2 := by
            unfold dIxA
            split
            · split
              · rename_i hM; exact absurd ⟨_, _, _, rfl, hM⟩ hd
              · rfl
            · rfl
          rw [e0] at q0
          refine .inl (bin_imp (sim_ix hK) ⟨F, e, M, RS, ?_⟩)
          unfold eBin
          rw [h1]; dsimp only [Res.bind]; rw [h2]
          exact q0
/-- x in y, y a dict or a sequence -/
def inResA (x y : D) (M : MH) : Option Bool := match y with
  | .ref n => match M[n]? with
    | some (.dk ks ds) => (keyOf x).map fun k => (kGet ks ds k).isSome
    | _ => inRes x y M
  | _ => inRes x y M
def dInA (x y : D) (M : MH) : Res D := match inResA x y M with
  | some b => .ok (.bl b) M
  | none => .bad
def dNotInA (x y : D) (M : MH) : Res D := match inResA x y M with
  | some b => .ok (.bl (!b)) M
  | none => .bad
theorem inA_imp {f0 fA : D → D → MH → Res D} {r : R2} {gb : Bool → Bool} (hs : Sim2 g f0 r) (hA : ∀ x y M, fA x y M = match inResA x y M with | some b => .ok (.bl (gb b)) M | none => .bad) (h0 : ∀ x y M, f0 x y M = match inRes x y M with | some b => .ok (.bl (gb b)) M | none => .bad)
    {σ : L2.St} {H : Hp} {Q : VK} (q : tD g W (eBin fA m1 m2) σ H Q) :
    tOp r (tD g W m1) (tD g W m2) σ H Q ∨ (tD g W m1 σ H fun y H1 => tD g W m2 σ H1 fun x H2 => ∃ a o, x = .ref a ∧ DGet H2 a y o ∧ Q (.bl (gb o.isSome)) H2) := by
  obtain ⟨F, e, M, RS, q⟩ := q
  cases h1 : m1 e M with
  | bad => unfold eBin at q; rw [h1] at q; exact q.elim
  | exc c ns ds M1 => exact .inl ⟨F, e, M, RS, by rw [h1]; unfold eBin at q; rw [h1] at q; exact q⟩
  | ok x M1 =>
    cases h2 : m2 e M1 with
    | bad => unfold eBin at q; rw [h1] at q; dsimp only [Res.bind] at q; rw [h2] at q; exact q.elim
    | exc c ns ds M2 =>
      refine .inl ⟨F, e, M, RS, ?_⟩
      rw [h1]
      intro F1 H1 v g1 R1 rx
      refine ⟨F1, e, M1, RS.up g1 R1, ?_⟩
      rw [h2]
      unfold eBin at q; rw [h1] at q; dsimp only [Res.bind] at q; rw [h2] at q
      exact q.up g1
    | ok y M2 =>
      have q0 : post g rD W.w F σ H (fA x y M2) Q := by unfold eBin at q; rw [h1] at q; dsimp only [Res.bind] at q; rw [h2] at q; exact q
      rw [hA] at q0
      by_cases hd : ∃ n ks ds, y = .ref n ∧ M2[n]? = some (.dk ks ds)
      · obtain ⟨n, ks, ds, rfl, hM⟩ := hd
        refine .inr ⟨F, e, M, RS, ?_⟩
        rw [h1]
        intro F1 H1 v g1 R1 rx
        refine ⟨F1, e, M1, RS.up g1 R1, ?_⟩
        rw [h2]
        intro F2 H2 w g2 R2 ry
        cases ry with | ref hn2 =>
        obtain ⟨vs, hv, hl, r⟩ := dk_at R2 hn2 hM
        dsimp only [inResA] at q0
        rw [hM] at q0
        dsimp only at q0
        cases hk : keyOf x with
        | none => rw [hk] at q0; exact q0.elim
        | some k =>
          rw [hk] at q0
          dsimp only [Option.map] at q0
          have ek := key_rep (rx.mono g2 R1.good) hk
          subst ek
          refine ⟨_, _, rfl, DGet.k hv, ?_⟩
          have kg := kGet_rep (x := k) (ks := ks) r
          have es : (valV (ks.zip vs) k).isSome = (kGet ks ds k).isSome := by
            cases hg : kGet ks ds k with
            | none => rw [hg] at kg; rw [kg]; rfl
            | some d => rw [hg] at kg; obtain ⟨u, hu, _⟩ := kg; rw [hu]; rfl
          rw [es]
          exact (q0.up (g1.trans g2)).here R2 (.bl _)
      · have e0 : inResA x y M2 = inRes x y M2 := by
          unfold inResA
          split
          · split
            · rename_i hM; exact absurd ⟨_, _, _, rfl, hM⟩ hd
            · rfl
          · rfl
        rw [e0, ← h0] at q0
        refine .inl (bin_imp hs ⟨F, e, M, RS, ?_⟩)
        unfold eBin
        rw [h1]; dsimp only [Res.bind]; rw [h2]
        exact q0
theorem de_inA (hK : g.K = X.K) (hu : X.A.units + 1 < cLine) (ha : PE X a (tD g W m1)) (hb : PE X b (tD g W m2)) (hm : behindInMarks .In b = false := by rfl) : PE X (.Compare a [.In] [b] pos) (tD g W (eBin dInA m1 m2)) :=
  pe_imp (pe_or (pe_cmpR op_inA ha hb hm) (pe_cmp (pc_din hu ha hb) hm)) fun σ H Q q => inA_imp (gb := fun b => b) (sim_in hK) (fun _ _ _ => rfl) (fun _ _ _ => rfl) q
theorem de_notinA (hK : g.K = X.K) (hu : X.A.units + 1 < cLine) (ha : PE X a (tD g W m1)) (hb : PE X b (tD g W m2)) (hm : behindInMarks .NotIn b = false := by rfl) : PE X (.Compare a [.NotIn] [b] pos) (tD g W (eBin dNotInA m1 m2)) :=
  pe_imp (pe_or (pe_cmpR op_notInA ha hb hm) (pe_cmp (pc_dnotin hu ha hb) hm)) fun σ H Q q => inA_imp (gb := fun b => !b) (sim_notIn hK) (fun _ _ _ => rfl) (fun _ _ _ => rfl) q
theorem dt_inA (hK : g.K = X.K) (hu : X.A.units + 1 < cLine) (ha : PE X a (tD g W m1)) (hb : PE X b (tD g W m2)) (hm : behindInMarks .In b = false := by rfl) : PT X (.Compare a [.In] [b] pos) (tB2 g W (bVal (eBin dInA m1 m2))) :=
  pt_imp (pt_or (pt_cmpR op_inA ha hb hm) (pt_cmp (pc_din hu ha hb) hm)) fun σ H Q q => inA_imp (gb := fun b => b) (sim_in hK) (fun _ _ _ => rfl) (fun _ _ _ => rfl) (val_imp q)
theorem dt_notinA (hK : g.K = X.K) (hu : X.A.units + 1 < cLine) (ha : PE X a (tD g W m1)) (hb : PE X b (tD g W m2)) (hm : behindInMarks .NotIn b = false := by rfl) : PT X (.Compare a [.NotIn] [b] pos) (tB2 g W (bVal (eBin dNotInA m1 m2))) :=
  pt_imp (pt_or (pt_cmpR op_notInA ha hb hm) (pt_cmp (pc_dnotin hu ha hb) hm)) fun σ H Q q => inA_imp (gb := fun b => !b) (sim_notIn hK) (fun _ _ _ => rfl) (fun _ _ _ => rfl) (val_imp q)
end
end T2
namespace T2
open PySem L2
section
variable {X : Cx} {g : Wd} {W : WY} {a b c : Expr} {pos p apos : Pos} {m1 m2 m3 : EM} {ma : AM} {es : List Expr}
/-! ### dict displays with written keys -/
def trsOf (g : Wd) (W : WY) (l : List (Key × EM)) : List (TE × TE) := l.map fun q => (tC (kV q.1), tD g W q.2)
def amOf (l : List (Key × EM)) : AM := l.foldr (fun q r => eCons q.2 r) eNil
theorem pairs_run {e : Env2} {σ : L2.St} : ∀ {l : List (Key × EM)} {F : List Addr} {M : MH} {H : Hp} {Q : List (V × V) → Hp → Prop}, RelS g W.p F e M σ H → post g rDs W.w F σ H (amOf l e M) (fun vs H2 => Q ((l.map fun q => kV q.1).zip vs) H2) → tPairs (trsOf g W l) σ H Q
  | [], F, M, H, Q, RS, q => q.here RS.m .nil
  | (k, m) :: l, F, M, H, Q, RS, q => by
    show tD g W m σ H fun y H2 => tPairs (trsOf g W l) σ H2 fun ps H3 => Q ((kV k, y) :: ps) H3
    have q' : post g rDs W.w F σ H ((m e M).bind fun x M1 => (amOf l e M1).bind fun xs M2 => .ok (x :: xs) M2) (fun vs H2 => Q (((k, m) :: l).map (fun q => kV q.1) |>.zip vs) H2) := q
    refine ⟨F, e, M, RS, q'.bind fun x M1 F1 H1 v e1 g1 R1 rx q1 => ?_⟩
    refine pairs_run (RS.up g1 R1) (q1.bind fun xs M2 F2 H2 vs e2 g2 R2 rs q2 => ?_)
    exact q2.here R2 (.cons (rx.mono g2 R1.good) rs)
def eDisp (l : List (Key × EM)) : EM := fun e M => (amOf l e (M ++ [.dk [] []])).bind fun ds M1 => match M1[M.length]? with
  | some (.dk [] []) => .ok (.ref M.length) (M1.set M.length (.dk (l.map (·.1)) ds))
  | _ => .bad
theorem putK_new' {κ : Type} [DecidableEq κ] {kvs : List (κ × V)} {k : κ} {v : V} (h : k ∉ kvs.map (·.1)) : putK kvs k v = kvs ++ [(k, v)] := by
  unfold putK
  rw [if_neg]
  simp only [List.any_eq_true, not_exists, not_and, decide_eq_true_eq]
  intro x hx z
  exact h (z ▸ List.mem_map.mpr ⟨x, hx, rfl⟩)
theorem mergeK_nodup : ∀ (kvs acc : List (Key × V)), (acc.map (·.1) ++ kvs.map (·.1)).Nodup → mergeK acc kvs = acc ++ kvs
  | [], acc, _ => by simp [mergeK]
  | (k, v) :: kvs, acc, h => by
    have hk : k ∉ acc.map (·.1) := fun z => by
      rw [List.nodup_append] at h
      exact h.2.2 k z k (by simp) rfl
    show mergeK (putK acc k v) kvs = _
    rw [putK_new' hk, mergeK_nodup kvs (acc ++ [(k, v)]) (by simpa using h)]
    simp
theorem amOf_len {F : List Addr} {σ : L2.St} {H : Hp} : ∀ (l : List (Key × EM)) (e : Env2) (M : MH) {ds : List D} {M1 : MH}, amOf l e M = .ok ds M1 → ds.length = l.length
  | [], e, M, ds, M1, h => by cases h; rfl
  | (k, m) :: l, e, M, ds, M1, h => by
    have h' : ((m e M).bind fun x M1 => (amOf l e M1).bind fun xs M2 => .ok (x :: xs) M2) = .ok ds M1 := h
    cases hm : m e M with
    | ok x M2 =>
      rw [hm] at h'
      dsimp only [Res.bind] at h'
      cases hr : amOf l e M2 with
      | ok xs M3 => rw [hr] at h'; cases h'; simp [amOf_len (F := F) (σ := σ) (H := H) l e M2 hr]
      | exc => rw [hr] at h'; cases h'
      | bad => rw [hr] at h'; cases h'
    | exc => rw [hm] at h'; cases h'
    | bad => rw [hm] at h'; cases h'
theorem de_disp {l : List (Key × EM)} {keys : List (Option Expr)} {values : List Expr} (hp : PPs X pos keys values (trsOf g W l)) (hnd : (l.map (·.1)).Nodup) (h15 : l.length ≤ 15) (hall : keys.all (·.isSome) = true := by rfl) (hl : keys.length = values.length := by rfl) (h0 : keys ≠ [] := by intro h; cases h) (hk15 : keys.length ≤ 15 := by decide) :
    PE X (.Dict keys values pos) (tD g W (eDisp l)) :=
  pe_imp (pe_disp hp hall hl h0 hk15) fun σ H Q ⟨F, e, M, RS, q⟩ ad had => by
    obtain ⟨g1, R1⟩ := RS.m.laid (m := .dk [] []) (o := .dK []) had fun F' H' gr => .dk (ks := []) (vs := []) rfl .nil
    have RS1 := RS.up g1 R1
    have hn0 : (F ++ [ad])[M.length]? = some ad := by rw [← RS.m.len]; simp
    refine pairs_run RS1 ?_
    unfold eDisp at q
    cases hm : amOf l e (M ++ [.dk [] []]) with
    | bad => rw [hm] at q; exact q.elim
    | exc c ns ds M1 => rw [hm] at q; exact q.up g1
    | ok ds M1 =>
      rw [hm] at q
      have hlen := amOf_len (F := F) (σ := σ) (H := H) l e _ hm
      intro F2 H2 vs g2 R2 rs
      have hn2 := pre_get g2.pre hn0
      dsimp only [Res.bind] at q
      split at q
      · rename_i hM
        obtain ⟨us, hu, hl2, _⟩ := dk_at R2 hn2 hM
        have hu0 : us = [] := by cases us with | nil => rfl | cons => simp at hl2
        subst hu0
        refine ⟨hu, (l.map (·.1)).zip vs, ?_, by rw [List.length_zip, List.length_map]; omega, ?_⟩
        · have e1 : (l.map fun q => kV q.1) = (l.map (·.1)).map kV := by simp
          rw [e1, List.zip_map_left]
          exact List.map_congr_left fun x _ => rfl
        · rw [mergeK_nodup _ [] (by simp; rw [List.map_fst_zip (by rw [List.length_map, ← rs.length, hlen]; exact Nat.le_refl _)]; exact hnd)]
          obtain ⟨g3, R3⟩ := R2.put (o := .dK ([] ++ (l.map (·.1)).zip vs)) (m := .dk (l.map (·.1)) ds) hn2 trivial fun H' gr => by
            rw [List.nil_append]; exact .dk (by rw [List.length_map, ← rs.length, hlen]) (rs.mono gr R2.good)
          exact (q.up (g1.trans g2)).ok g3 R3 (.ref hn2)
      · exact q.elim
def eDNew : EM := fun _ M => .ok (.ref M.length) (M ++ [.dk [] []])
theorem de_dnew : PE X (.Dict [] [] pos) (tD g W eDNew) := pe_imp pe_dnewK fun σ H Q ⟨F, e, M, RS, q⟩ ad had => by
  obtain ⟨g1, R1⟩ := RS.m.laid (m := .dk [] []) (o := .dK []) had fun F' H' gr => .dk (ks := []) (vs := []) rfl .nil
  exact q.ok g1 R1 (.ref (by rw [← RS.m.len]; simp))
end
end T2
namespace T2
open PySem L2
/-! ### arguments put in order -/
def pick {A : Type} (idx : List Nat) (l : List A) : List A := idx.filterMap fun i => l[i]?
theorem pick_vals {vs : List V} {us : List Value} (r : Vals vs us) : ∀ idx : List Nat, Vals (pick idx vs) (pick idx us)
  | [] => .nil
  | i :: idx => by
    unfold pick
    rw [List.filterMap_cons, List.filterMap_cons]
    cases h : vs[i]? with
    | none => rw [r.none_of h]; exact pick_vals r idx
    | some v => obtain ⟨u, hu, ru⟩ := r.get h; rw [hu]; exact .cons ru (pick_vals r idx)
theorem pick_reps {g : Wd} {F : List Addr} {H : Hp} {ds : List D} {vs : List V} (r : Reps g F H ds vs) : ∀ idx : List Nat, Reps g F H (pick idx ds) (pick idx vs)
  | [] => .nil
  | i :: idx => by
    unfold pick
    rw [List.filterMap_cons, List.filterMap_cons]
    cases h : ds[i]? with
    | none =>
      have h2 : vs[i]? = none := by
        rw [List.getElem?_eq_none_iff] at h ⊢
        rw [← r.length]; exact h
      rw [h2]; exact pick_reps r idx
    | some d => obtain ⟨u, hu, ru⟩ := r.get h; rw [hu]; exact .cons ru (pick_reps r idx)
theorem pick_len {A : Type} {l : List A} : ∀ idx : List Nat, (idx.all fun i => decide (i < l.length)) = true → (pick idx l).length = idx.length
  | [], _ => rfl
  | i :: idx, h => by
    rw [List.all_cons, Bool.and_eq_true, decide_eq_true_eq] at h
    unfold pick
    rw [List.filterMap_cons, List.getElem?_eq_getElem h.1]
    have := pick_len idx h.2
    unfold pick at this
    simp [this]
/-- a def that is not spoken of -/
theorem fn_bad {P : Program} {w : World} {K : PySem.W.Frag} {mg : Str → Option Value} {base : Heap} {CX : CXT} {g : Wd} {f : Addr} {fd : FuncData} {ps : List Str} (k : Nat) : FnOk P w K mg base CX k f fd ps (spD g ps.length fun _ _ => .bad) :=
  ⟨fun vs H Q E h => h.1, fun A outer s H args us vs Q E hr e0 hb hv ⟨_, _, _, _, _, _, q⟩ => q.elim⟩
/-! ### isinstance by a table -/
abbrev IsiTab := List ((Tg × Tg) × Bool)
def isiOf (tab : IsiTab) (t c : Tg) : Option Bool := (tab.find? fun e => decide (e.1.1 = t ∧ e.1.2 = c)).map (·.2)
theorem isiOf_mem {tab : IsiTab} {t c : Tg} {b : Bool} (h : isiOf tab t c = some b) : ((t, c), b) ∈ tab := by
  unfold isiOf at h
  cases hf : tab.find? fun e => decide (e.1.1 = t ∧ e.1.2 = c) with
  | none => rw [hf] at h; cases h
  | some e =>
    rw [hf] at h; cases h
    have h1 := List.find?_some hf
    have h2 := List.mem_of_find?_eq_some hf
    simp only [decide_eq_true_eq] at h1
    obtain ⟨⟨t', c'⟩, b'⟩ := e
    obtain ⟨rfl, rfl⟩ := h1
    exact h2
def bltTab : IsiTab := (["NoneType", "bool", "int", "str", "tuple", "list", "dict"].flatMap fun a => ["int", "bool", "str", "tuple", "list", "dict"].map fun b => ((Sum.inl a, Sum.inl b), a == b || (a == "bool" && b == "int")))
theorem blt_ok (K : PySem.W.Frag) (g : Wd) : ∀ e ∈ bltTab, PySem.W.kitOne K (tagV g e.1.1) (tagV g e.1.2) = some e.2 := by
  intro e he
  simp only [bltTab, List.flatMap_cons, List.flatMap_nil, List.map_cons, List.map_nil, List.cons_append, List.nil_append, List.append_nil, List.mem_cons, List.not_mem_nil, or_false] at he
  rcases he with rfl | rfl | rfl | rfl | rfl | rfl | rfl | rfl | rfl | rfl | rfl | rfl | rfl | rfl | rfl | rfl | rfl | rfl | rfl | rfl | rfl | rfl | rfl | rfl | rfl | rfl | rfl | rfl | rfl | rfl | rfl | rfl | rfl | rfl | rfl | rfl | rfl | rfl | rfl | rfl | rfl | rfl
  all_goals first | rfl | (exact kit_ty (by decide +kernel))
end T2
namespace T2
open PySem L2
/-! ### what the written part says -/
inductive TabR (g : Wd) : List DictEntry → List (Str × D) → Prop
  | nil : TabR g [] []
  | cons {h : Int} {x : Str} {t : Tok} {u : Value} {v : V} {d : D} {es : List DictEntry} {tab : List (Str × D)} (r : RelV v u) (rr : ∀ F H, Rep g F H d v) (q : TabR g es tab) : TabR g (⟨h, .str x t, u⟩ :: es) ((x, d) :: tab)
theorem tabR_look {g : Wd} {z : Str} : ∀ {es : List DictEntry} {tab : List (Str × D)}, TabR g es tab → (es.any (·.refKey)) = false ∧ (match tab.lookup z, (es.find? (·.key.isStr z)) with
    | some x, some e => ∃ v, RelV v e.val ∧ ∀ F H, Rep g F H x v
    | none, none => True
    | _, _ => False)
  | _, _, .nil => ⟨rfl, trivial⟩
  | _, _, .cons (h := h) (x := x) (t := t) (u := u) (v := v) (d := d) (es := es) (tab := tab) r rr q => by
    obtain ⟨h1, h2⟩ := tabR_look (z := z) q
    refine ⟨by rw [List.any_cons, h1]; rfl, ?_⟩
    rw [List.lookup_cons, List.find?_cons]
    have e : Value.isStr (Value.str x t) z = (z == x) := by
      show (x == z) = (z == x)
      rw [Bool.eq_iff_iff]; simp only [beq_iff_eq]; exact ⟨fun h => h.symm, fun h => h.symm⟩
    have e' : ((⟨h, .str x t, u⟩ : DictEntry).key.isStr z) = (z == x) := e
    rw [e']
    cases z == x with
    | true => exact ⟨v, r, rr⟩
    | false => exact h2
theorem ktab_of {g : Wd} {w : World} {d : Addr} {es : Array DictEntry} {n : Nat} {tab : List (Str × D)} (l : g.K.lookup d = some ⟨.type "dict", none, .dict es n, #[]⟩) (k : PySem.W.KeysLit w.params es.toList) (low : (d == sysModules) = false) (t : TabR g es.toList tab) : KTab g w d tab := by
  refine ⟨⟨es, n, l, k, low⟩, fun z => ?_⟩
  obtain ⟨h1, h2⟩ := tabR_look (z := z) t
  unfold PySem.W.nsIn
  rw [l]
  dsimp only
  cases hf : es.toList.find? (·.key.isStr z) with
  | none =>
    rw [hf] at h2
    dsimp only
    rw [h1]
    refine ⟨none, rfl, ?_⟩
    cases hl : tab.lookup z with
    | none => trivial
    | some => rw [hl] at h2; exact h2.elim
  | some e =>
    rw [hf] at h2
    refine ⟨some e.val, rfl, ?_⟩
    cases hl : tab.lookup z with
    | none => rw [hl] at h2; exact h2.elim
    | some x => rw [hl] at h2; exact h2
end T2
namespace T2
open PySem L2
/-! ### the law -/
def spLaw (K : PySem.W.Frag) : Sp := fun vs H Q _ => ∃ (a : Addr) (ns : List Int), vs = [.ref a] ∧ ns.length ≤ 63 ∧ SqL K H a (ns.map V.int) ∧ ∀ H', Q (.bl true) H'
theorem reps_ints {g : Wd} {F : List Addr} {H : Hp} : ∀ ns : List Int, Reps g F H (ns.map D.int) (ns.map V.int)
  | [] => .nil
  | n :: ns => .cons (.int n) (reps_ints ns)
theorem sp_of_true {K : PySem.W.Frag} {ad : Nat → Addr} {m : List D → MH → Res D} (h : ∀ ns : List Int, ns.length ≤ 63 → ∃ M', m [.fro (ns.map D.int)] [] = .ok (.bl true) M') {vs : List V} {H : Hp} {Q : VK} {E : XK} (hs : spLaw K vs H Q E) : spD ⟨K, ad⟩ 1 m vs H Q E := by
  obtain ⟨a, ns, rfl, hl, hS, hq⟩ := hs
  obtain ⟨M', hm⟩ := h ns hl
  refine ⟨rfl, [], [], [.fro (ns.map D.int)], ⟨rfl, List.nodup_nil, fun n a o e => by simp at e⟩, .cons (.fro (vs := ns.map V.int) ?_ (reps_ints ns)) .nil, ?_⟩
  · rcases hS with (h1 | h1) | h1
    · exact .inl ⟨h1, by simp⟩
    · exact .inr (.inl h1)
    · exact .inr (.inr h1)
  · rw [hm]
    intro F' H' v gr R r
    cases r
    exact hq H'
theorem no_exc {P : Program} {w : World} {H : Hp} {s : Shared} {e : Value} {s' : Shared} (h : L2N.CX P w [] H s (fun _ _ _ => False) e s') : False := by
  obtain ⟨_, _, _, _, _, _, _, _, _, _, _, _, z⟩ := h
  exact z
end T2
namespace T2
open PySem L2

/-! ### running the shallow functions -/
theorem ev0 {d : D} {M : MH} {e : Env2} {n : Nat} (h : e[n]? = some (some d)) : eVar n e M = .ok d M := by unfold eVar; rw [h]
theorem ebin {f : D → D → MH → Res D} {a b : EM} {e : Env2} {M M1 M2 : MH} {x y : D} (h1 : a e M = .ok x M1) (h2 : b e M1 = .ok y M2) : eBin f a b e M = f x y M2 := by unfold eBin; rw [h1]; dsimp only [Res.bind]; rw [h2]
theorem set_get {A : Type} {M : List A} {b : Nat} {x y : A} (h : M[b]? = some x) : (M.set b y)[b]? = some y := List.getElem?_set_self (List.getElem?_eq_some_iff.mp h).1

/-! ### the law's box of draws -/
structure Bx where
  ns : List Int
  i : Int
  c : Int
  k : Int
  f : Int
def Bx.obj (s : Bx) : MO := .lst [.fro (s.ns.map D.int), .int s.i, .int s.c, .int s.k, .int s.f]
structure BxOk (s : Bx) : Prop where
  i0 : 0 ≤ s.i
/-- the box stands at b -/
def BoxAt (M : MH) (b : Nat) (s : Bx) : Prop := M[b]? = some s.obj ∧ BxOk s
abbrev drawB : SM :=
    sSeq (sIf (bVal (eBin dEq (eBin dIxA (eVar 0) (eC (.int 3))) (eC (.int 0))))
    (sSeq (sIf (bVal (eBin dGe (eBin dIxA (eVar 0) (eC (.int 1))) (eArgs dLen (eCons (eBin dIxA (eVar 0) (eC (.int 0))) (eNil)))))
    (sRet (eC (.int 0)))
    (sNil))
    (sSeq (sSetIx dSetIx (eVar 0) (eC (.int 2)) (eArgs dAbs (eCons (eArgs dInt (eCons (eBin dIxA (eBin dIxA (eVar 0) (eC (.int 0))) (eBin dIxA (eVar 0) (eC (.int 1)))) (eNil))) (eNil))))
    (sSeq (sSetIx dSetIx (eVar 0) (eC (.int 1)) (eBin dAdd (eBin dIxA (eVar 0) (eC (.int 1))) (eC (.int 1))))
    (sSeq (sSetIx dSetIx (eVar 0) (eC (.int 4)) (eArgs dInt (eCons (eBin dGe (eBin dIxA (eVar 0) (eC (.int 2))) (eBin dPow (eC (.int 10)) (eC (.int 18)))) (eNil))))
    (sSetIx dSetIx (eVar 0) (eC (.int 3)) (eBin dAdd (eC (.int 12)) (eBin dMul (eC (.int 48)) (eBin dIxA (eVar 0) (eC (.int 4)))))))))) 
    (sNil))
    (sSeq (sSetIx dSetIx (eVar 0) (eC (.int 3)) (eBin dSub (eBin dIxA (eVar 0) (eC (.int 3))) (eC (.int 1))))
    (sSeq (sIf (bVal (eBin dEq (eBin dIxA (eVar 0) (eC (.int 4))) (eC (.int 1))))
    (sSeq (sSet 2 (eBin dMod (eArgs dInt (eCons (eBin dIxA (eVar 0) (eC (.int 2))) (eNil))) (eVar 1)))
    (sSeq (sSetIx dSetIx (eVar 0) (eC (.int 2)) (eBin dDiv (eArgs dInt (eCons (eBin dIxA (eVar 0) (eC (.int 2))) (eNil))) (eVar 1)))
    (sSeq (sIf (bVal (eBin dEq (eBin dIxA (eVar 0) (eC (.int 2))) (eC (.int 0))))
    (sSetIx dSetIx (eVar 0) (eC (.int 3)) (eC (.int 0)))
    (sNil))
    (sRet (eVar 2)))))
    (sNil))
    (sSeq (sSet 3 (eBin dMod (eArgs dInt (eCons (eBin dAdd (eBin dAdd (eBin dMul (eArgs dInt (eCons (eBin dIxA (eVar 0) (eC (.int 2))) (eNil))) (eC (.int 48271))) (eBin dMul (eBin dIxA (eVar 0) (eC (.int 3))) (eC (.int 69621)))) (eC (.int 13))) (eNil))) (eC (.int 2147483647))))
    (sSeq (sSet 3 (eBin dMod (eArgs dInt (eCons (eBin dAdd (eBin dAdd (eBin dMul (eVar 3) (eC (.int 16807))) (eBin dMul (eBin dIxA (eVar 0) (eC (.int 3))) (eC (.int 40692)))) (eC (.int 7))) (eNil))) (eC (.int 2147483629))))
    (sRet (eBin dMod (eArgs dInt (eCons (eVar 3) (eNil))) (eVar 1)))))))
def drawM : List D → MH → Res D := fnB 4 drawB
/-- an item of a list that stands there -/
theorem ix_lst {M : MH} {b : Nat} {ds : List D} {i : Int} {d : D} (h : M[b]? = some (.lst ds)) (ha : atI ds i = some d) : dIxA (.ref b) (.int i) M = .ok d M := by
  simp only [dIxA, dIx, items, h, ha]
theorem ix_fro {M : MH} {ds : List D} {i : Int} {d : D} (ha : atI ds i = some d) : dIxA (.fro ds) (.int i) M = .ok d M := by
  unfold dIxA dIx items
  dsimp only
  rw [ha]
theorem ix_tup {M : MH} {ds : List D} {i : Int} {d : D} (ha : atI ds i = some d) : dIxA (.tup ds) (.int i) M = .ok d M := by
  unfold dIxA dIx items
  dsimp only
  rw [ha]
theorem eq_int {i j : Int} {M : MH} : dEq (.int i) (.int j) M = .ok (.bl (i == j)) M := by
  unfold dEq
  simp [toP, toPa, SeqAt.shaped, PyData.canLay0, PyData.depth, PyData.eqv]
theorem eq_str {i j : Str} {M : MH} (h1 : PyData.strOk i = true) (h2 : PyData.strOk j = true) : dEq (.str i) (.str j) M = .ok (.bl (i == j)) M := by
  unfold dEq
  simp [toP, toPa, SeqAt.shaped, PyData.canLay0, PyData.depth, PyData.eqv, h1, h2]

theorem atI_0 {A : Type} {x : A} {l : List A} : atI (x :: l) 0 = some x := by unfold atI ixN; simp
theorem atI_1 {A : Type} {x y : A} {l : List A} : atI (x :: y :: l) 1 = some y := atI_nat (j := 1) rfl
theorem atI_2 {A : Type} {x y z : A} {l : List A} : atI (x :: y :: z :: l) 2 = some z := atI_nat (j := 2) rfl
theorem atI_3 {A : Type} {x y z u : A} {l : List A} : atI (x :: y :: z :: u :: l) 3 = some u := atI_nat (j := 3) rfl
theorem atI_4 {A : Type} {x y z u v : A} {l : List A} : atI (x :: y :: z :: u :: v :: l) 4 = some v := atI_nat (j := 4) rfl
theorem bx_self {M : MH} {b : Nat} {s : Bx} (h : M[b]? = some s.obj) : M.set b s.obj = M := by
  obtain ⟨hl, he⟩ := List.getElem?_eq_some_iff.mp h
  rw [← he]; exact List.set_getElem_self hl
section
variable {M : MH} {b : Nat} {s : Bx} {v : Int} (hb : b < M.length)
include hb
theorem bx_at : (M.set b s.obj)[b]? = some (.lst [.fro (s.ns.map D.int), .int s.i, .int s.c, .int s.k, .int s.f]) := List.getElem?_set_self hb
theorem bg0 : dIxA (.ref b) (.int 0) (M.set b s.obj) = .ok (.fro (s.ns.map D.int)) (M.set b s.obj) := ix_lst (bx_at hb) atI_0
theorem bg1 : dIxA (.ref b) (.int 1) (M.set b s.obj) = .ok (.int s.i) (M.set b s.obj) := ix_lst (bx_at hb) atI_1
theorem bg2 : dIxA (.ref b) (.int 2) (M.set b s.obj) = .ok (.int s.c) (M.set b s.obj) := ix_lst (bx_at hb) atI_2
theorem bg3 : dIxA (.ref b) (.int 3) (M.set b s.obj) = .ok (.int s.k) (M.set b s.obj) := ix_lst (bx_at hb) atI_3
theorem bg4 : dIxA (.ref b) (.int 4) (M.set b s.obj) = .ok (.int s.f) (M.set b s.obj) := ix_lst (bx_at hb) atI_4
theorem bs1 : dSetIx (.ref b) (.int 1) (.int v) (M.set b s.obj) = some (M.set b { s with i := v }.obj) := by unfold dSetIx; dsimp only; rw [bx_at hb]; show some ((M.set b _).set b _) = _; rw [List.set_set]; rfl
theorem bs2 : dSetIx (.ref b) (.int 2) (.int v) (M.set b s.obj) = some (M.set b { s with c := v }.obj) := by unfold dSetIx; dsimp only; rw [bx_at hb]; show some ((M.set b _).set b _) = _; rw [List.set_set]; rfl
theorem bs3 : dSetIx (.ref b) (.int 3) (.int v) (M.set b s.obj) = some (M.set b { s with k := v }.obj) := by unfold dSetIx; dsimp only; rw [bx_at hb]; show some ((M.set b _).set b _) = _; rw [List.set_set]; rfl
theorem bs4 : dSetIx (.ref b) (.int 4) (.int v) (M.set b s.obj) = some (M.set b { s with f := v }.obj) := by unfold dSetIx; dsimp only; rw [bx_at hb]; show some ((M.set b _).set b _) = _; rw [List.set_set]; rfl
end
theorem atI_of {A : Type} {l : List A} {i : Int} (h0 : 0 ≤ i) (h1 : i < l.length) : ∃ x, atI l i = some x ∧ x ∈ l := by
  unfold atI ixN
  rw [if_pos h0, if_pos h1]
  have hl : i.toNat < l.length := by omega
  exact ⟨l[i.toNat], by simp [hl], List.getElem_mem hl⟩
theorem len_fro {ds : List D} {M : MH} : dLen [.fro ds] M = .ok (.int ds.length) M := rfl
/-- the second half of a draw -/
abbrev drawB2 : SM := (sSeq (sSetIx dSetIx (eVar 0) (eC (.int 3)) (eBin dSub (eBin dIxA (eVar 0) (eC (.int 3))) (eC (.int 1))))
    (sSeq (sIf (bVal (eBin dEq (eBin dIxA (eVar 0) (eC (.int 4))) (eC (.int 1))))
    (sSeq (sSet 2 (eBin dMod (eArgs dInt (eCons (eBin dIxA (eVar 0) (eC (.int 2))) (eNil))) (eVar 1)))
    (sSeq (sSetIx dSetIx (eVar 0) (eC (.int 2)) (eBin dDiv (eArgs dInt (eCons (eBin dIxA (eVar 0) (eC (.int 2))) (eNil))) (eVar 1)))
    (sSeq (sIf (bVal (eBin dEq (eBin dIxA (eVar 0) (eC (.int 2))) (eC (.int 0))))
    (sSetIx dSetIx (eVar 0) (eC (.int 3)) (eC (.int 0)))
    (sNil))
    (sRet (eVar 2)))))
    (sNil))
    (sSeq (sSet 3 (eBin dMod (eArgs dInt (eCons (eBin dAdd (eBin dAdd (eBin dMul (eArgs dInt (eCons (eBin dIxA (eVar 0) (eC (.int 2))) (eNil))) (eC (.int 48271))) (eBin dMul (eBin dIxA (eVar 0) (eC (.int 3))) (eC (.int 69621)))) (eC (.int 13))) (eNil))) (eC (.int 2147483647))))
    (sSeq (sSet 3 (eBin dMod (eArgs dInt (eCons (eBin dAdd (eBin dAdd (eBin dMul (eVar 3) (eC (.int 16807))) (eBin dMul (eBin dIxA (eVar 0) (eC (.int 3))) (eC (.int 40692)))) (eC (.int 7))) (eNil))) (eC (.int 2147483629))))
    (sRet (eBin dMod (eArgs dInt (eCons (eVar 3) (eNil))) (eVar 1)))))))
theorem draw2 {M : MH} {b : Nat} {s : Bx} {n : Int} (hb : b < M.length) (hi : BxOk s) (h1 : 0 < n) (h2 : n < 1073741824) : ∃ r s', toR (drawB2 [some (.ref b), some (.int n), none, none] (M.set b s.obj)) = .ok (.int r) (M.set b s'.obj) ∧ 0 ≤ r ∧ r < n ∧ BxOk s' := by
  have hm : ∀ x : Int, 0 ≤ x % n ∧ x % n < n := fun x => ⟨Int.emod_nonneg _ (by omega), Int.emod_lt_of_pos _ h1⟩
  simp only [drawB2, sSeq, sSetIx, sIf, sSet, sRet, sNil, bVal, eBin, eVar, eC, eArgs, eCons, eNil, Res.bind, Res.toS, Res.toSB, asB, dSub, bg3 hb, bs3 hb, bg4 hb, List.getElem?_cons_zero, List.getElem?_cons_succ, eq_int]
  by_cases hf : s.f = 1
  · simp only [hf, beq_self_eq_true, if_true, bg2 hb, dInt, dMod, h1, if_true, List.set_cons_succ, List.set_cons_zero, List.getElem?_cons_zero, List.getElem?_cons_succ, dDiv, h2, and_self, bs2 hb, eq_int]
    by_cases hz : s.c / n = 0
    · simp only [hz, beq_self_eq_true, if_true, bs3 hb, toR]
      exact ⟨_, _, rfl, (hm _).1, (hm _).2, ⟨hi.i0⟩⟩
    · simp only [show (s.c / n == 0) = false by simp [hz], Bool.false_eq_true, if_false, toR]
      exact ⟨_, _, rfl, (hm _).1, (hm _).2, ⟨hi.i0⟩⟩
  · simp only [show (s.f == 1) = false by simp [hf], Bool.false_eq_true, if_false, bg2 hb, bg3 hb, dInt, dMul, dAdd, dMod, h1, if_true, List.set_cons_succ, List.set_cons_zero, List.getElem?_cons_zero, List.getElem?_cons_succ, show (-(2 ^ 64) < (48271 : Int) ∧ (48271 : Int) < 2 ^ 64) by decide, show (-(2 ^ 64) < (69621 : Int) ∧ (69621 : Int) < 2 ^ 64) by decide, show (-(2 ^ 64) < (16807 : Int) ∧ (16807 : Int) < 2 ^ 64) by decide, show (-(2 ^ 64) < (40692 : Int) ∧ (40692 : Int) < 2 ^ 64) by decide, and_self, or_true, show (0 : Int) < 2147483647 by decide, show (0 : Int) < 2147483629 by decide, toR]
    exact ⟨_, _, rfl, (hm _).1, (hm _).2, ⟨hi.i0⟩⟩
/-- a draw: a number below the size, and the box goes on -/
theorem draw_spec {M : MH} {b : Nat} {s : Bx} {n : Int} (h : BoxAt M b s) (h1 : 0 < n) (h2 : n < 1073741824) : ∃ r s', drawM [.ref b, .int n] M = .ok (.int r) (M.set b s'.obj) ∧ 0 ≤ r ∧ r < n ∧ BxOk s' := by
  obtain ⟨hM, hi⟩ := h
  have hb : b < M.length := (List.getElem?_eq_some_iff.mp hM).1
  have e0 := bx_self hM
  rw [← e0]
  show ∃ (r : Int) (s' : Bx), toR (sSeq _ drawB2 [some (.ref b), some (.int n), none, none] (M.set b s.obj)) = .ok (.int r) ((M.set b s.obj).set b s'.obj) ∧ _
  simp only [List.set_set]
  have fin : ∀ s1 : Bx, BxOk s1 → ∀ X : SR, X = .nx [some (.ref b), some (.int n), none, none] (M.set b s1.obj) → ∃ r s', toR (match X with | .nx e1 M1 => drawB2 e1 M1 | r => r) = .ok (.int r) (M.set b s'.obj) ∧ 0 ≤ r ∧ r < n ∧ BxOk s' := by
    intro s1 h X hX
    rw [hX]
    exact draw2 hb h h1 h2
  by_cases hk : s.k = 0
  · by_cases hl : (s.ns.length : Int) ≤ s.i
    · refine ⟨0, s, ?_, by omega, by omega, hi⟩
      simp only [sSeq, sSetIx, sIf, sSet, sRet, sNil, bVal, eBin, eVar, eC, eArgs, eCons, eNil, Res.bind, Res.toS, Res.toSB, asB, bg3 hb, bg1 hb, bg0 hb, List.getElem?_cons_zero, eq_int, hk, beq_self_eq_true, if_true, len_fro, dGe, dCmpI, List.length_map, decide_eq_true hl, toR]
    · obtain ⟨x, hx, hxm⟩ := atI_of (l := s.ns.map D.int) hi.i0 (by rw [List.length_map]; omega)
      obtain ⟨y, _, rfl⟩ := List.mem_map.mp hxm
      refine fin ⟨s.ns, s.i + 1, if y < 0 then -y else y, 12 + 48 * (if (10 : Int) ^ 18 ≤ (if y < 0 then -y else y) then 1 else 0), if (10 : Int) ^ 18 ≤ (if y < 0 then -y else y) then 1 else 0⟩ ⟨by have := hi.i0; show 0 ≤ s.i + 1; omega⟩ _ ?_
      simp only [sSeq, sSetIx, sIf, sSet, sRet, sNil, bVal, eBin, eVar, eC, eArgs, eCons, eNil, Res.bind, Res.toS, Res.toSB, asB, bg3 hb, bg1 hb, bg0 hb, List.getElem?_cons_zero, eq_int, hk, beq_self_eq_true, if_true, len_fro, dGe, dCmpI, List.length_map, decide_eq_false hl, Bool.false_eq_true, if_false, ix_fro hx, dInt, dAbs, bs2 hb, dAdd, bs1 hb, bg2 hb, dPow, show (0 : Int) ≤ 18 ∧ (18 : Int) ≤ 1000000 ∧ (10 : Int).natAbs < 2 ^ 64 by decide, show (18 : Int).toNat = 18 by rfl, bs4 hb, bg4 hb, dMul, show (-(2 ^ 64) < (48 : Int) ∧ (48 : Int) < 2 ^ 64) by decide, and_self, true_or, bs3 hb]
      simp only [decide_eq_true_eq]
  · refine fin s hi _ ?_
    simp only [sIf, sNil, bVal, eBin, eVar, eC, Res.bind, Res.toSB, asB, bg3 hb, List.getElem?_cons_zero, eq_int, show (s.k == 0) = false by simp [hk], Bool.false_eq_true, if_false]
end T2
namespace T2
open PySem L2 PyProof.Rows

/-! ### operators of an own class -/
def tOwn2 (C : Addr) (sp : Sp) (E : L2.St → XK) (ta tb : TE) : TE := fun σ H Q => ta σ H fun x H1 => tb σ H1 fun y H2 => ∃ a b dx dy fs gs, x = .ref a ∧ y = .ref b ∧ H2 a = some (.ins C dx fs) ∧ H2 b = some (.ins C dy gs) ∧ sp [x, y] H2 Q (E σ)
def tOwn1 (C : Addr) (sp : Sp) (E : L2.St → XK) (ta : TE) : TE := fun σ H Q => ta σ H fun x H1 => ∃ a dx fs, x = .ref a ∧ H1 a = some (.ins C dx fs) ∧ sp [x] H1 Q (E σ)
section
variable {X : Cx} {CX : CXT} {k : Nat} {f C : Addr} {fd : FuncData} {ps : List Str} {sp : Sp} {E : L2.St → XK} {x m : Str} {p pos apos : Pos} {a b e o : Expr} {es : List Expr} {ta tb : TE} {t : TA}
theorem not_ni {pins : List (Addr × Obj)} {σ : L2.St} {Q : VK} {v : Value} {s : Shared} (h : EP X pins σ Q v s) : PySem.W.CmpBack (EP X pins σ Q) v s := by
  obtain ⟨y, H', I', ry, qy⟩ := h
  cases v <;> first | exact ⟨y, H', I', ry, qy⟩ | (cases y <;> first | exact ry.elim | (obtain ⟨_, hz⟩ := ry; cases hz) | cases ry)
theorem pe_own2S {op : Operator} (ha : PE X a ta) (hb' : PE X b tb) (hc : PySem.W.selfFirst X.K C = true) (hs : PySem.W.findIn X.K (.ref C) (PySem.dunder op.info.2) = some (some (.ref f))) (hf : PySem.W.isFn X.K (.ref f) = true)
    (G : FnOk X.prog X.w X.K X.mg X.base CX k f fd ps sp) (hr : Room k X.A) (hb : Binds X.K fd ps []) (hx : ∀ σ, PassesAt CX X σ (E σ)) : PE X (.BinOp a op b pos) (tOwn2 C sp E ta tb) := by
  refine ⟨fun pins s σ H Q I h => wpAny_BinOp (binT ha hb' I h fun v u s2 x y H2 I2 rx ry q => ?_)⟩
  obtain ⟨p, r, dx, dy, fs, gs, rfl, rfl, e1, e2, q⟩ := q
  obtain rfl : v = Value.ref p := rx
  obtain rfl : u = Value.ref r := ry
  obtain ⟨mA, J, _⟩ := ins_get I2.hok e1
  obtain ⟨mB, J', _⟩ := ins_get I2.hok e2
  obtain ⟨od, J, _⟩ := J.look
  obtain ⟨od', J', _⟩ := J'.look
  obtain ⟨m, hF⟩ := I2.fr
  exact PySem.W.binop_K hF I2.ok.mod.kin J J'.type hc hs hf (wpAny_mono (run_fnSD (dvs := []) (ds := []) (us := [.ref p, .ref r]) (vs := [.ref p, .ref r]) G hr hb .nil (hx σ) I2 (.cons rfl (.cons rfl .nil)) (by simpa using q)) (fun v s' z => not_ni z) fun _ _ e => e)
theorem pc_ownS {op : CmpOp} (ho : ∀ v u, compareOp op v u = richCompare op v u) (ha : PE X a ta) (hb' : PE X b tb) (hs : PySem.W.findIn X.K (.ref C) (cmpInfo op).2.1 = some (some (.ref f))) (hf : PySem.W.isFn X.K (.ref f) = true)
    (G : FnOk X.prog X.w X.K X.mg X.base CX k f fd ps sp) (hr : Room k X.A) (hb : Binds X.K fd ps []) (hx : ∀ σ, PassesAt CX X σ (E σ)) : PC X op a b (tOwn2 C sp E ta tb) := by
  refine ⟨fun pins s σ H Q I h => binT ha hb' I h fun v u s2 x y H2 I2 rx ry q => ?_⟩
  obtain ⟨p, r, dx, dy, fs, gs, rfl, rfl, e1, e2, q⟩ := q
  obtain rfl : v = Value.ref p := rx
  obtain rfl : u = Value.ref r := ry
  obtain ⟨mA, J, _⟩ := ins_get I2.hok e1
  obtain ⟨mB, J', _⟩ := ins_get I2.hok e2
  obtain ⟨od, J, _⟩ := J.look
  obtain ⟨od', J', _⟩ := J'.look
  obtain ⟨m, hF⟩ := I2.fr
  rw [ho]
  exact PySem.W.cmp_K (tb := .ref C) hr.units0 hF I2.ok.mod.kin J J'.type (by simp [PySem.W.notFirst]) hs hf (wpAny_mono (run_fnSD (dvs := []) (ds := []) (us := [.ref p, .ref r]) (vs := [.ref p, .ref r]) G hr hb .nil (hx σ) I2 (.cons rfl (.cons rfl .nil)) (by simpa using q)) (fun v s' z => not_ni z) fun _ _ e => e)
theorem pe_invS (ha : PE X a ta) (hs : PySem.W.findIn X.K (.ref C) "__invert__" = some (some (.ref f))) (hf : PySem.W.isFn X.K (.ref f) = true)
    (G : FnOk X.prog X.w X.K X.mg X.base CX k f fd ps sp) (hr : Room k X.A) (hb : Binds X.K fd ps []) (hx : ∀ σ, PassesAt CX X σ (E σ)) : PE X (.UnaryOp .Invert a pos) (tOwn1 C sp E ta) := by
  refine ⟨fun pins s σ H Q I h => UnaryOp_ (thn (ha.run pins s σ H _ I h) fun v s1 ⟨x, H1, I1, r1, q⟩ => ?_)⟩
  obtain ⟨p, dx, fs, rfl, e1, q⟩ := q
  obtain rfl : v = Value.ref p := r1
  obtain ⟨mA, J, _⟩ := ins_get I1.hok e1
  obtain ⟨od, J, _⟩ := J.look
  obtain ⟨m, hF⟩ := I1.fr
  exact PySem.W.ksp_inv hF I1.ok.mod.kin J hs hf (run_fnSD (dvs := []) (ds := []) (us := [.ref p]) (vs := [.ref p]) G hr hb .nil (hx σ) I1 (.cons rfl .nil) (by simpa using q))
/-- C.m(..), m a staticmethod -/
structure SMet (K : PySem.W.Frag) (C : Addr) (m : Str) (q f : Addr) : Prop where
  tp : PySem.W.typeIn K (.ref C) = some (.type "type")
  rd : PySem.W.readsIn K C (.type "type") = true
  ga : PySem.W.specialIn K (.ref C) "__getattribute__" = some (some (.builtin "type.__getattribute__"))
  at_ : PySem.W.findCls K (.ref C) (.type "type") m = some (.get (.builtin "staticmethod.__get__") (.ref q) .none (.ref C))
  rc : ∃ rest, PySem.W.recIn K q "staticmethod" = some (.ref f :: rest)
  kp : PySem.W.keepIn K (.ref f) = true
def tSMetS (C : Addr) (sp : Sp) (E : L2.St → XK) (ta : TE) (t : TA) : TE := fun σ H Q => ta σ H fun x H1 => x = .ref C ∧ t σ H1 fun vs H2 => sp vs H2 Q (E σ)
theorem pe_smS {pl : Sem Bool} {q : Addr} (he : PE X o ta) (c : SMet X.K C m q f) (G : FnOk X.prog X.w X.K X.mg X.base CX k f fd ps sp) (hr : Room k X.A) (hb : Binds X.K fd ps []) (hx : ∀ σ, PassesAt CX X σ (E σ)) (ha : PA X (e :: es) t)
    (hst : starEach (e :: es) X.env = (false, eval e X.env) :: starEach es X.env) (hpl : (backTo pos (starEach es X.env)).any (·.1) = false)
    (ht : eval (.Call (.Attribute o m apos) (e :: es) [] pos) X.env = (do let ov ← eval o X.env; standAt apos.atName; let (f, first) ← holding [ov] (getMethod ov m pl); callWith pos f first (backTo pos (starEach (e :: es) X.env)) (backToKw pos (keywordEach [] X.env)))) :
    PE X (.Call (.Attribute o m apos) (e :: es) [] pos) (tSMetS C sp E ta t) := by
  refine ⟨fun pins s σ H Q I h => PySem.W.methodCall_KW (pl := pl) (thn (he.run pins s σ H _ I h) ?_) ht⟩
  rintro u s1 ⟨y, H1, I1, rx, rfl, q⟩
  obtain rfl : u = Value.ref C := rx
  obtain ⟨rest, hrec⟩ := c.rc
  obtain ⟨mm, hF⟩ := I1.fr
  refine PySem.W.method_of_cls hF I1.ok.mod.kin c.ga (PySem.W.cls_sm hF I1.ok.mod.kin c.tp c.rd c.at_ hrec rfl ?_)
  have I2 := I1.tok (s1.toks + 1)
  refine PySem.W.callWith_K (first := []) (h₀ := X.base) I.ok.mod.kin c.kp (thn (ha.run pos pins _ σ H1 _ I2 q) ?_) hst hpl
  rintro us s2 ⟨vs, H2, I3, r, q2⟩
  exact ⟨I3.kIn, run_fnSD (dvs := []) (ds := []) (us := us) (vs := vs) G hr hb .nil (hx σ) I3 r (by simpa using q2)⟩
end

/-! ### .. over trees -/
def both (M : MH) (c : Nat) (x y : D) : Bool := match instOf M x, instOf M y with
  | some (c1, _, _), some (c2, _, _) => decide (c1 = c ∧ c2 = c)
  | _, _ => false
def eOwn2 (c : Nat) (f : List D → MH → Res D) (a b : EM) : EM := fun e M => (a e M).bind fun x M1 => (b e M1).bind fun y M2 => if both M2 c x y = true then f [x, y] M2 else .bad
def eOwn1 (c : Nat) (f : List D → MH → Res D) (a : EM) : EM := fun e M => (a e M).bind fun x M1 => match instOf M1 x with
  | some (c1, _, _) => if c1 = c then f [x] M1 else .bad
  | none => .bad
/-- an outcome that is no exception -/
def okR (r : Res D) : Res D := match r with
  | .ok d M => .ok d M
  | _ => .bad
/-- o.f, f a property -/
def eProp (c : Nat) (f : List D → MH → Res D) (a : EM) : EM := eOwn1 c (fun ds M => okR (f ds M)) a
/-- C.m(..), m a staticmethod -/
def eStat (c n : Nat) (f : List D → MH → Res D) (a : AM) : EM := eArgs (fun ds M => if ds.length = n then f ds M else .bad) a
section
variable {X : Cx} {g : Wd} {W : WY} {a b o : Expr} {pos p apos : Pos} {m1 m2 : EM} {ma : AM} {es : List Expr} {k n : Nat} {f C : Addr} {fd : FuncData} {ps : List Str} {m : List D → MH → Res D} {x mn : Str} {c : Nat}
theorem own2_imp {σ : L2.St} {H : Hp} {Q : VK} (q : tD g W (eOwn2 c m m1 m2) σ H Q) : tOwn2 (g.ca c) (spD g 2 m) (WE W.w) (tD g W m1) (tD g W m2) σ H Q := by
  obtain ⟨F, e, M, RS, q⟩ := q
  refine ⟨F, e, M, RS, q.bind fun x M1 F1 H1 v e1 g1 R1 rx q1 => ?_⟩
  refine ⟨F1, e, M1, RS.up g1 R1, q1.bind fun y M2 F2 H2 u e2 g2 R2 ry q2 => ?_⟩
  split at q2
  · rename_i hb
    have rx2 := rx.mono g2 R1.good
    unfold both at hb
    split at hb
    · rename_i c1 ns1 ds1 c2 ns2 ds2 h1 h2
      obtain ⟨rfl, rfl⟩ := of_decide_eq_true hb
      obtain ⟨a, dx, vs, rfl, ha, hl, r⟩ := inst_at R2 rx2 h1
      obtain ⟨b, dy, us, rfl, hb', hl', r'⟩ := inst_at R2 ry h2
      exact ⟨a, b, dx, dy, _, _, rfl, rfl, ha, hb', rfl, F2, M2, [x, y], R2, .cons rx2 (.cons ry .nil), post_call q2⟩
    · cases hb
  · exact q2.elim
theorem own1_imp {σ : L2.St} {H : Hp} {Q : VK} (q : tD g W (eOwn1 c m m1) σ H Q) : tOwn1 (g.ca c) (spD g 1 m) (WE W.w) (tD g W m1) σ H Q := by
  obtain ⟨F, e, M, RS, q⟩ := q
  refine ⟨F, e, M, RS, q.bind fun x M1 F1 H1 v e1 g1 R1 rx q1 => ?_⟩
  split at q1
  · rename_i c1 ns1 ds1 h1
    split at q1
    · rename_i hc
      subst hc
      obtain ⟨a, dx, vs, rfl, ha, hl, r⟩ := inst_at R1 rx h1
      exact ⟨a, dx, _, rfl, ha, rfl, F1, M1, [x], R1, .cons rx .nil, post_call q1⟩
    · exact q1.elim
  · exact q1.elim
theorem de_own2 {op : Operator} (ha : PE X a (tD g W m1)) (hb' : PE X b (tD g W m2)) (hc : PySem.W.selfFirst X.K (g.ca c) = true) (hs : PySem.W.findIn X.K (.ref (g.ca c)) (PySem.dunder op.info.2) = some (some (.ref f))) (hf : PySem.W.isFn X.K (.ref f) = true)
    (G : FnOk X.prog X.w X.K X.mg X.base (L2N.CX X.prog X.w) k f fd ps (spD g 2 m)) (hr : Room k X.A) (tk : L2N.Takes X W.w) (hb : Binds X.K fd ps []) : PE X (.BinOp a op b pos) (tD g W (eOwn2 c m m1 m2)) :=
  pe_imp (pe_own2S ha hb' hc hs hf G hr hb (fun σ => L2N.passAt tk σ)) fun σ H Q q => own2_imp q
theorem de_inv (ha : PE X a (tD g W m1)) (hs : PySem.W.findIn X.K (.ref (g.ca c)) "__invert__" = some (some (.ref f))) (hf : PySem.W.isFn X.K (.ref f) = true)
    (G : FnOk X.prog X.w X.K X.mg X.base (L2N.CX X.prog X.w) k f fd ps (spD g 1 m)) (hr : Room k X.A) (tk : L2N.Takes X W.w) (hb : Binds X.K fd ps []) : PE X (.UnaryOp .Invert a pos) (tD g W (eOwn1 c m m1)) :=
  pe_imp (pe_invS ha hs hf G hr hb (fun σ => L2N.passAt tk σ)) fun σ H Q q => own1_imp q
theorem de_ownEq (ha : PE X a (tD g W m1)) (hb' : PE X b (tD g W m2)) (hs : PySem.W.findIn X.K (.ref (g.ca c)) "__eq__" = some (some (.ref f))) (hf : PySem.W.isFn X.K (.ref f) = true)
    (G : FnOk X.prog X.w X.K X.mg X.base (L2N.CX X.prog X.w) k f fd ps (spD g 2 m)) (hr : Room k X.A) (tk : L2N.Takes X W.w) (hb : Binds X.K fd ps []) : PE X (.Compare a [.Eq] [b] pos) (tD g W (eOwn2 c m m1 m2)) :=
  pe_imp (pe_cmp (pc_ownS (fun _ _ => rfl) ha hb' hs hf G hr hb (fun σ => L2N.passAt tk σ))) fun σ H Q q => own2_imp q
theorem de_ownLt (ha : PE X a (tD g W m1)) (hb' : PE X b (tD g W m2)) (hs : PySem.W.findIn X.K (.ref (g.ca c)) "__lt__" = some (some (.ref f))) (hf : PySem.W.isFn X.K (.ref f) = true)
    (G : FnOk X.prog X.w X.K X.mg X.base (L2N.CX X.prog X.w) k f fd ps (spD g 2 m)) (hr : Room k X.A) (tk : L2N.Takes X W.w) (hb : Binds X.K fd ps []) : PE X (.Compare a [.Lt] [b] pos) (tD g W (eOwn2 c m m1 m2)) :=
  pe_imp (pe_cmp (pc_ownS (fun _ _ => rfl) ha hb' hs hf G hr hb (fun σ => L2N.passAt tk σ))) fun σ H Q q => own2_imp q
theorem de_ownLe (ha : PE X a (tD g W m1)) (hb' : PE X b (tD g W m2)) (hs : PySem.W.findIn X.K (.ref (g.ca c)) "__le__" = some (some (.ref f))) (hf : PySem.W.isFn X.K (.ref f) = true)
    (G : FnOk X.prog X.w X.K X.mg X.base (L2N.CX X.prog X.w) k f fd ps (spD g 2 m)) (hr : Room k X.A) (tk : L2N.Takes X W.w) (hb : Binds X.K fd ps []) : PE X (.Compare a [.LtE] [b] pos) (tD g W (eOwn2 c m m1 m2)) :=
  pe_imp (pe_cmp (pc_ownS (fun _ _ => rfl) ha hb' hs hf G hr hb (fun σ => L2N.passAt tk σ))) fun σ H Q q => own2_imp q
theorem de_sm {pl : Sem Bool} {q : Addr} (cs : SMet X.K (g.ca c) mn q f) (gC : X.mg x = some (.ref (g.ca c))) (G : FnOk X.prog X.w X.K X.mg X.base (L2N.CX X.prog X.w) k f fd ps (spD g n m)) (hr : Room k X.A) (tk : L2N.Takes X W.w) (hb : Binds X.K fd ps []) (ha : PA X (a :: es) (tA g W ma)) (hgx : Gl X x := by rfl) (hdx : (x == ("__debug__" : Str)) = false := by decide)
    (hst : starEach (a :: es) X.env = (false, eval a X.env) :: starEach es X.env := by rfl) (hpl : (backTo pos (starEach es X.env)).any (·.1) = false := by rfl)
    (ht : eval (.Call (.Attribute (.Name x p) mn apos) (a :: es) [] pos) X.env = (do let ov ← eval (.Name x p) X.env; standAt apos.atName; let (f, first) ← holding [ov] (getMethod ov mn pl); callWith pos f first (backTo pos (starEach (a :: es) X.env)) (backToKw pos (keywordEach [] X.env))) := by rfl) :
    PE X (.Call (.Attribute (.Name x p) mn apos) (a :: es) [] pos) (tD g W (eStat c n m ma)) :=
  pe_imp (pe_smS (pe_glob (v := .ref (g.ca c)) hgx gC rfl hdx) cs G hr hb (fun σ => L2N.passAt tk σ) ha hst hpl ht) fun σ H Q ⟨F, e, M, RS, q⟩ => ⟨rfl, F, e, M, RS, q.bind fun ds M1 F1 H1 vs e1 g1 R1 rs q1 => by
    split at q1
    · rename_i hl
      exact ⟨by rw [← rs.length]; exact hl, F1, M1, ds, R1, rs, post_call q1⟩
    · exact q1.elim⟩
theorem nopass {CX : CXT} {X : Cx} (h : ∀ outer H s u s', ¬ CX outer H s (fun _ _ _ => False) u s') : Passes CX X (fun _ _ _ => False) := fun pins σ H s e s' I c => (h _ _ _ _ _ c).elim
theorem cx_no {P : Program} {w : World} {outer : List Env} {H : Hp} {s : Shared} {u : Value} {s' : Shared} : ¬ L2N.CX P w outer H s (fun _ _ _ => False) u s' := fun ⟨_, _, _, _, _, _, _, _, _, _, _, _, h⟩ => h
theorem de_prop {fn : Str} {q : Addr} (ha : PE X a (tD g W m1)) (cl : Cls X.K (g.ca c)) (hp : PropOf X.K (g.ca c) fn q f) (G : FnOk X.prog X.w X.K X.mg X.base (L2N.CX X.prog X.w) k f fd ps (spD g 1 m)) (hr : Room (k + 1) X.A) (hb : Binds X.K fd ps [])
    (hab : attributeBase a fn X.env (eval a X.env) = eval a X.env := by rfl) : PE X (.Attribute a fn pos) (tD g W (eProp c m m1)) :=
  pe_imp (pe_prop (dvs := []) (E := fun _ _ _ => False) ha cl hp G hr hb .nil (nopass fun _ _ _ _ _ => cx_no) hab) fun σ H Q ⟨F, e, M, RS, q⟩ => ⟨F, e, M, RS, q.bind fun x M1 F1 H1 v e1 g1 R1 rx q1 => by
    split at q1
    · rename_i c1 ns1 ds1 h1
      split at q1
      · rename_i hc
        subst hc
        obtain ⟨a, dx, vs, rfl, ha, hl, r⟩ := inst_at R1 rx h1
        refine ⟨a, dx, _, rfl, ha, rfl, F1, M1, [x], R1, .cons rx .nil, ?_⟩
        dsimp only at q1
        cases hm : m [x] M1 with
        | ok d M2 => rw [hm] at q1; exact q1
        | exc _ _ _ _ => rw [hm] at q1; exact q1.elim
        | bad => rw [hm] at q1; exact q1.elim
      · exact q1.elim
    · exact q1.elim⟩
/-- what is not reached -/
def eBad : EM := fun _ _ => .bad
theorem de_bad {e : Expr} : PE X e (tD g W eBad) := ⟨fun pins s σ H Q I ⟨F, e, M, RS, q⟩ => q.elim⟩
/-- C.f, a number of the class -/
theorem de_cnum {fn : Str} {i : Int} {u : Value} {mc : Value} (gC : X.mg x = some (.ref (g.ca c))) (r : ClX.CRead X.K (g.ca c) mc) (cv : ClX.CVal X.K (g.ca c) mc fn (.int i) u) (hgx : Gl X x := by rfl) (hdx : (x == ("__debug__" : Str)) = false := by decide)
    (hab : attributeBase (.Name x p) fn X.env (eval (.Name x p) X.env) = eval (.Name x p) X.env := by rfl) : PE X (.Attribute (.Name x p) fn pos) (tD g W (eC (.int i))) :=
  pe_imp (ClX.pe_cval (pe_glob (v := .ref (g.ca c)) hgx gC rfl hdx) hab) fun σ H Q ⟨F, e, M, RS, q⟩ => ⟨_, mc, _, u, rfl, r, cv, q.here RS.m (.int i)⟩
end

/-! ### != where the class has == alone; bool(x) by an own __bool__ -/
section
variable {prog : Program} {w : World} {A : Around} {E : Value → Shared → Prop} {s : Shared} {K : PySem.W.Frag} {x C L f y : Addr} {h₀ : Heap} {m : Str → Option Value} {ox : Obj} {od : Option Obj} {name : Str} {b tb : Value}
open PySem.W in
theorem ifBound_B {M : Model} {args : List Value} {id : String} {Q : Option Value → Shared → Prop} (S : Slot "object" name id) (X : K.In s.heap) (I : InstAt s.heap x ox C od) (hs : findIn K (.ref C) name = some (some (.builtin id)))
    (h : wpAny M A (call (.builtin id) (.ref x :: args)) (fun v => Q (some v)) E s) : wpAny M A (callSpecialIfBound? (.ref x) name args) Q E s := by
  simp only [callSpecialIfBound?, bindSpecialIfBound?]
  refine wpAny_holding (wpAny_bind (wpAny_bind (wpAny_bind (I.type.here ((looks_findIn X hs).here ?_)))))
  refine wpAny_bind (wpAny_askSetting (wpAny_ite ?_))
  have fin : wpAny M A (call (.builtin id) ([.ref x] ++ args) >>= fun v => pure (some v)) Q E s := wpAny_bind (wpAny_mono h (fun v s' h' => wpAny_pure h') fun _ _ h' => h')
  split
  · exact wpAny_bind (wpAny_of_eq (S.bind _) (wpAny_pure (by exact fin)))
  · exact wpAny_tryCatch (wpAny_bind (wpAny_of_eq (S.bind _) (wpAny_pure (by exact fin))))
open PySem.W in
/-- x != y, both of the class: by its == -/
theorem ne_own {Q : Value → Shared → Prop} (hu : A.units + 1 < cLine) (F : Fr h₀ L s.heap m) (X₀ : K.In h₀) (I : InstAt s.heap x ox C od) (hb : Looks (model prog w) s.heap (typeOf b) (.ref C))
    (hn : findIn K (.ref C) "__ne__" = some (some (.builtin "object.__ne__"))) (hm : mroIn K C (.type "object") = some true) (hs : findIn K (.ref C) "__eq__" = some (some (.ref f))) (hf : isFn K (.ref f) = true)
    (h : wpAny (model prog w) A.in1 (call (.ref f) [.ref x, b]) (fun v s' => ∃ k, v = .bool k ∧ Q (.bool (!k)) s') E s) : wpAny (model prog w) A (richCompare .NotEq (.ref x) b) Q E s := by
  have X := X₀.keeps F.keep
  have hi : Looks (model prog w) s.heap (isInstance (.ref x) (.type "object")) true := I.type.andThen (looks_mroIn X hm)
  have one : wpAny (model prog w) A (tryCompare (.ref x) "__ne__" b) (fun r s' => ∃ v, r = some v ∧ Q v s') E s := by
    unfold tryCompare
    refine wpAny_bind (ifBound_B PySem.F.cmp_object.ne X I hn (wpAny_call (codeAny_call_builtin PySem.F.cmp_object.ne.plain PySem.F.cmpEntry_ne (check_slot PySem.F.cmpKind_ne PySem.F.cmpSplit_ne hi (PySem.F.cmpArgs_ne _ _) ?_))))
    unfold Builtin.«object.__ne__»
    obtain ⟨hp, g, d, tk, os⟩ := s
    repeat (first
      | with_reducible refine wpAny_cRoomFor hu ?_
      | (refine wpAny_bind (m := callSpecialIfBound? (.ref x) (Str.ofString "__eq__") [b]) (ifBound_K X I hs hf (wpAny_mono h (fun r s' hr => by
          obtain ⟨k, rfl, hq⟩ := hr
          repeat (first | exact hq | exact wpAny_pure hq | exact wpAny_truthy_bool hq | (refine wpAny_bind (m := truthy (.bool _)) (wpAny_truthy_bool ?_)) | wp_step)
          all_goals exact ⟨_, rfl, hq⟩) fun _ _ e => e)))
      | wp_step)
  unfold richCompare
  simp only [oneThing_ref]
  refine wpAny_holding (wpAny_bind (wpAny_cRoomFor (Nat.lt_of_succ_lt hu) ?_))
  refine wpAny_bind (I.type.here (wpAny_bind (hb.here ?_)))
  rw [show (Value.ref C != Value.ref C) = false from by simp]
  simp only [Bool.false_eq_true, if_false]
  refine wpAny_bind (wpAny_pure ?_)
  simp only [Bool.false_eq_true, if_false]
  refine wpAny_bind (wpAny_mono one (fun r s' z => ?_) fun _ _ e => e)
  obtain ⟨v, rfl, hq⟩ := z
  exact wpAny_pure hq
theorem bool_own {Q : Value → Shared → Prop} (h : wpAny (model prog w) A.in1.in1 (truthy (.ref x)) (fun k s' => Q (.bool k) s') E s) : wpAny (model prog w) A (call (.type "bool") [.ref x]) Q E s := by
  refine ks_callType_codesW (Q₁ := fun obj s₁ => ∃ k, obj = .bool k ∧ Q (.bool k) s₁) F.called_bool (fun hq => by rw [F.typeCall_bool_1]; exact wpAny_pure hq) F.entry_object_init ?_ ?_
  · refine codeAny_call_builtin F.called_bool.plain F.entry_bool_new (wpAny_of_eq (F.newCall_bool_1 _) ?_)
    have f1 := F.conv_sub_bool
    unfold Builtin.«bool.__new__»
    obtain ⟨hp, g, d, tk, os⟩ := s
    repeat (any_goals (first | assumption | (with_reducible refine wpAny_bind (m := truthy (.ref x)) (wpAny_mono h (fun k s' hq => ?_) fun _ _ e => e)) | wp_step))
    all_goals exact ⟨_, rfl, hq⟩
  · rintro obj s₁ ⟨k, rfl, hq⟩
    have hT : s₁.TypeIs (.bool k) "bool" := rfl
    exact ⟨hT, F.args_object_init_2 _ _, object_init_meets F.called_bool.init.lookup F.called_bool.made F.newNe_bool prog w A.in1 _ s₁ ⟨hT, rfl, hq⟩⟩
end
end T2
namespace T2
open PySem L2 PyProof.Rows
/-! ### .. as readings -/
section
variable {X : Cx} {CX : CXT} {k : Nat} {f C : Addr} {fd : FuncData} {ps : List Str} {sp : Sp} {E : L2.St → XK} {x m : Str} {p pos apos : Pos} {a b e o : Expr} {es : List Expr} {ta tb : TE} {t : TA}
theorem run_at {A' : Around} {pins : List (Addr × Obj)} {σ : L2.St} {H : Hp} {s : Shared} {Q : VK} {us : List Value} {vs : List V} (F : FnOk X.prog X.w X.K X.mg X.base CX k f fd ps sp) (hr : Room k A') (e0 : Env0 X.prog X.w X.K X.mg X.base A' X.stack s H) (hb : Binds X.K fd ps []) (hx : PassesAt CX X σ (E σ))
    (I : Inv X pins σ H s) (r : Vals vs us) (h : sp vs H Q (E σ)) : wpAny (model X.prog X.w) A' (call (.ref f) us) (EP X pins σ Q) X.xe s := by
  have args := hb s us I.kIn (by simpa using r.length.symm.trans (F.len _ _ _ _ h))
  refine wpAny_call (codeAny_mono (F.run A' X.stack s H ⟨us, []⟩ us vs Q (E σ) hr e0 (by simpa using args) r h) fun res s' q => ?_)
  match res, q with
  | .error e, q => exact hx pins H s e s' I q
  | .ok (.ret u), q => exact I.after q
  | .ok .next, q | .ok .brk, q | .ok .cont, q => exact q.elim
def tOwnNe (C : Addr) (sp : Sp) (E : L2.St → XK) (ta tb : TE) : TE := fun σ H Q => ta σ H fun x H1 => tb σ H1 fun y H2 => ∃ a b dx dy fs gs, x = .ref a ∧ y = .ref b ∧ H2 a = some (.ins C dx fs) ∧ H2 b = some (.ins C dy gs) ∧ sp [x, y] H2 (fun v H3 => ∃ k, v = .bl k ∧ Q (.bl (!k)) H3) (E σ)
theorem pe_ownNeS (ha : PE X a ta) (hb' : PE X b tb) (hn : PySem.W.findIn X.K (.ref C) "__ne__" = some (some (.builtin "object.__ne__"))) (hm : PySem.W.mroIn X.K C (.type "object") = some true) (hs : PySem.W.findIn X.K (.ref C) "__eq__" = some (some (.ref f))) (hf : PySem.W.isFn X.K (.ref f) = true)
    (G : FnOk X.prog X.w X.K X.mg X.base CX k f fd ps sp) (hr : Room (k + 1) X.A) (hu1 : X.A.units + 1 < cLine) (hb : Binds X.K fd ps []) (hx : ∀ σ, PassesAt CX X σ (E σ)) : PE X (.Compare a [.NotEq] [b] pos) (tOwnNe C sp E ta tb) := by
  refine pe_cmp ⟨fun pins s σ H Q I h => binT ha hb' I h fun v u s2 x y H2 I2 rx ry q => ?_⟩
  obtain ⟨p, r, dx, dy, fs, gs, rfl, rfl, e1, e2, q⟩ := q
  obtain rfl : v = Value.ref p := rx
  obtain rfl : u = Value.ref r := ry
  obtain ⟨mA, J, _⟩ := ins_get I2.hok e1
  obtain ⟨mB, J', _⟩ := ins_get I2.hok e2
  obtain ⟨od, J, _⟩ := J.look
  obtain ⟨od', J', _⟩ := J'.look
  obtain ⟨m, hF⟩ := I2.fr
  refine ne_own hu1 hF I2.ok.mod.kin J J'.type hn hm hs hf (wpAny_mono (run_at (vs := [.ref p, .ref r]) (us := [.ref p, .ref r]) G hr.in1 I2.env0.in1 hb (hx σ) I2 (.cons rfl (.cons rfl .nil)) q) (fun v s' z => ?_) fun _ _ e => e)
  obtain ⟨y, H', I', ry, k, rfl, qy⟩ := z
  cases ry
  exact ⟨k, rfl, .bl (!k), H', I', rfl, qy⟩
def tBoolO (C : Addr) (sp : Sp) (E : L2.St → XK) (t : TA) : TE := fun σ H Q => t σ H fun vs H1 => ∃ a dx fs, vs = [.ref a] ∧ H1 a = some (.ins C dx fs) ∧ sp [.ref a] H1 (fun v H2 => ∃ k, v = .bl k ∧ Q (.bl k) H2) (E σ)
theorem pe_boolOS (hs : PySem.W.findIn X.K (.ref C) "__bool__" = some (some (.ref f))) (hf : PySem.W.isFn X.K (.ref f) = true) (G : FnOk X.prog X.w X.K X.mg X.base CX k f fd ps sp) (hr : Room (k + 2) X.A) (hb : Binds X.K fd ps []) (hx : ∀ σ, PassesAt CX X σ (E σ))
    (hg : Gl X "bool") (hm : X.mg "bool" = none) (ha : PA X (e :: es) t) (he : starEach (e :: es) X.env = (false, eval e X.env) :: starEach es X.env) (hpl : (backTo pos (starEach es X.env)).any (·.1) = false) : PE X (.Call (.Name "bool" p) (e :: es) [] pos) (tBoolO C sp E t) := by
  refine ⟨fun pins s σ H Q I h => wpAny_Call_Name_kw (ld_blt I hg hm (show bootBuiltins "bool" = some (.type "bool") by decide +kernel) ?_ (by decide) (by decide))⟩
  refine PyProof.Rows.callWith_type1 (thn (ha.run pos pins s σ H _ I h) fun us s1 ⟨vs, H1, I1, r1, q⟩ => ?_) he hpl
  obtain ⟨p, dx, fs, rfl, e1, q⟩ := q
  obtain ⟨u, rfl, ru⟩ := vals1 r1
  obtain rfl : u = Value.ref p := ru
  obtain ⟨mA, J, _⟩ := ins_get I1.hok e1
  obtain ⟨od, J, _⟩ := J.look
  obtain ⟨m, hF⟩ := I1.fr
  refine bool_own (PySem.W.truthy_K hF I1.ok.mod.kin J hs hf (wpAny_mono (run_at (vs := [.ref p]) (us := [.ref p]) G hr.in1.in1 I1.env0.in1.in1 hb (hx σ) I1 (.cons rfl .nil) q) (fun v s' z => ?_) fun _ _ e => e))
  obtain ⟨y, H', I', ry, k, rfl, qy⟩ := z
  cases ry
  exact ⟨.bl k, H', I', rfl, qy⟩
end
/-- the outcome, a bool, turned -/
def notR (r : Res D) : Res D := match r with
  | .ok (.bl k) M => .ok (.bl (!k)) M
  | .ok _ _ => .bad
  | r => r
def blR (r : Res D) : Res D := match r with
  | .ok (.bl k) M => .ok (.bl k) M
  | .ok _ _ => .bad
  | r => r
section
variable {X : Cx} {g : Wd} {W : WY} {a b o : Expr} {pos p apos : Pos} {m1 m2 : EM} {ma : AM} {es : List Expr} {k n : Nat} {f C : Addr} {fd : FuncData} {ps : List Str} {m : List D → MH → Res D} {x mn : Str} {c : Nat}
theorem de_ownNe (ha : PE X a (tD g W m1)) (hb' : PE X b (tD g W m2)) (hn : PySem.W.findIn X.K (.ref (g.ca c)) "__ne__" = some (some (.builtin "object.__ne__"))) (hm : PySem.W.mroIn X.K (g.ca c) (.type "object") = some true) (hs : PySem.W.findIn X.K (.ref (g.ca c)) "__eq__" = some (some (.ref f))) (hf : PySem.W.isFn X.K (.ref f) = true)
    (G : FnOk X.prog X.w X.K X.mg X.base (L2N.CX X.prog X.w) k f fd ps (spD g 2 m)) (hr : Room (k + 1) X.A) (hu1 : X.A.units + 1 < cLine) (tk : L2N.Takes X W.w) (hb : Binds X.K fd ps []) : PE X (.Compare a [.NotEq] [b] pos) (tD g W (eOwn2 c (fun ds M => notR (m ds M)) m1 m2)) :=
  pe_imp (pe_ownNeS ha hb' hn hm hs hf G hr hu1 hb (fun σ => L2N.passAt tk σ)) fun σ H Q ⟨F, e, M, RS, q⟩ => by
    refine ⟨F, e, M, RS, q.bind fun x M1 F1 H1 v e1 g1 R1 rx q1 => ?_⟩
    refine ⟨F1, e, M1, RS.up g1 R1, q1.bind fun y M2 F2 H2 u e2 g2 R2 ry q2 => ?_⟩
    split at q2
    · rename_i hb
      have rx2 := rx.mono g2 R1.good
      unfold both at hb
      split at hb
      · rename_i c1 ns1 ds1 c2 ns2 ds2 h1 h2
        obtain ⟨rfl, rfl⟩ := of_decide_eq_true hb
        obtain ⟨a, dx, vs, rfl, ha, hl, r⟩ := inst_at R2 rx2 h1
        obtain ⟨b, dy, us, rfl, hb', hl', r'⟩ := inst_at R2 ry h2
        refine ⟨a, b, dx, dy, _, _, rfl, rfl, ha, hb', rfl, F2, M2, [x, y], R2, .cons rx2 (.cons ry .nil), ?_⟩
        dsimp only at q2
        cases hm : m [x, y] M2 with
        | ok d M3 =>
          rw [hm] at q2
          cases d with
          | bl k => exact fun F3 H3 v g3 R3 rv => by cases rv; exact ⟨k, rfl, q2 F3 H3 _ g3 R3 (.bl _)⟩
          | _ => exact q2.elim
        | exc _ _ _ _ => rw [hm] at q2; exact q2
        | bad => rw [hm] at q2; exact q2.elim
      · cases hb
    · exact q2.elim
/-- bool(x) -/
def eBoolO (c : Nat) (f : List D → MH → Res D) (ma : AM) : EM := eArgs (fun ds M => match ds with
  | [x] => (match instOf M x with
    | some (c1, _, _) => if c1 = c then blR (f [x] M) else .bad
    | none => .bad)
  | _ => .bad) ma
theorem de_boolO (hs : PySem.W.findIn X.K (.ref (g.ca c)) "__bool__" = some (some (.ref f))) (hf : PySem.W.isFn X.K (.ref f) = true) (G : FnOk X.prog X.w X.K X.mg X.base (L2N.CX X.prog X.w) k f fd ps (spD g 1 m)) (hr : Room (k + 2) X.A) (tk : L2N.Takes X W.w) (hb : Binds X.K fd ps [])
    (hm : X.mg "bool" = none) (ha : PA X (a :: es) (tA g W ma)) (hg : Gl X "bool" := by rfl) (he : starEach (a :: es) X.env = (false, eval a X.env) :: starEach es X.env := by rfl) (hpl : (backTo pos (starEach es X.env)).any (·.1) = false := by rfl) : PE X (.Call (.Name "bool" p) (a :: es) [] pos) (tD g W (eBoolO c m ma)) :=
  pe_imp (pe_boolOS hs hf G hr hb (fun σ => L2N.passAt tk σ) hg hm ha he hpl) fun σ H Q ⟨F, e, M, RS, q⟩ => ⟨F, e, M, RS, q.bind fun ds M1 F1 H1 vs e1 g1 R1 rs q1 => by
    split at q1
    · rename_i x
      cases rs with | cons rx rt =>
      cases rt
      split at q1
      · rename_i c1 ns1 ds1 h1
        split at q1
        · rename_i hc
          subst hc
          obtain ⟨a, dx, vs, rfl, ha, hl, r⟩ := inst_at R1 rx h1
          refine ⟨a, dx, _, rfl, ha, rfl, F1, M1, [x], R1, .cons rx .nil, ?_⟩
          cases hm : m [x] M1 with
          | ok d M3 =>
            rw [hm] at q1
            cases d with
            | bl k => exact fun F3 H3 v g3 R3 rv => by cases rv; exact ⟨k, rfl, q1 F3 H3 _ g3 R3 (.bl _)⟩
            | _ => exact q1.elim
          | exc _ _ _ _ => rw [hm] at q1; exact q1
          | bad => rw [hm] at q1; exact q1.elim
        · exact q1.elim
      · exact q1.elim
    · exact q1.elim⟩
end
end T2
namespace T2
open PySem L2 PyProof.Rows
/-! ### t.index(x), l.index(x): texts -/
def strsOf : List D → Option (List Str)
  | [] => some []
  | .str x :: ds => (strsOf ds).map (x :: ·)
  | _ => none
/-- t.index(x), t a tuple of the text -/
def eIdxK (ys : List Str) (b : EM) : EM := fun e M => (b e M).bind fun y M1 => match y with
  | .str z => if z ∈ ys then .ok (.int (ys.idxOf z : Nat)) M1 else .bad
  | _ => .bad
/-- l.index(x) -/
def eLidx (a b : EM) : EM := fun e M => (a e M).bind fun x M1 => match x with
  | .fro ds => (match strsOf ds with
    | some ys => (b e M1).bind fun y M2 => (match y with
      | .str z => if z ∈ ys then .ok (.int (ys.idxOf z : Nat)) M2 else .bad
      | _ => .bad)
    | none => .bad)
  | _ => .bad
theorem strs_rep {g : Wd} {F : List Addr} {H : Hp} : ∀ {ds : List D} {vs : List V} {ys : List Str}, Reps g F H ds vs → strsOf ds = some ys → vs = ys.map V.str
  | _, _, _, .nil, h => by cases h; rfl
  | d :: ds, _, _, .cons r t, h => by
    cases d with
    | str x =>
      unfold strsOf at h
      cases hs : strsOf ds with
      | none => rw [hs] at h; cases h
      | some zs =>
        rw [hs] at h
        cases h
        cases r
        rw [List.map_cons, strs_rep t hs]
    | _ => cases h
theorem idx_at {ys : List Str} {z : Str} (h : z ∈ ys) : ys[ys.idxOf z]? = some z ∧ ∀ m, m < ys.idxOf z → ys[m]? ≠ some z := by
  have hl := List.idxOf_lt_length_of_mem h
  refine ⟨by rw [List.getElem?_eq_getElem hl, List.getElem_idxOf], fun m hm e => ?_⟩
  obtain ⟨h1, h2⟩ := List.getElem?_eq_some_iff.mp e
  have := List.not_of_lt_findIdx (p := fun x => x == z) (xs := ys) hm
  simp [h2] at this
section
variable {X : Cx} {g : Wd} {W : WY} {a b o : Expr} {pos p apos : Pos} {m1 m2 : EM}
theorem de_idxK {x : Str} {pa : Addr} {ys : List Str} (hq : ∀ H, SqT X.K H pa (ys.map V.str)) (hk : ∃ o, X.K.lookup pa = some o ∧ o.cls = .type "tuple" ∧ o.dict = none) (gx : X.mg x = some (.ref pa)) (ha : PE X a (tD g W m2)) (hgx : Gl X x := by rfl) (hdx : (x == ("__debug__" : Str)) = false := by decide)
    (hbase : attributeBase (.Name x p) "index" X.env (eval (.Name x p) X.env) = eval (.Name x p) X.env := by rfl)
    (hfew : ((backTo pos (starEach [a] X.env)).all (fun x => !x.1) && (backToKw pos (keywordEach [] X.env)).all (fun x => x.1.isSome) && decide (([a] : List Expr).length + ([] : List Keyword).length + (if ([] : List Keyword).isEmpty then 0 else 1) < 30)) = true := by rfl)
    (hline : (apos.endLine == pos.line) = true := by rfl) (hs : starEach [a] X.env = (false, eval a X.env) :: starEach [] X.env := by rfl) (hplain : (backTo pos (starEach [] X.env)).any (·.1) = false := by rfl) :
    PE X (.Call (.Attribute (.Name x p) "index" apos) [a] [] pos) (tD g W (eIdxK ys m2)) :=
  pe_imp (pe_bm PySem.F.plainAttrs_tuple PySem.F.slot_tuple_index PySem.F.type_tuple_index mt_tup_index (pe_glob (v := .ref pa) hgx gx rfl hdx) (de_cons ha de_nil (hs := hs)) hbase hfew hline hs hplain) fun σ H Q ⟨F, e, M, RS, q⟩ => by
    refine ⟨.inr (.inl ⟨rfl, hk⟩), F, e, M, RS, ?_⟩
    unfold eIdxK at q
    unfold eCons eNil
    cases h2 : m2 e M with
    | bad => rw [h2] at q; exact q.elim
    | exc c ns ds M1 => rw [h2] at q; exact q
    | ok y M1 =>
      rw [h2] at q
      dsimp only [Res.bind] at q ⊢
      intro F1 H1 vs g1 R1 rs
      cases rs with | cons ry rt =>
      cases rt
      split at q
      · cases ry
        split at q
        · rename_i z hz
          obtain ⟨i1, i2⟩ := idx_at hz
          exact ⟨pa, ys, z, _, rfl, rfl, hq _, i1, i2, q F1 H1 _ g1 R1 (.int _)⟩
        · exact q.elim
      · exact q.elim
theorem de_lindex (hK : g.K = X.K) (ho : PE X o (tD g W m1)) (ha : PE X a (tD g W m2)) (hbase : attributeBase o "index" X.env (eval o X.env) = eval o X.env := by rfl)
    (hfew : ((backTo pos (starEach [a] X.env)).all (fun x => !x.1) && (backToKw pos (keywordEach [] X.env)).all (fun x => x.1.isSome) && decide (([a] : List Expr).length + ([] : List Keyword).length + (if ([] : List Keyword).isEmpty then 0 else 1) < 30)) = true := by rfl)
    (hline : (apos.endLine == pos.line) = true := by rfl) (hs : starEach [a] X.env = (false, eval a X.env) :: starEach [] X.env := by rfl) (hplain : (backTo pos (starEach [] X.env)).any (·.1) = false := by rfl) :
    PE X (.Call (.Attribute o "index" apos) [a] [] pos) (tD g W (eLidx m1 m2)) :=
  pe_imp (pe_bm PySem.F.plainAttrs_list PySem.F.slot_list_index PySem.F.type_list_index mt_index ho (de_cons ha de_nil (hs := hs)) hbase hfew hline hs hplain) fun σ H Q ⟨F, e, M, RS, q⟩ => by
    refine ⟨F, e, M, RS, q.bind fun x M1 F1 H1 v e1 g1 R1 rx q1 => ?_⟩
    split at q1
    · rename_i ds
      cases hds : strsOf ds with
      | none => rw [hds] at q1; exact q1.elim
      | some ys =>
      rw [hds] at q1
      cases rx with | fro h1 r1 =>
      rename_i pa vs0
      have hv := strs_rep r1 hds
      subst hv
      have hsq : SqL X.K H1 pa (ys.map V.str) := by rw [← hK]; exact h1.sq
      refine ⟨.inl ⟨rfl, _, hsq⟩, F1, e, M1, RS.up g1 R1, ?_⟩
      unfold eCons eNil
      cases h2 : m2 e M1 with
      | bad => rw [h2] at q1; exact q1.elim
      | exc c ns ds M2 => rw [h2] at q1; exact q1
      | ok y M2 =>
        rw [h2] at q1
        dsimp only [Res.bind] at q1 ⊢
        intro F2 H2 ws g2 R2 rs
        cases rs with | cons ry rt =>
        cases rt
        split at q1
        · cases ry
          split at q1
          · rename_i z hz
            obtain ⟨i1, i2⟩ := idx_at hz
            have rx2 := (Rep.fro (ds := ds) h1 r1).mono g2 R1.good
            cases rx2 with | fro h3 r3 =>
            have hv3 := strs_rep r3 hds
            subst hv3
            refine ⟨pa, _, _, ys.idxOf z, .str z, rfl, rfl, (by rw [← hK]; exact h3.sq), rfl, (by rw [List.all_map]; exact List.all_eq_true.mpr fun _ _ => rfl), by rw [List.getElem?_map, i1]; rfl, by simp [eqV], fun m z' hm hz' => ?_, q1 F2 H2 _ g2 R2 (.int _)⟩
            rw [List.getElem?_map] at hz'
            cases hy : ys[m]? with
            | none => rw [hy] at hz'; cases hz'
            | some u =>
              rw [hy] at hz'
              cases hz'
              have := i2 m hm
              rw [hy] at this
              simp only [eqV]
              simp
              exact fun z => this (by rw [z])
          · exact q1.elim
        · exact q1.elim
    · exact q1.elim
end
end T2
namespace T2
open PySem L2
/-- an __init__ of one field -/
theorem init1 {c : Nat} {f : Str} : ∀ ds M, ds.length = 2 → D.lows M.length ds → MLow M → Refines M (fnB 2 (sPutF [c] f (eVar 0) (eVar 1)) ds M) (initC c [f] ds M)
  | [x, y], M, _, _, _ => by
    unfold initC
    split
    · rename_i n xs he
      cases he
      split
      · rename_i c' hM
        split
        · rename_i hc
          obtain ⟨hx, rfl⟩ := hc
          refine .inl ?_
          simp only [fnB, env0, List.map_cons, List.map_nil, List.length_cons, List.length_nil, Nat.reduceAdd, Nat.sub_self, List.replicate, List.append_nil, sPutF, eVar, List.getElem?_cons_zero, List.getElem?_cons_succ, Res.toS, dPutF, hM, List.contains_cons, beq_self_eq_true, Bool.true_or, true_and, Nat.zero_lt_succ, and_self, if_true, putN, toR]
        · trivial
      · trivial
    · trivial
  | [], _, h, _, _ => by simp at h
  | [_], _, h, _, _ => by simp at h
  | _ :: _ :: _ :: _, _, h, _, _ => by simp at h
end T2
namespace T2
open PySem L2 PyProof.Rows

/-! ### super().__init__(..) in an own exception over ValueError -/
section
variable {prog : Program} {w : World} {A : Around} {E : Value → Shared → Prop} {h : Heap} {g : Array GenState} {d : Drawn} {t : Nat} {os : OsState} {nm q : Str} {C N : Addr} {bs bm : List Value} {hdct : Bool} {sn : List Str} {sub : List Value} {ab : Bool} {col : Option Bool} {dd : Option Addr} {k0 k1 k2 k3 k5 : Option Value}
/-- the bound __init__ of ValueError, called -/
theorem call_mw {u e t0 : Addr} {rest : List Value} {Q : Value → Shared → Prop} (hC : h.get? C = some (excClassObj nm q C N bs bm hdct sn sub ab col dd k0 k1 k2 k3 k5 "ValueError.__new__")) (he : h.get? e = some (HandSPX.excO C t0)) (hu : h.get? u = some (PySem.W.kxs_mw "ValueError.__init__" e)) (hz : rest.length ≤ sizeLine)
    (hq : ∀ h' t1, (∀ b o, b ≠ e → h.get? b = some o → h'.get? b = some o) → h'.get? e = some (HandSPX.excO C t1) → Q .none ⟨h', g, d, t, os⟩) : wpAny (model prog w) A (call (.ref u) rest) Q E ⟨h, g, d, t, os⟩ := by
  refine wpAny_call (codeAny_of_tree (show wpAny _ A.in1 (callAny (.ref u) ⟨rest, []⟩) _ _ _ from ?_))
  simp only [callAny]
  refine wpAny_bind (wpAny_load hu ?_)
  simp only [PySem.W.kxs_mw, show ((Value.type "method-wrapper" == Value.type "method" || Value.type "method-wrapper" == Value.type "builtin_function_or_method") || Value.type "method-wrapper" == Value.type "method-wrapper") = true by decide, if_true]
  refine W.KFB.if_so (by decide) (wpAny_bind (PySem.ESX.check_bound F.excBase_ValueError hC he rfl (wpAny_bind (wpAny_pure (wpAny_pure ?_)))))
  refine ⟨plainId_quiet F.excBase_ValueError.init.plain _, codeAny_builtin F.excBase_ValueError.initEntry ?_⟩
  rw [Around.under_plainId F.excBase_ValueError.init.plain _]
  wp_walk
  refine hq _ h.objs.size (fun b o hb ho => by rw [Heap.get?_update_other _ _ (Ne.symm hb)]; exact Heap.get?_push_of_some _ ho) ?_
  rw [Heap.get?_update_self _ (Heap.get?_push_of_some _ he) rfl]; rfl
end
/-- the scope of such an __init__ -/
structure ScopeS (N ps : List Str) (sc : Scope) : Prop where
  kind : sc.kind = .function
  co : sc.isCoroutine = false
  gen : sc.isGenerator = false
  nd : N.Nodup
  pre : N.take ps.length = ps
  par : ∀ x ∈ ps, sc.names.lookup x = some .local
  nocell : ∀ y ∈ sc.names, y.2 ≠ .cell
  sup : sc.names.lookup ("super" : Str) = some .globalImplicit
  cls : sc.names.lookup ("__class__" : Str) = some .free
  free : ∀ y ∈ sc.names, y.2 = .free → y.1 = "__class__"
def cxS (CX : CXT) (P : Program) (w : World) (K : PySem.W.Frag) (mg : Str → Option Value) (base : Heap) (N : List Str) (qual : Str) (scope : Scope) (f : Addr) (cd : Value) (cc : Addr) (A : Around) (outer : List Env) (s : Shared) (H : Hp) (E : XK) : Cx where
  prog := P
  w := w
  K := K
  mg := mg
  base := base
  A := A.deeper (PySem.W.ksEnv qual scope s.heap.objs.size f cd cc)
  N := N
  s_0 := s
  H_0 := H
  env := PySem.W.ksEnv qual scope s.heap.objs.size f cd cc
  outer := outer
  stack := PySem.W.ksEnv qual scope s.heap.objs.size f cd cc :: outer
  ex := []
  calm := true
  fn := fun x => x != "__class__"
  pn := []
  xe := fun e s' => wpAny (model P w) (A.deeper (PySem.W.ksEnv qual scope s.heap.objs.size f cd cc)) (leaving (PySem.W.ksEnv qual scope s.heap.objs.size f cd cc) e) (fun _ s'' => CX outer H s E e s'') (fun e' s'' => CX outer H s E e' s'') s'
theorem look_nodup {x : Str} {u : Value} : ∀ {l : List (Str × Value)}, (l.map (·.1)).Nodup → (x, u) ∈ l → l.lookup x = some u
  | [], _, h => by simp at h
  | (y, v) :: l, nd, h => by
    rw [List.map_cons, List.nodup_cons] at nd
    rw [List.lookup_cons]
    rcases List.mem_cons.mp h with e | e
    · cases e; simp
    · have : (x == y) = false := by
        rw [beq_eq_false_iff_ne]
        rintro rfl
        exact nd.1 (List.mem_map.mpr ⟨_, e, rfl⟩)
      rw [this]
      exact look_nodup nd.2 e
theorem one_cell {c d : Addr} {x y : Str} (h : ([(y, c)] : List (Str × Addr)).lookup x = some d) : x = y ∧ c = d := by
  rw [List.lookup_cons] at h
  cases e : (x == y) with
  | true => rw [e] at h; exact ⟨beq_iff_eq.mp e, Option.some.inj h⟩
  | false => rw [e] at h; cases h
theorem start_val {N : List Str} {vs : List V} {i : Nat} {v : V} (h : (L2.start N vs)[i]? = some (some v)) : vs[i]? = some v := by
  unfold L2.start at h
  rw [List.getElem?_append] at h
  split at h
  · simpa using h
  · rw [List.getElem?_replicate] at h
    split at h <;> simp at h
theorem inv_startS {CX : CXT} {P : Program} {w : World} {K : PySem.W.Frag} {mg : Str → Option Value} {base : Heap} {N ps : List Str} {qual : Str} {scope : Scope} {f cc : Addr} {cd : Value} {A : Around} {outer : List Env} {s : Shared} {H : Hp} {E : XK} {us : List Value} {vs : List V} {h1 : Heap} {tk : Nat} {cv : Option Value}
    (S : ScopeS N ps scope) (hd : A.handled = none) (e0 : Env0 P w K mg base A outer s H) (hl : vs.length = ps.length) (r : Vals vs us) (hc : ∃ o, K.lookup cc = some o ∧ o.data = .cell cv)
    (hns : h1.Ns s.heap.objs.size (fun x => (ps.zip us).reverse.lookup x)) (hk : ∀ b o, s.heap.get? b = some o → h1.get? b = some o) :
    Inv (cxS CX P w K mg base N qual scope f cd cc A outer s H E) [] (start N vs) H { s with heap := h1, toks := tk } := by
  have hpl : ps.length ≤ N.length := by have := congrArg List.length S.pre; rw [List.length_take] at this; omega
  have ndP : ps.Nodup := by rw [← S.pre]; exact S.nd.sublist (List.take_sublist _ _)
  obtain ⟨co, lc, dc⟩ := hc
  have bc := e0.mod.kin _ _ lc
  have sc := e0.bs _ _ bc
  have noA : ∀ b : Addr, b ∉ (cxS CX P w K mg base N qual scope f cd cc A outer s H E).ex := fun b z => absurd (show b ∈ ([] : List Addr) from z) (by simp)
  refine ⟨⟨e0.mod, S.kind, rfl, rfl, Nat.le_refl _, fun y z c h1 h2 => (one_cell h1).1.trans (one_cell h2).1.symm, fun y hy => ?_, fun y c hn h => ?_, fun _ => hd, Around.frames_deeper e0.frames, .inr ⟨rfl, rfl⟩, fun b z => absurd z (noA b), e0.bs, e0.bsz, fun b _ _ => noA b, fun b z => absurd z (noA b), e0.funs, e0.frf⟩,
    rfl, e0.bare, Un.kept hk, ⟨_, hns, fun i y v h1 h2 h3 => ?_⟩, fun y c h => ?_, e0.hok.fresh (Nat.le_refl _), fun y c h => ?_, fun p hp => absurd (show p ∈ ([] : List (Addr × Obj)) from hp) (by simp), e0.hok.kept hk, ?_⟩
  · have hy : scope.names.lookup y = some .cell ∨ scope.names.lookup y = some .free := hy
    rcases hy with hy | hy
    · exact absurd rfl (S.nocell _ (PySem.mem_of_lookup hy))
    · have : y = "__class__" := S.free _ (PySem.mem_of_lookup hy) rfl
      subst this
      exact ⟨cc, by rfl⟩
  · obtain ⟨rfl, _⟩ := one_cell h
    exact absurd (show (("__class__" : Str) != "__class__") = true from hn) (by decide)
  · have ha : vs[i]? = some v := start_val h2
    have hi : i < vs.length := (List.getElem?_eq_some_iff.mp ha).1
    obtain ⟨u, hu, rv⟩ := r.get ha
    have hp : ps[i]? = some y := by rw [← S.pre, List.getElem?_take_of_lt (by omega)]; exact h1
    refine ⟨u, rv, .inl ⟨S.par y (List.mem_of_getElem? hp), ?_⟩⟩
    have hul : us.length = ps.length := by rw [← r.length]; exact hl
    refine look_nodup ?_ ?_
    · rw [List.map_reverse, List.map_fst_zip (by omega)]
      exact List.pairwise_reverse.mpr (ndP.imp fun h => Ne.symm h)
    · rw [List.mem_reverse]
      exact List.mem_of_getElem? (by rw [List.getElem?_zip_eq_some]; exact ⟨hp, hu⟩)
  · obtain ⟨rfl, rfl⟩ := one_cell h
    exact ⟨cv, co, hk _ _ sc.1, dc⟩
  · obtain ⟨rfl, rfl⟩ := one_cell h
    exact sc.2
  · unfold L2.start
    show _ = N.length
    rw [List.length_append, List.length_map, List.length_replicate]
    omega
end T2
namespace T2
open PySem L2 PyProof.Rows

/-! ### changes at places that no value reads -/
def NExt (o : HO) : Prop := ∀ p, o ≠ .ext p
section
variable {g : Wd} {F : List Addr} {H H' : Hp}
theorem FroL.ext (k : ∀ b o, H b = some o → NExt o → H' b = some o) {a : Addr} {vs : List V} (h : FroL g F H a vs) : FroL g F H' a vs := by
  rcases h with ⟨h, n⟩ | ⟨o, h⟩ | h
  · exact .inl ⟨k _ _ h (fun _ z => by cases z), n⟩
  · exact .inr (.inl ⟨o, k _ _ h (fun _ z => by cases z)⟩)
  · exact .inr (.inr h)
theorem sqT_ext (k : ∀ b o, H b = some o → NExt o → H' b = some o) {a : Addr} {vs : List V} (h : SqT g.K H a vs) : SqT g.K H' a vs := by
  rcases h with (h | ⟨o, h⟩) | h
  · exact .inl (.inl (k _ _ h (fun _ z => by cases z)))
  · exact .inl (.inr ⟨o, k _ _ h (fun _ z => by cases z)⟩)
  · exact .inr h
mutual
theorem Rep.ext (k : ∀ b o, H b = some o → NExt o → H' b = some o) : ∀ {d : D} {v : V}, Rep g F H d v → Rep g F H' d v
  | _, _, .non => .non
  | _, _, .bl b => .bl b
  | _, _, .int i => .int i
  | _, _, .str x => .str x
  | _, _, .ty n => .ty n
  | _, _, .cls c => .cls c
  | _, _, .obj a => .obj a
  | _, _, .tk h => .tk (k _ _ h (fun _ z => by cases z))
  | _, _, .ref h => .ref h
  | _, _, .tup h r => .tup (sqT_ext k h) (Reps.ext k r)
  | _, _, .fro h r => .fro (h.ext k) (Reps.ext k r)
  | _, _, .ins h hn hl r => .ins (k _ _ h (fun _ z => by cases z)) hn hl (Reps.ext k r)
theorem Reps.ext (k : ∀ b o, H b = some o → NExt o → H' b = some o) : ∀ {ds : List D} {vs : List V}, Reps g F H ds vs → Reps g F H' ds vs
  | _, _, .nil => .nil
  | _, _, .cons h t => .cons (Rep.ext k h) (Reps.ext k t)
end
theorem ObjR.ext (k : ∀ b o, H b = some o → NExt o → H' b = some o) {o : MO} {h : HO} (r : ObjR g F H o h) : ObjR g F H' o h := by
  cases r with
  | lst r => exact .lst (r.ext k)
  | dk hl r => exact .dk hl (r.ext k)
  | dt hl r => exact .dt hl (r.ext k)
  | ob hl r => exact .ob hl (r.ext k)
  | lk hl r => exact .lk hl (r.ext k)
  | lt hl r => exact .lt hl (r.ext k)
theorem ObjR.nx {o : MO} {h : HO} (r : ObjR g F H o h) : NExt h := by cases r <;> exact fun _ z => by cases z
theorem RelM.ext (k : ∀ b o, H b = some o → NExt o → H' b = some o) {M : MH} (R : RelM g F M H) : RelM g F M H' :=
  ⟨R.len, R.nd, fun n a o e m => by
    obtain ⟨h, e2, r⟩ := R.obj n a o e m
    exact ⟨h, k _ _ e2 r.nx, r.ext k⟩⟩
theorem EnvR.ext (k : ∀ b o, H b = some o → NExt o → H' b = some o) : ∀ {e : Env2} {s : L2.St}, EnvR g F H e s → EnvR g F H' e s
  | _, _, .nil => .nil
  | _, _, .cons .none t => .cons .none (EnvR.ext k t)
  | _, _, .cons (.some r) t => .cons (.some (r.ext k)) (EnvR.ext k t)
theorem grow_same {F F' : List Addr} {M : MH} {H' : Hp} (h : F <+: F') (R : RelM g F M H) (R' : RelM g F' M H') : F' = F := by
  obtain ⟨t, rfl⟩ := h
  have := R'.len
  rw [List.length_append, R.len] at this
  have : t = [] := List.eq_nil_of_length_eq_zero (by omega)
  rw [this, List.append_nil]
end

/-! ### the stores of an own exception's __init__ -/
def WN : WY := ⟨fun _ _ _ _ => False, ⟨[], []⟩⟩
inductive Sto (X : Cx) (g : Wd) (C : Addr) : List Stmt → List (Str × EM) → Prop
  | nil : Sto X g C [] []
  | cons {f : Str} {p p' pos : Pos} {e : Expr} {m : EM} {sts : List Stmt} {l : List (Str × EM)} (hs : PE X (.Name "self" p) (tVar 0)) (he : PE X e (tD g WN m)) (hf : PySem.W.findIn X.K (.ref C) f = some none)
      (hw : swapsWith e (some (.Attribute (.Name "self" p) f p')) pos.line X.env = pure false) (h : Sto X g C sts l) : Sto X g C (.Assign [.Attribute (.Name "self" p) f p'] e pos :: sts) ((f, m) :: l)
/-- the exception at a, its dict at d with the fields fs -/
inductive XS (a C : Addr) (H : Hp) : Option Addr → List (Str × V) → Prop
  | no (h : H a = some (exo a C none)) : XS a C H none []
  | so {d : Addr} {fs : List (Str × V)} (h : H a = some (exo a C (some d))) (hd : H d = some (exd d fs)) (hne : d ≠ a) : XS a C H (some d) fs
def evs (env : Env2) (M : MH) : List (Str × EM) → List (Str × D) → Prop
  | [], acc => acc = []
  | (f, m) :: l, acc => ∃ d r, m env M = .ok d M ∧ evs env M l r ∧ acc = (f, d) :: r
theorem sto_run {X : Cx} {g : Wd} {C a : Addr} (T : OexC X.K C) {F : List Addr} {env : Env2} {M : MH} {H0 : Hp} {pins : List (Addr × Obj)} {E : Ends} {σ : L2.St} (h0 : σ[0]? = some (some (.ref a))) :
    ∀ {sts : List Stmt} {l : List (Str × EM)}, Sto X g C sts l → ∀ (H : Hp) (s : Shared) (o : Option Addr) (ns : List Str) (ds : List D) (vs : List V) (acc : List (Str × D)), Inv X pins σ H s → RelM g F M H → EnvR g F H env σ → XS a C H o (ns.zip vs) → ns.length = vs.length → ns.length + l.length ≤ 100 → Reps g F H ds vs →
      (∀ b u, b ≠ a → (b ∉ F ∨ ¬ NoLk (some u)) → H0 b = some u → H b = some u) → (∀ b, H b = none → H0 b = none) → (∀ d, o = some d → H0 d = none) → evs env M l acc →
      (∀ H2 o2 vs2, (∀ b u, b ≠ a → (b ∉ F ∨ ¬ NoLk (some u)) → H0 b = some u → H2 b = some u) → XS a C H2 o2 (((acc.map (·.1)).reverse ++ ns).zip vs2) → ((acc.map (·.1)).reverse ++ ns).length = vs2.length → (∀ d, o2 = some d → H0 d = none) → RelM g F M H2 → Reps g F H2 ((acc.map (·.2)).reverse ++ ds) vs2 → E.nx σ H2) →
      wpAny (model X.prog X.w) X.A (execs sts X.env) (SP X pins E) X.xe s := by
  intro sts l S
  induction S with
  | nil =>
    intro H s o ns ds vs acc I R e xs hl hz r k kd ko ev fin
    cases ev
    rw [execs_nil]
    refine wpAny_pure ⟨σ, H, I, fin H o vs k ?_ ?_ ko R ?_⟩ <;> simpa
  | @cons f p p' pos ex m sts l hs he hf hw hS ih =>
    intro H s o ns ds vs acc I R e xs hl hz r k kd ko ev fin
    obtain ⟨d, ar, hm, ev, rfl⟩ := ev
    have key : tOst X.K f (tVar 0) (tD g WN m) { nx := fun σ' H' => σ' = σ ∧ ∃ o2 v vs', RelM g F M H' ∧ EnvR g F H' env σ ∧ XS a C H' o2 ((f :: ns).zip (v :: vs')) ∧ ns.length = vs'.length ∧ Reps g F H' (d :: ds) (v :: vs') ∧ (∀ b u, b ≠ a → (b ∉ F ∨ ¬ NoLk (some u)) → H0 b = some u → H' b = some u) ∧ (∀ b, H' b = none → H0 b = none) ∧ (∀ d, o2 = some d → H0 d = none), rt := fun _ _ => False } σ H := by
      refine ⟨F, env, M, ⟨R, e, pin_nil, xrs_nil⟩, ?_⟩
      rw [hm]
      intro F1 H1 v g1 R1 rv
      have hF : F = F1 := (grow_same g1.pre R R1).symm
      subst hF
      refine ⟨.ref a, h0, a, C, rfl, T, hf, ?_⟩
      have nF : ∀ {b : Addr} {u : HO}, H b = some u → ¬ MutO (some u) → b ∉ F := fun hb hu => R.good.notin hb hu
      generalize hfs : ns.zip vs = fs at xs
      cases xs with
      | no h =>
        obtain rfl : ns = [] := by
          cases ns with
          | nil => rfl
          | cons x xs => cases vs with
            | nil => cases hl
            | cons y ys => cases hfs
        obtain rfl : vs = [] := List.eq_nil_of_length_eq_zero hl.symm
        have ha : a ∉ F := nF h (fun z => z)
        have h1 := g1.keep _ _ h ha
        refine .inl ⟨h1, fun dx hd hda => ⟨rfl, some dx, v, [], ?_⟩⟩
        have kk : ∀ b o, H1 b = some o → NExt o → upd (upd H1 dx (exd dx [(f, v)])) a (exo a C (some dx)) b = some o := fun b o hb hn => by
          have b1 : b ≠ a := fun z => by rw [z, h1] at hb; exact hn _ (Option.some.inj hb).symm
          have b2 : b ≠ dx := fun z => by rw [z, hd] at hb; cases hb
          rw [upd_ne b1, upd_ne b2]; exact hb
        refine ⟨R1.ext kk, (e.mono g1 R.good).ext kk, .so (d := dx) upd_same (by rw [upd_ne hda]; exact upd_same) hda, rfl, .cons (rv.ext kk) ((r.mono g1 R.good).ext kk), fun b u hb hf hu => ?_, fun b hb => ?_, fun d hd' => ?_⟩
        · have z := g1.keep2 (k b u hb hf hu) hf
          have b2 : b ≠ dx := fun y => by rw [y, hd] at z; cases z
          rw [upd_ne hb, upd_ne b2]; exact z
        · by_cases b1 : b = a
          · rw [b1, upd_same] at hb; cases hb
          · rw [upd_ne b1] at hb
            by_cases b2 : b = dx
            · rw [b2, upd_same] at hb; cases hb
            · rw [upd_ne b2] at hb
              by_cases hbF : b ∈ F
              · have := R1.good b hbF; rw [hb] at this; exact this.elim
              · cases z : H b with
                | none => exact kd b z
                | some u => rw [g1.keep _ _ z hbF] at hb; cases hb
        · cases hd'
          have hdF : dx ∉ F := R1.notin hd
          cases z : H dx with
          | none => exact kd dx z
          | some u => rw [g1.keep _ _ z hdF] at hd; cases hd
      | so h hd hne =>
        rename_i dx
        subst hfs
        have ha : a ∉ F := nF h (fun z => z)
        have hdF : dx ∉ F := nF hd (fun z => z)
        have h1 := g1.keep _ _ h ha
        have hd1 := g1.keep _ _ hd hdF
        have hzl : (ns.zip vs).length ≤ 900 := by rw [List.length_zip]; omega
        refine .inr ⟨dx, ns.zip vs, h1, hd1, hzl, ⟨rfl, some dx, v, vs, ?_⟩⟩
        have hda : a ≠ dx := Ne.symm hne
        have kk : ∀ b o, H1 b = some o → NExt o → upd H1 dx (exd dx ((f, v) :: ns.zip vs)) b = some o := fun b o hb hn => by
          have b2 : b ≠ dx := fun z => by rw [z, hd1] at hb; exact hn _ (Option.some.inj hb).symm
          rw [upd_ne b2]; exact hb
        refine ⟨R1.ext kk, (e.mono g1 R.good).ext kk, .so (d := dx) (by rw [upd_ne hda]; exact h1) upd_same hne, hl, .cons (rv.ext kk) ((r.mono g1 R.good).ext kk), fun b u hb hf hu => ?_, fun b hb => ?_, fun d hd' => ko d hd'⟩
        · have z := g1.keep2 (k b u hb hf hu) hf
          have b2 : b ≠ dx := fun y => by rw [y] at hu; rw [ko dx rfl] at hu; cases hu
          rw [upd_ne b2]; exact z
        · by_cases b2 : b = dx
          · rw [b2, upd_same] at hb; cases hb
          · rw [upd_ne b2] at hb
            by_cases hbF : b ∈ F
            · have := R1.good b hbF; rw [hb] at this; exact this.elim
            · cases z : H b with
              | none => exact kd b z
              | some u => rw [g1.keep _ _ z hbF] at hb; cases hb
    refine wpAny_execs_cons (thn ((ps_ost (p' := p') (f := f) (pos := pos) hs he hw).run pins s σ H _ I key) fun fl s1 q => ?_)
    cases fl with
    | next =>
      obtain ⟨σ', H', I', rfl, o2, v, vs', R', e', xs', hl', r', k', kd', ko'⟩ := q
      refine ih H' s1 o2 (f :: ns) (d :: ds) (v :: vs') ar I' R' e' xs' (by simp [hl']) (by simp at hz ⊢; omega) r' k' kd' ko' ev fun H2 o3 vs2 k2 x2 l2 ko2 R2 r2 => fin H2 o3 vs2 k2 ?_ ?_ ko2 R2 ?_
      · simpa using x2
      · simpa using l2
      · simpa using r2
    | ret v => obtain ⟨_, _, _, _, _, q⟩ := q; exact q.elim
    | brk => obtain ⟨_, _, _, q⟩ := q; exact q.elim
    | cont => obtain ⟨_, _, _, q⟩ := q; exact q.elim

/-! ### super().__init__(text), first in such an __init__ -/
structure SupIn (P : Program) (K : PySem.W.Frag) (mg : Str → Option Value) (C f cc cda : Addr) (fd : FuncData) : Prop where
  lk : ∃ oc od osl, K.lookup f = some ⟨oc, od, .func fd, osl⟩
  par : ∃ ar : Arg, (fd.params.posonlyargs ++ fd.params.args).head? = some ar ∧ ar.arg = "self"
  code : ∃ ccl cdd vs ccs file tf, K.lookup cda = some ⟨ccl, cdd, .fields vs, ccs⟩ ∧ vs[2]? = some (.str file tf) ∧ ((P.main.file : Str) == file) = true
  cell : ∃ cl cld csl, K.lookup cc = some ⟨cl, cld, .cell (some (.ref C)), csl⟩
  self : PySem.W.mroIn K C (.ref C) = some true
  sup : mg "super" = none
  third : PySem.W.nsIn K cStatics "thirdparty.any" = some none
  sin : PySem.W.ks_superIn K C C "__init__" = some (some (.builtin "ValueError.__init__"))
  isV : PySem.W.subIn K (.ref C) (.type "ValueError") = some true
  top : (P.main.scope.names.lookup ("super" : Str)).isSome = false
theorem boot_super : bootBuiltins "super" = some (.type "super") := by decide +kernel
abbrev supSt (txt : Str) (j : Nat) (p0 p1 p2 p3 p4 p5 : Pos) : Stmt := .Expr (.Call (.Attribute (.Call (.Name "super" p0) [] [] p1) "__init__" p2) [.Constant (.str txt) j p3] [] p4) p5
theorem sup_first {CX : CXT} {P : Program} {w : World} {K : PySem.W.Frag} {mg : Str → Option Value} {base : Heap} {N ps : List Str} {qual : Str} {scope : Scope} {f cda cc C a : Addr} {fd : FuncData} {A : Around} {outer : List Env} {s0 : Shared} {H0 : Hp} {E0 : XK} {σ : L2.St} {H : Hp} {s : Shared} {body rest : List Stmt}
    {txt : Str} {j : Nat} {p0 p1 p2 p3 p4 p5 : Pos} {Q : Flow → Shared → Prop}
    (S : ScopeS N ps scope) (T : OexC K C) (U : SupIn P K mg C f cc cda fd) (hN : N[0]? = some ("self" : Str)) (hl : scope.names.lookup ("self" : Str) = some .local)
    (I : Inv (cxS CX P w K mg base N qual scope f (.ref cda) cc A outer s0 H0 E0) [] σ H s) (ea : H a = some (exo a C none)) (h0 : σ[0]? = some (some (.ref a)))
    {pl : Sem Bool} (he : eval (.Call (.Attribute (.Call (.Name "super" p0) [] [] p1) "__init__" p2) [.Constant (.str txt) j p3] [] p4) (PySem.W.ksEnv qual scope s0.heap.objs.size f (.ref cda) cc) = (do
      let ov ← attributeBase (.Call (.Name "super" p0) [] [] p1) "__init__" (PySem.W.ksEnv qual scope s0.heap.objs.size f (.ref cda) cc) (eval (.Call (.Name "super" p0) [] [] p1) (PySem.W.ksEnv qual scope s0.heap.objs.size f (.ref cda) cc))
      standAt p2.atName
      let (f', first) ← holding [ov] (getMethod ov "__init__" pl)
      callWith p4 f' first (backTo p4 (starEach [.Constant (.str txt) j p3] (PySem.W.ksEnv qual scope s0.heap.objs.size f (.ref cda) cc))) []))
    (hi : interactive (PySem.W.ksEnv qual scope s0.heap.objs.size f (.ref cda) cc) = false)
    (k : ∀ s', Inv (cxS CX P w K mg base N qual scope f (.ref cda) cc A outer s0 H0 E0) [] σ H s' → wpAny (model P w) (cxS CX P w K mg base N qual scope f (.ref cda) cc A outer s0 H0 E0).A (execs rest (cxS CX P w K mg base N qual scope f (.ref cda) cc A outer s0 H0 E0).env) Q (cxS CX P w K mg base N qual scope f (.ref cda) cc A outer s0 H0 E0).xe s') :
    _root_.PySem.wpAt (model P w) (cxS CX P w K mg base N qual scope f (.ref cda) cc A outer s0 H0 E0).A (.func body (PySem.W.ksEnv qual scope s0.heap.objs.size f (.ref cda) cc))
      (execs (supSt txt j p0 p1 p2 p3 p4 p5 :: rest) (PySem.W.ksEnv qual scope s0.heap.objs.size f (.ref cda) cc)) Q (cxS CX P w K mg base N qual scope f (.ref cda) cc A outer s0 H0 E0).xe s := by
  obtain ⟨nm, q, N', bs, bm, sn, sub, ab, col, dd, k0, k1, k2, k3, k5, hC, hbm⟩ := T.cls
  obtain ⟨oc, od, osl, lk⟩ := U.lk
  obtain ⟨ar, hp, har⟩ := U.par
  obtain ⟨ccl, cdd, vs, ccs, file, tf, hco, hvs, hfile⟩ := U.code
  obtain ⟨cl, cld, csl, hcc⟩ := U.cell
  obtain ⟨t1, ho⟩ := exo_at I.hok ea
  have KX := I.kIn
  have KX : K.In s.heap := KX
  obtain ⟨m, hns, hloc⟩ := I.loc
  obtain ⟨u, ru, hlk⟩ := hloc 0 "self" (.ref a) hN h0 (.inl hl)
  obtain rfl : u = Value.ref a := ru
  have hms : m ar.arg = some (.ref a) := by
    rw [har]
    rcases hlk with ⟨_, h⟩ | ⟨h, _⟩
    · exact h
    · have h : scope.names.lookup ("self" : Str) = some .cell ∨ scope.names.lookup ("self" : Str) = some .free := h
      rw [hl] at h; rcases h with h | h <;> cases h
  obtain ⟨mb, hb1, hb2⟩ := I.mod.blt
  have hgl := I.mod.glob.keeps I.bk
  obtain ⟨hh, g, d, t, os⟩ := s
  have hcl : PySem.W.clsIn K C = some { name := nm, bases := bs, mro := .ref C :: bm, ns := N', qualname := q, hasDict := true, slotNames := sn, subclasses := sub, abstract := ab, collection := col, hasDel := false } := by unfold PySem.W.clsIn; rw [hC] <;> rfl
  have hCo := KX _ _ hC
  have IA : PySem.W.InstAt hh a { cls := .ref C, dict := none, data := .fields #[.ref t1, .none, .none, .none, .bool false, .none] } C none := ⟨ho, rfl, rfl, trivial⟩
  refine ks_wpAt_execs_cons (ks_wpAt_Expr_any (ks_wpAt_MethodCall (pl := pl) ?_ he) hi)
  refine ks_wpAt_super_base (env := PySem.W.ksEnv qual scope s0.heap.objs.size f (.ref cda) cc) S.sup S.cls (by decide) rfl (KX _ _ lk) rfl hp rfl (KX _ _ hco) rfl hvs hfile U.top ?_
  refine PySem.W.ks_loadName_global S.kind S.sup (PySem.Calls.loadGlobal_builtin (env := PySem.W.ksEnv qual scope s0.heap.objs.size f (.ref cda) cc) hgl U.sup (hb1.keeps I.bk) ((hb2 _ (by decide)).trans boot_super) ⟨rfl, ?_⟩)
  refine wpAny_loadName_free S.kind S.cls rfl ⟨_, KX _ _ hcc, rfl⟩ ?_
  refine wpAny_loadName_local S.kind (by rw [har]; exact hl) hns hms ?_
  refine ks_wpAny_isType_cls hCo rfl ⟨rfl, ?_⟩
  refine ks_wpAny_call_super hCo rfl ho rfl (fun c e => by cases e) (PySem.W.looks_mroIn KX U.self) (fun h1 e1 kk1 => ?_)
  have KX1 : K.In h1 := fun b o e => kk1 b o (KX b o e)
  have hI1 : PySem.W.Looks (model P w) h1 (isInstance (.ref a) (.type "ValueError")) true := (show PySem.W.InstAt h1 a _ C none from ⟨kk1 _ _ ho, rfl, rfl, trivial⟩).type.andThen (PySem.W.looks_subIn KX1 U.isV)
  have hsin := U.sin
  unfold PySem.W.ks_superIn at hsin
  rw [hcl, Option.bind_some] at hsin
  refine PySem.W.kxs_getMethod PySem.W.kxs_ValueError e1 (PySem.W.looks_opaque KX1 U.third) (l₀ := .ref C :: bm) ?_ rfl KX1 hsin hI1 (PySem.W.ks_ne KX IA hcl) (by decide) ?_
  · exact fun A Q E s k q => wpAny_bind ((PySem.W.looks_clsIn KX1 hcl) A _ E s k (wpAny_pure q))
  have kk2 : ∀ b o, hh.get? b = some o → (h1.push (PySem.W.kxs_mw "ValueError.__init__" a)).get? b = some o := fun b o e => Heap.get?_push_of_some _ (kk1 b o e)
  have I2 := I.kept (h' := h1.push (PySem.W.kxs_mw "ValueError.__init__" a)) (t' := t + 1) kk2
  have hsz : hh.objs.size ≤ h1.objs.size := Nat.le_of_lt (Heap.lt_size e1)
  have hu : (h1.push (PySem.W.kxs_mw "ValueError.__init__" a)).get? h1.objs.size = some (PySem.W.kxs_mw "ValueError.__init__" a) := Heap.get?_push_at rfl rfl
  have I3 := I2.pins_of (pins' := [(h1.objs.size, PySem.W.kxs_mw "ValueError.__init__" a)]) (fun p hp => by
    rcases List.mem_singleton.mp hp with rfl
    refine ⟨hu, I.hok.fresh hsz, ?_, I.nofs hsz, fun v z => by cases z⟩
    exact Nat.ne_of_gt (Nat.lt_of_lt_of_le I.lt hsz))
  refine PySem.W.kxs_callWith (i := "ValueError.__init__") (x := a) (by rfl) (PySem.Calls.evalArgs_plain (thn ((pa_cons pe_str pa_nil (by rfl)).run p4 _ _ σ H (fun vs H1 => vs = [.str txt] ∧ H1 = H) I3 ⟨rfl, rfl⟩) ?_))
  rintro us s4 ⟨ws, H4, I4, rw4, rfl, rfl⟩
  have hu4 := (I4.pin _ (List.mem_append_right _ (List.mem_singleton.mpr rfl))).1
  refine ⟨hu4, ?_⟩
  obtain ⟨t4, ho4⟩ := exo_at I4.hok ea
  obtain ⟨h4, g4, d4, tk4, os4⟩ := s4
  have hlen : us.length = 1 := by rw [← rw4.length]; rfl
  refine call_mw (I4.kIn _ _ hC) ho4 hu4 (by rw [List.nil_append, hlen]; decide) fun h' t5 kk5 he5 => ?_
  have J := I4.write (t' := tk4) (x := a) (e := a) (o := exo a C none) (by rw [ea]; exact True.intro) (.inl rfl) kk5 ⟨_, he5⟩ (exo_ok he5)
  have eu : upd H4 a (exo a C none) = H4 := by
    funext b
    by_cases hb : b = a
    · rw [hb, upd_same, ea]
    · rw [upd_ne hb]
  rw [eu] at J
  exact wpAt_of_wpAny (k _ (J.pins_of (pins' := []) (fun p hp => absurd hp (by simp))))
end T2
namespace T2
open PySem L2 PyProof.Rows

/-! ### an own exception's __init__ as a def -/
def spX (g : Wd) (c n : Nat) (ns : List Str) (f : List D → List D) : Sp := fun vs H Q _ => vs.length = n + 1 ∧ ∃ a ws F M ds, vs = .ref a :: ws ∧ H a = some (exo a (g.ca c) none) ∧ RelM g F M H ∧ Reps g F H ds ws ∧
  ∀ H2 d us, (∀ b u, b ≠ a → (b ∉ F ∨ ¬ NoLk (some u)) → H b = some u → H2 b = some u) → H2 a = some (exo a (g.ca c) (some d)) → H2 d = some (exd d (ns.zip us)) → d ≠ a → H d = none → ns.length = us.length → RelM g F M H2 → Reps g F H2 (f ds) us → Q .non H2
theorem fnX_ok {P : Program} {w : World} {K : PySem.W.Frag} {mg : Str → Option Value} {base : Heap} {g : Wd} {c n k : Nat} {f cc cda : Addr} {name qual : Str} {params : Arguments} {scope : Scope} {dV kV doc pm ct oc : Value} {an od : Option Addr} {osl : Array (Option Value)} {ps' : List Str} {ns : List Str}
    {txt : Str} {j : Nat} {p0 p1 p2 p3 p4 p5 : Pos} {rest : List Stmt} {l : List (Str × EM)} {acc : List D → List (Str × D)} {pl : Addr → Sem Bool}
    (lk : K.lookup f = some ⟨oc, od, .func (PySem.W.ksFn name qual params (supSt txt j p0 p1 p2 p3 p4 p5 :: rest) scope dV kV doc pm an (.ref cda) ct cc), osl⟩) (hcd : PySem.W.codeIn K (.ref cda) qual = true) (S : ScopeS ("self" :: ps') ("self" :: ps') scope) (T : OexC K (g.ca c))
    (U : SupIn P K mg (g.ca c) f cc cda (PySem.W.ksFn name qual params (supSt txt j p0 p1 p2 p3 p4 p5 :: rest) scope dV kV doc pm an (.ref cda) ct cc)) (hn : ps'.length = n)
    (he : ∀ L, eval (.Call (.Attribute (.Call (.Name "super" p0) [] [] p1) "__init__" p2) [.Constant (.str txt) j p3] [] p4) (PySem.W.ksEnv qual scope L f (.ref cda) cc) = (do
      let ov ← attributeBase (.Call (.Name "super" p0) [] [] p1) "__init__" (PySem.W.ksEnv qual scope L f (.ref cda) cc) (eval (.Call (.Name "super" p0) [] [] p1) (PySem.W.ksEnv qual scope L f (.ref cda) cc))
      standAt p2.atName
      let (f', first) ← holding [ov] (getMethod ov "__init__" (pl L))
      callWith p4 f' first (backTo p4 (starEach [.Constant (.str txt) j p3] (PySem.W.ksEnv qual scope L f (.ref cda) cc))) []))
    (hi : ∀ L, interactive (PySem.W.ksEnv qual scope L f (.ref cda) cc) = false)
    (hst : ∀ A outer s H E, Sto (cxS (L2N.CX P w) P w K mg base ("self" :: ps') qual scope f (.ref cda) cc A outer s H E) g (g.ca c) rest l)
    (hev : ∀ a ds M, ds.length = n → evs (some (.obj a) :: ds.map some) M l (acc ds)) (hns : ∀ ds, ((acc ds).map (·.1)).reverse = ns) (hnn : ns ≠ []) (hll : l.length ≤ 100) :
    FnOk P w K mg base (L2N.CX P w) (k + 1) f (PySem.W.ksFn name qual params (supSt txt j p0 p1 p2 p3 p4 p5 :: rest) scope dV kV doc pm an (.ref cda) ct cc) ("self" :: ps') (spX g c n ns fun ds => ((acc ds).map (·.2)).reverse) := by
  refine ⟨fun vs H Q E h => by rw [h.1, List.length_cons, hn], fun A outer s H args us vs Q E hr e0 hb r hsp => ?_⟩
  obtain ⟨hl, a, ws, F, M, ds, rfl, ea, R, rs, fin⟩ := hsp
  have KX : K.In s.heap := e0.mod.kin.keeps fun b o e => (e0.bs b o e).1
  have lim : s.heap.NoLimit := e0.mod.nolimit.keeps fun b o e => (e0.bs b o e).1
  have hlw : ws.length = n := by simpa using hl
  have hld : ds.length = n := by rw [rs.length]; exact hlw
  refine ks_codeAny_call_defAt hr.depth (KX _ _ lk) rfl lim (PySem.W.codeRec_of KX hcd) rfl hb S.nocell (fun x hx => S.par x.1 (List.of_mem_zip hx).1) (fun h1 hns1 hk1 => ?_) S.co S.gen S.kind
  obtain ⟨cl, cld, csl, hcc⟩ := U.cell
  have I := inv_startS (CX := L2N.CX P w) (P := P) (w := w) (N := "self" :: ps') (qual := qual) (f := f) (cd := .ref cda) (outer := outer) (E := E) (tk := s.toks + ((("self" : Str) :: ps').zip us).length) S hr.hd e0 (by rw [hl, List.length_cons, hn]) r ⟨_, hcc, rfl⟩ hns1 hk1
  have I0 := I
  have hst0 : (L2.start ("self" :: ps') (V.ref a :: ws)) = some (.ref a) :: ws.map some := by
    unfold L2.start
    rw [List.length_cons, List.length_cons, hn, hlw]
    simp
  rw [hst0] at I
  have hself : scope.names.lookup ("self" : Str) = some .local := S.par _ (List.mem_cons_self ..)
  refine ks_wpAt_mono (Q := SP (cxS (L2N.CX P w) P w K mg base ("self" :: ps') qual scope f (.ref cda) cc A outer s H E) [] { nx := fun _ H' => Q .non H', rt := Q }) (sup_first (CX := L2N.CX P w) (base := base) (outer := outer) (H0 := H) (E0 := E) (qual := qual) (scope := scope) (a := a) S T U rfl hself I ea rfl (he _) (hi _) fun s' I' => ?_) (fun fl s' hs => ?_) fun _ _ z => z
  · have er : EnvR g F H (some (.obj a) :: ds.map some) (some (.ref a) :: ws.map some) := by
      have := envR_start (N := []) (Reps.cons (Rep.obj a) rs) 0
      simpa using this
    refine sto_run (H0 := H) (a := a) (env := some (.obj a) :: ds.map some) T rfl (hst A outer s H E) H s' none [] [] [] (acc ds) I' R er (.no ea) rfl (by simpa using hll) .nil (fun b u _ _ z => z) (fun b z => z) (fun d z => by cases z) (hev a ds M hld) fun H2 o2 vs2 k2 x2 l2 ko2 R2 r2 => ?_
    rw [List.append_nil] at x2 l2
    rw [List.append_nil] at r2
    rw [hns] at x2 l2
    generalize hz : ns.zip vs2 = fs at x2
    cases x2 with
    | no h =>
      exfalso
      cases ns with
      | nil => exact hnn rfl
      | cons x xs => cases vs2 with
        | nil => cases l2
        | cons y ys => cases hz
    | so h hd hne => subst hz; exact fin H2 _ vs2 k2 h hd hne (ko2 _ rfl) l2 R2 r2
  · have fin2 : ∀ {σ' : L2.St} {H' : Hp} {v : V} {u : Value}, Inv (cxS (L2N.CX P w) P w K mg base ("self" :: ps') qual scope f (.ref cda) cc A outer s H E) [] σ' H' s' → RelV v u → Q v H' → CE outer P w H s Q u s' :=
      fun {σ' H' v u} J rv q => ⟨v, H', J.os, J.bare, J.base, J.hok, rv, q⟩
    cases fl with
    | ret u => obtain ⟨v, σ', H', J, rv, q⟩ := hs; exact fin2 J rv q
    | next => obtain ⟨σ', H', J, q⟩ := hs; exact fin2 (v := V.non) (u := Value.none) J rfl q
    | brk => obtain ⟨_, _, _, q⟩ := hs; exact False.elim q
    | cont => obtain ⟨_, _, _, q⟩ := hs; exact False.elim q

/-! ### raise C(e, ..) -/
def sRaiseX (c n : Nat) (ns : List Str) (f : List D → List D) (ma : AM) : SM := fun e M => match ma e M with
  | .ok ds M1 => if ds.length = n then .ex c ns (f ds) e M1 else .bad
  | .exc c ns ds M1 => .ex c ns ds e M1
  | .bad => .bad
section
variable {X : Cx} {g : Wd} {W : WY} {e : Expr} {es : List Expr} {ma : AM} {c n k : Nat} {x : Str} {fI : Addr} {fd : FuncData} {ps ns : List Str} {f : List D → List D} {p pos pos2 : Pos}
theorem passes_no : Passes (L2N.CX X.prog X.w) X (fun _ _ _ => False) := fun _ _ _ _ _ _ _ h => by
  obtain ⟨_, _, _, _, _, _, _, _, _, _, _, _, z⟩ := h
  exact z.elim
theorem mk_endN {pins : List (Addr × Obj)} {σ : L2.St} {H1 H2 : Hp} {Q : XK} {hp hp2 h2 : Heap} {g1 g2 : Array GenState} {d1 d2 : Drawn} {t1 t2 : Nat} {os1 os2 : OsState} {a C d : Addr} {fs : List (Str × V)} (T : Raises X (.ref C)) (I1 : Inv X pins σ H1 ⟨hp, g1, d1, t1, os1⟩)
    (ha : hp.objs.size ≤ a) (k : ∀ b o, hp.get? b = some o → hp2.get? b = some o) (un : Un (frs X.stack) [] (upd H1 a (exo a C none)) H2 hp2 h2) (hok : HOk X.prog X.w H2 h2) (ho : os2 = os1) (hb : AllBare g2)
    (ea : H2 a = some (exo a C (some d))) (ed : H2 d = some (exd d fs)) (hd1 : H1 d = none) (q : Q (.ref C) (some d) (upd (del H2 a) d (.xd fs))) : L2N.MkP X pins σ Q (.ref a) ⟨h2, g2, d2, t2, os2⟩ := by
  obtain ⟨t0, G, J, kG, ge, hoe, na⟩ := mk_end0 (d2 := d2) (t2 := t2) I1 ha k un hok ho hb ea ed hd1
  exact ⟨a, _, _, ⟨G, g2, d2, t2, os2⟩, _, .ref C, some d, rfl, J, kG, ge, hoe, ⟨rfl, rfl, fun vs e => by cases e; rfl⟩, rfl, rfl, na, rfl, hb, T, q⟩
/-- an exception's object and its tuple of what was handed in, laid -/
theorem exc_begun {pins : List (Addr × Obj)} {σ : L2.St} {H : Hp} {hp : Heap} {gs : Array GenState} {dr : Drawn} {tk : Nat} {os : OsState} (us : List Value) (C : Addr) (I : Inv X pins σ H ⟨hp, gs, dr, tk, os⟩) :
    (∀ b o, hp.get? b = some o → ((hp.push (PySem.W.kdv_tup us)).push (PySem.HandSPX.excO C hp.objs.size)).get? b = some o) ∧
    Inv X pins σ (upd H (hp.objs.size + 1) (exo (hp.objs.size + 1) C none)) ⟨(hp.push (PySem.W.kdv_tup us)).push (PySem.HandSPX.excO C hp.objs.size), gs, dr, tk, os⟩ := by
  have keep : ∀ b o, hp.get? b = some o → ((hp.push (PySem.W.kdv_tup us)).push (PySem.HandSPX.excO C hp.objs.size)).get? b = some o := fun _ _ z => Heap.get?_push_of_some _ (Heap.get?_push_of_some _ z)
  exact ⟨keep, I.laid (t' := tk) (a := hp.objs.size + 1) (o := exo _ C none) keep (Nat.le_succ _) (exo_ok (by heap_get))⟩
theorem pmk_oexN {sp : Sp} {C : Addr} {ta : TA} (T : OexC X.K C) (iC : PySem.W.findIn X.K (.ref C) "__init__" = some (some (.ref fI))) (tI : PySem.W.typeIn X.K (.ref fI) = some (.type "function"))
    (F1 : FnOk X.prog X.w X.K X.mg X.base (L2N.CX X.prog X.w) k fI fd ps sp) (hr : Room (k + 1) X.A) (hb : Binds X.K fd ps []) (hg : Gl X x) (hm : X.mg x = some (.ref C)) (ha : PA X (e :: es) ta)
    (hdb : (x == ("__debug__" : Str)) = false := by decide) (he : starEach (e :: es) X.env = (false, eval e X.env) :: starEach es X.env := by rfl) (hpl : (backTo pos (starEach es X.env)).any (·.1) = false := by rfl) :
    L2N.PMk X (.Call (.Name x p) (e :: es) [] pos) (tMkO C sp [] ta) := by
  intro pins s σ H Q I h
  have ⟨_, _, _, _, bm, _, _, _, _, _, _, _, _, _, _, hC, hbm⟩ := T.cls
  refine wpAny_Call_Name_kw (ld_glob I hg hm (PySem.W.callWith_K (h₀ := X.base) I.ok.mod.kin T.kC (thn (ha.run pos pins s σ H _ I h) fun us s1 h1 => ?_) he hpl) hdb)
  obtain ⟨vs, H1, I1, r1, hz, q1⟩ := h1
  refine ⟨I1.kIn, ?_⟩
  have first := q1 _ (I1.hok.fresh (Nat.le_succ s1.heap.objs.size))
  obtain ⟨hp, g, dr, tk, os⟩ := s1
  have hsz : hp.objs.size ≤ hp.objs.size + 1 := Nat.le_succ _
  have hn : H1 (hp.objs.size + 1) = none := I1.hok.fresh hsz
  obtain ⟨kk, I2⟩ := exc_begun us C I1
  have hq : sp (.ref (hp.objs.size + 1) :: vs) _ _ _ := List.append_nil vs ▸ first
  have r2 : Vals (V.ref (hp.objs.size + 1) :: vs) (Value.ref (hp.objs.size + 1) :: us) := .cons rfl r1
  have hbb := hb _ (Value.ref (hp.objs.size + 1) :: us) I2.kIn (by simpa using r2.length.symm.trans (F1.len _ _ _ _ hq))
  have hus : us.length ≤ sizeLine := Paired.length r1 ▸ (by rw [sizeLine_eq]; omega)
  rw [List.append_nil] at hbb
  refine wpAny_call (PySem.HandSPX.call_own F.excBase_ValueError (fun Y => PySem.HandSPX.refsVE_contains Y bm hbm) (I1.kIn _ _ hC) (PySem.W.looks_findIn I1.kIn iC) (fun self => PySem.W.bind_fn I1.kIn self tI) hus
    (codeAny_mono (F1.run _ X.stack _ _ ⟨Value.ref (hp.objs.size + 1) :: us, []⟩ (Value.ref (hp.objs.size + 1) :: us) _ _ (fun _ _ _ => False) (hr.make C us []) (I2.env0.make C us []) hbb r2 hq) fun r s' hq' => ?_))
  match r, hq' with
  | .error er, hq' => exact passes_no pins σ _ _ er s' I2 hq'
  | .ok .next, hq' | .ok .brk, hq' | .ok .cont, hq' => exact hq'.elim
  | .ok (.ret u), hq' =>
    obtain ⟨v, H2, os2, bare2, un2, hok2, rv, rfl, d, fs, ea, ed, hd1, q2⟩ := hq'
    exact ⟨rv, mk_endN (raises_own T.exC T.tyC) I1 hsz kk un2 hok2 os2 bare2 ea ed hd1 q2⟩
theorem pmk_oex0 {sp : Sp} {C : Addr} (T : OexC X.K C) (iC : PySem.W.findIn X.K (.ref C) "__init__" = some (some (.ref fI))) (tI : PySem.W.typeIn X.K (.ref fI) = some (.type "function"))
    (F1 : FnOk X.prog X.w X.K X.mg X.base (L2N.CX X.prog X.w) k fI fd ps sp) (hr : Room (k + 1) X.A) (hb : Binds X.K fd ps []) (hg : Gl X x) (hm : X.mg x = some (.ref C))
    (hdb : (x == ("__debug__" : Str)) = false := by decide) :
    L2N.PMk X (.Call (.Name x p) [] [] pos) (tMkO C sp [] tNil) := by
  intro pins s σ H Q I h
  obtain ⟨nm, q, N, bs, bm, sn, sub, ab, col, dd, k0, k1, k2, k3, k5, hC, hbm⟩ := T.cls
  refine wpAny_Call_Name_kw (ld_glob I hg hm ?_ hdb)
  refine PySem.W.callWith_K0 I.kIn T.kC ?_
  show wpAny _ _ (call (.ref C) []) _ _ _
  obtain ⟨hz, q1⟩ := h
  obtain ⟨hp, g, dr, tk, os⟩ := s
  have hsz : hp.objs.size ≤ hp.objs.size + 1 := Nat.le_succ _
  have hn : H (hp.objs.size + 1) = none := I.hok.fresh hsz
  have hq := q1 (hp.objs.size + 1) hn
  have kk : ∀ b o, hp.get? b = some o → ((hp.push (PySem.W.kdv_tup [])).push (PySem.HandSPX.excO C hp.objs.size)).get? b = some o := fun b o e => Heap.get?_push_of_some _ (Heap.get?_push_of_some _ e)
  have hget : ((hp.push (PySem.W.kdv_tup [])).push (PySem.HandSPX.excO C hp.objs.size)).get? (hp.objs.size + 1) = some (PySem.HandSPX.excO C hp.objs.size) := by heap_get
  have I2 : Inv X pins σ (upd H (hp.objs.size + 1) (exo (hp.objs.size + 1) C none)) ⟨(hp.push (PySem.W.kdv_tup [])).push (PySem.HandSPX.excO C hp.objs.size), g, dr, tk, os⟩ :=
    I.laid (t' := tk) (a := hp.objs.size + 1) (o := exo (hp.objs.size + 1) C none) (h' := (hp.push (PySem.W.kdv_tup [])).push (PySem.HandSPX.excO C hp.objs.size)) kk hsz (exo_ok hget)
  have r2 : Vals (V.ref (hp.objs.size + 1) :: []) (Value.ref (hp.objs.size + 1) :: []) := .cons rfl .nil
  have hl : ([Value.ref (hp.objs.size + 1)] ++ []).length = ps.length := by
    have e := F1.len _ _ _ _ hq
    simpa using e
  refine wpAny_call (PySem.HandSPX.call_own F.excBase_ValueError (fun Y => PySem.HandSPX.refsVE_contains Y bm hbm) (I.kIn _ _ hC) (PySem.W.looks_findIn I.kIn iC) (fun self => PySem.W.bind_fn I.kIn self tI) (Nat.zero_le _)
    (codeAny_mono (F1.run _ X.stack _ _ ⟨[Value.ref (hp.objs.size + 1)], []⟩ [Value.ref (hp.objs.size + 1)] _ _ (fun _ _ _ => False) (hr.make C [] []) (I2.env0.make C [] []) (hb _ [Value.ref (hp.objs.size + 1)] I2.kIn hl) r2 hq) fun r s' hq' => ?_))
  cases r with
  | error er => exact passes_no pins σ _ _ er s' I2 hq'
  | ok fl =>
    cases fl with
    | ret u =>
      obtain ⟨v, H2, os2, bare2, un2, hok2, rv, ev, d, fs, ea, ed, hd1, q2⟩ := hq'
      subst ev
      obtain ⟨h2, g2, d2, t2, os'⟩ := s'
      exact ⟨rv, mk_endN (raises_own T.exC T.tyC) I hsz kk un2 hok2 os2 bare2 ea ed hd1 q2⟩
    | next => exact False.elim hq'
    | brk => exact False.elim hq'
    | cont => exact False.elim hq'
theorem raiseX_imp {E : Ends} {σ : L2.St} {H : Hp} {t : TA} (hnn : ns ≠ []) (hn : n ≤ 100) (hlen : ∀ ds : List D, ds.length = n → (f ds).length = ns.length) (ht : ∀ σ H Q, tA g W ma σ H Q → t σ H Q) (q : tS g W (sRaiseX c n ns f ma) E σ H) : tMkO (g.ca c) (spX g c n ns f) [] t σ H (fun cls d H' => W.w cls d σ H') := by
  obtain ⟨F, e, M, RS, q⟩ := q
  refine ht σ H _ ⟨F, e, M, RS, ?_⟩
  unfold sRaiseX at q
  cases hm : ma e M with
  | bad => rw [hm] at q; exact q
  | exc c' ns' ds' M' =>
    rw [hm] at q
    exact fun F' H' d g1 Rm x => q F' H' σ d g1 Rm (RS.e.mono g1 RS.m.good) x
  | ok ds M1 =>
    rw [hm] at q
    dsimp only at q
    intro F1 H1 vs g1 R1 rs
    by_cases hl : ds.length = n
    · rw [if_pos hl] at q
      have hvl : vs.length = n := by rw [← rs.length]; exact hl
      refine ⟨by omega, fun a ha => ⟨by simp [hvl], a, vs, F1, M1, ds, by simp, upd_same, ?_, ?_, ?_⟩⟩
      · exact (R1.still ha).2
      · exact rs.mono (R1.still ha).1 R1.good
      · intro H2 d us k2 ea ed hda hd hul R2 r2
        have hd1 : H1 d = none := by rw [upd_ne hda] at hd; exact hd
        refine ⟨rfl, d, _, ea, ed, hd1, ?_⟩
        have kk : ∀ b o, H2 b = some o → NExt o → upd (del H2 a) d (.xd (ns.zip us)) b = some o := fun b o hb hx => by
          have b1 : b ≠ a := fun z => by rw [z, ea] at hb; exact hx _ (Option.some.inj hb).symm
          have b2 : b ≠ d := fun z => by rw [z, ed] at hb; exact hx _ (Option.some.inj hb).symm
          rw [upd_ne b2, del_ne b1]; exact hb
        have gr : Grow F1 H1 F1 (upd (del H2 a) d (.xd (ns.zip us))) := ⟨List.prefix_refl _, fun b o hb hf => by
          have b1 : b ≠ a := fun z => by rw [z, ha] at hb; cases hb
          have b2 : b ≠ d := fun z => by rw [z, hd1] at hb; cases hb
          rw [upd_ne b2, del_ne b1]
          exact k2 b o b1 (.inl hf) (by rw [upd_ne b1]; exact hb), fun b hb => .inl hb, fun b o hb hf => by
          have b1 : b ≠ a := fun z => by rw [z, ha] at hb; cases hb
          have b2 : b ≠ d := fun z => by rw [z, hd1] at hb; cases hb
          rw [upd_ne b2, del_ne b1]
          exact k2 b o b1 (.inr hf) (by rw [upd_ne b1]; exact hb)⟩
        exact q F1 _ σ (some d) (g1.trans gr) (R2.ext kk) (RS.e.mono (g1.trans gr) RS.m.good) (.so upd_same hnn hul (r2.ext kk))
    · rw [if_neg hl] at q; exact q.elim
theorem ds_raiseX (T : OexC X.K (g.ca c)) (iC : PySem.W.findIn X.K (.ref (g.ca c)) "__init__" = some (some (.ref fI))) (tI : PySem.W.typeIn X.K (.ref fI) = some (.type "function"))
    (F1 : FnOk X.prog X.w X.K X.mg X.base (L2N.CX X.prog X.w) k fI fd ps (spX g c n ns f)) (hr : Room (k + 1) X.A) (tk : L2N.Takes X W.w) (hb : Binds X.K fd ps []) (hm : X.mg x = some (.ref (g.ca c))) (ha : PA X (e :: es) (tA g W ma)) (hnn : ns ≠ [] := by decide) (hn : n ≤ 100 := by decide) (hlen : ∀ ds : List D, ds.length = n → (f ds).length = ns.length := by exact fun _ _ => rfl)
    (hc : X.calm = true := by rfl) (hg : Gl X x := by rfl) (hdb : (x == ("__debug__" : Str)) = false := by decide) (he : starEach (e :: es) X.env = (false, eval e X.env) :: starEach es X.env := by rfl) (hpl : (backTo pos (starEach es X.env)).any (·.1) = false := by rfl) :
    PS X (.Raise (some (.Call (.Name x p) (e :: es) [] pos)) none pos2) (tS g W (sRaiseX c n ns f ma)) :=
  ps_imp (L2N.ps_raise hc tk (pmk_oexN T iC tI F1 hr hb hg hm ha hdb he hpl)) fun E σ H q => raiseX_imp hnn hn hlen (fun _ _ _ q => q) q
theorem ds_raiseX0 (T : OexC X.K (g.ca c)) (iC : PySem.W.findIn X.K (.ref (g.ca c)) "__init__" = some (some (.ref fI))) (tI : PySem.W.typeIn X.K (.ref fI) = some (.type "function"))
    (F1 : FnOk X.prog X.w X.K X.mg X.base (L2N.CX X.prog X.w) k fI fd ps (spX g c n ns f)) (hr : Room (k + 1) X.A) (tk : L2N.Takes X W.w) (hb : Binds X.K fd ps []) (hm : X.mg x = some (.ref (g.ca c))) (hnn : ns ≠ [] := by decide) (hn : n ≤ 100 := by decide) (hlen : ∀ ds : List D, ds.length = n → (f ds).length = ns.length := by exact fun _ _ => rfl)
    (hc : X.calm = true := by rfl) (hg : Gl X x := by rfl) (hdb : (x == ("__debug__" : Str)) = false := by decide) :
    PS X (.Raise (some (.Call (.Name x p) [] [] pos)) none pos2) (tS g W (sRaiseX c n ns f eNil)) :=
  ps_imp (L2N.ps_raise hc tk (pmk_oex0 T iC tI F1 hr hb hg hm hdb)) fun E σ H q => raiseX_imp (t := tNil) hnn hn hlen (fun σ H Q ⟨F, e, M, RS, q⟩ => q.here RS.m .nil) q
end
end T2
namespace T2
open PySem L2 PyProof.Rows

/-! ### within a suite: isinstance(n, C) and n.f, n an exception with fields -/
def eXIsF (b : Option Bool) : EM := fun _ M => match b with
  | some b => .ok (.bl b) M
  | none => .bad
def eXFld (b : Bool) (f : Str) (ns : List Str) (ds : List D) : EM := fun _ M => if b = true then match fieldOf f ns ds with
  | some d => .ok d M
  | none => .bad else .bad
section
variable {X : Cx} {g : Wd} {W : WY} {a b : Expr} {pos p apos : Pos} {m1 m2 m3 : EM} {ma : AM} {es : List Expr} {s1 : SM}
theorem call_isF {a D : Addr} {oe : Obj} {odx : Option Obj} {pn : List (Addr × Obj)} (C : ExcC X.K D) (hz : oe.cls = .ref D) (hf : ∃ vs, oe.data = .fields vs) {Hc : Hp → Prop} (ho : ∀ pins σ H s, Inv (X.suite a ((a, oe) :: pn)) pins σ H s → Hc H → ∃ od, PySem.W.InstAt s.heap a oe D od) :
    CallR (X.suite a ((a, oe) :: pn)) (.builtin "isinstance") (fun xs H Q => Hc H ∧ rIsE X.K D a xs H Q) := by
  intro pins s σ H xs us Q I r h
  obtain ⟨hc, c, cv, b, rfl, hcv, e, q⟩ := h
  cases r with
  | cons rx rr =>
    cases rr with
    | cons rt rr =>
      cases rr; cases rx
      obtain rfl := hcv _ rt
      obtain ⟨od, J⟩ := ho pins σ H s I hc
      have hcl : (PySem.W.clsIn X.K D).isSome = true := by
        obtain ⟨cd, h, _⟩ := PySem.W.any_some C.hd
        rw [h]; rfl
      exact PySem.W.kia_one (PySem.W.kitx_exc hcl C.hg C.hk C.hs C.ha C.hn C.ht C.hm) I.kIn J e (fun z => nomatch z) fun tk => ⟨.bl b, H, I.kept (t' := tk) fun _ _ z => z, rfl, q⟩
theorem inst_suite {ad : Addr} {oe : Obj} {c : Nat} {d : Option Addr} {pn : List (Addr × Obj)} {ns : List Str} {ds : List D} (hz : L2N.Zn (.ref (g.ca c)) d oe) (hf : ∃ vs, oe.data = .fields vs) (pins : List (Addr × Obj)) (σ : L2.St) (H : Hp) (s : Shared) (I : Inv (X.suite ad ((ad, oe) :: pn)) pins σ H s) (hx : ∃ F, XRep g F H ns ds d) :
    ∃ od, PySem.W.InstAt s.heap ad oe (g.ca c) od := by
  obtain ⟨hget, _⟩ := I.pin (ad, oe) (List.mem_append.mpr (.inl List.mem_cons_self))
  obtain ⟨vs, hv⟩ := hf
  obtain ⟨F, hx⟩ := hx
  have hn : PySem.W.notCls oe = true := by unfold PySem.W.notCls; rw [hv] <;> rfl
  cases hx with
  | no => exact ⟨none, hget, hz.1, hn, by rw [hz.2.1]; trivial⟩
  | so h hne hl r =>
    have hx : ObjOk X.prog X.w H s.heap _ (.xd _) := I.hok _ _ h
    obtain ⟨mA, hns, hr⟩ := hx
    obtain ⟨od, ho, hl⟩ := lookIn_ns hns
    exact ⟨some od, hget, hz.1, hn, by rw [hz.2.1]; exact ho⟩
theorem de_xisF {i : Nat} {ad : Addr} {oe : Obj} {c k : Nat} {d : Option Addr} {pn : List (Addr × Obj)} {ns : List Str} {ds : List D} {n x : Str} {p1 p2 : Pos} {isx : Nat → Option Bool} (hE : ∀ c bb, isx c = some bb → ExcC X.K (g.ca c) ∧ PySem.W.kitOne X.K (.ref (g.ca c)) (.ref (g.ca k)) = some bb) (hz : L2N.Zn (.ref (g.ca c)) d oe) (hf : ∃ vs, oe.data = .fields vs)
    (hm : X.mg "isinstance" = none) (gC : X.mg x = some (.ref (g.ca k)))
    (hN : X.N[i]? = some n := by rfl) (hv : Vis X.env.scope n := by first | exact Or.inl rfl | exact Or.inr (Or.inl rfl) | exact Or.inr (Or.inr rfl)) (hdn : (n == ("__debug__" : Str)) = false := by decide) (hcd : (n == ("__classdict__" : Str)) = false := by decide) (hg : Gl (X.suite ad ((ad, oe) :: pn)) "isinstance" := by rfl) (hgx : Gl (X.suite ad ((ad, oe) :: pn)) x := by rfl)
    (he : starEach [.Name n p1, .Name x p2] X.env = (false, eval (.Name n p1) X.env) :: starEach [.Name x p2] X.env := by rfl) (he2 : starEach [.Name x p2] X.env = (false, eval (.Name x p2) X.env) :: starEach [] X.env := by rfl) (hpl : (backTo pos (starEach [.Name x p2] X.env)).any (·.1) = false := by rfl) (hdx : (x == ("__debug__" : Str)) = false := by decide) :
    PE (X.suite ad ((ad, oe) :: pn)) (.Call (.Name "isinstance" p) [.Name n p1, .Name x p2] [] pos) (tD g (WS i ad ns ds d) (eXIsF (isx c))) := by
  refine ⟨fun pins s σ H Q I ⟨F, e, M, RS, q⟩ => ?_⟩
  cases hx : isx c with
  | none => rw [hx] at q; exact q.elim
  | some bb =>
    rw [hx] at q
    obtain ⟨EC, kt⟩ := hE c bb hx
    have xr : XRep g F H ns ds d := RS.y (ns, ds, d) (by simp)
    refine (pe_callB (X := X.suite ad ((ad, oe) :: pn)) (call_isF (odx := none) EC hz.1 hf (Hc := fun H => ∃ F, XRep g F H ns ds d) (inst_suite hz hf)) hg hm (by decide +kernel) (pa_cons (pe_var (i := i) hN hv hdn hcd) (pa_cons (pe_glob (X := X.suite ad ((ad, oe) :: pn)) (v := .ref (g.ca k)) hgx gC rfl hdx) pa_nil he2) he) (by decide) (by decide) he hpl).run pins s σ H Q I ?_
    exact ⟨.ref ad, RS.x (i, ad) (by simp), ⟨F, xr⟩, .ref (g.ca k), .ref (g.ca k), bb, rfl, fun u r => r, kt, q.here RS.m (.bl _)⟩
theorem de_xfld {i : Nat} {ad : Addr} {oe : Obj} {c : Nat} {d : Option Addr} {pn : List (Addr × Obj)} {ns : List Str} {ds : List D} {n f : Str} {p1 : Pos} {xf : Nat → Bool} (hE : ∀ c, xf c = true → XfC X.K (g.ca c) ∧ PySem.W.findIn X.K (.ref (g.ca c)) f = some none) (hz : L2N.Zn (.ref (g.ca c)) d oe) (hf : ∃ vs, oe.data = .fields vs)
    (hN : X.N[i]? = some n := by rfl) (hv : Vis X.env.scope n := by first | exact Or.inl rfl | exact Or.inr (Or.inl rfl) | exact Or.inr (Or.inr rfl)) (hdn : (n == ("__debug__" : Str)) = false := by decide) (hcd : (n == ("__classdict__" : Str)) = false := by decide)
    (hb : attributeBase (.Name n p1) f X.env (eval (.Name n p1) X.env) = eval (.Name n p1) X.env := by rfl) :
    PE (X.suite ad ((ad, oe) :: pn)) (.Attribute (.Name n p1) f pos) (tD g (WS i ad ns ds d) (eXFld (xf c) f ns ds)) := by
  refine ⟨fun pins s σ H Q I ⟨F, e, M, RS, q⟩ => ?_⟩
  unfold eXFld at q
  by_cases hx : xf c = true
  · rw [if_pos hx] at q
    obtain ⟨T, hno⟩ := hE c hx
    refine (pe_xf (X := X) (a := ad) (pn := pn) T hno hz.zc hf (pe_var (X := X.suite ad ((ad, oe) :: pn)) (i := i) hN hv hdn hcd) hb).run pins s σ H Q I ?_
    have xr : XRep g F H ns ds d := RS.y (ns, ds, d) (by simp)
    cases hq : fieldOf f ns ds with
    | none => rw [hq] at q; exact q.elim
    | some y =>
      rw [hq] at q
      cases xr with
      | no => cases hq
      | so h hne hl r =>
        obtain ⟨v, hlv, rv⟩ := field_rep r hq
        exact ⟨.ref ad, RS.x (i, ad) (by simp), rfl, rfl, _, _, v, rfl, h, hlv, q.here RS.m rv⟩
  · rw [if_neg hx] at q; exact q.elim

/-! ### try: body, except C: suite -/
def sTry0 (ct : Nat → Option Bool) (body : SM) (suite : SM) : SM := fun e M => match body e M with
  | .ex c ns ds e1 M1 => match ct c with
    | some true => match suite e1 M1 with
      | .ex _ _ _ _ _ => .bad
      | r => r
    | some false => .ex c ns ds e1 M1
    | none => .bad
  | r => r
theorem ds_try0 {x : Str} {np pos' : Pos} {body sts : List Stmt} {b0 : Stmt} {h : Nat} {ct : Nat → Option Bool} {suite : SM} (px : W.p = ⟨[], []⟩) (gC : X.mg x = some (.ref (g.ca h))) (hct : ∀ c bb, ct c = some bb → PySem.W.exmOne X.K (.ref (g.ca c)) (.ref (g.ca h)) = some bb) (tk : L2N.Takes X W.w)
    (hb : ∀ (w1 : WX) (pn : List (Addr × Obj)) (xe : Value → Shared → Prop), L2N.Takes (X.tr pn xe) w1 → PassesOwn (model X.prog X.w) X.A X.env xe → PSs (X.tr pn xe) body (tS g ⟨w1, W.p⟩ s1))
    (hsu : ∀ (ad : Addr) (oe : Obj) (pn : List (Addr × Obj)), L2H.HotC (X.suite ad ((ad, oe) :: pn)) → PSs (X.suite ad ((ad, oe) :: pn)) (b0 :: sts) (tS g WN suite))
    (hs : X.stack = X.env :: X.outer := by rfl) (hf : X.env.frame = some X.env.locals := by rfl) (hg : Gl X x := by rfl) (hdb : (x == ("__debug__" : Str)) = false := by decide) :
    PS X (.Try body [.ExceptHandler (some (.Name x np)) none (b0 :: sts) pos'] [] [] pos) (tS g W (sTry0 ct s1 suite)) := by
  refine ps_imp (L2N.ps_try_many (tb := fun W1 => tS g ⟨W1, W.p⟩ s1) (Wout := W.w) (l := [(.ref (g.ca h), fun _ _ _ => tS g WN suite)]) hs hf tk (fun W1 pn xe t po => hb W1 pn xe t po) (.cons ⟨hg, hdb, .inl gC⟩ (fun ad oe cls d pn hz hv => hsu ad oe pn ?_) .nil)) ?_
  · obtain ⟨vs, hv⟩ := hv
    exact ⟨(ad, oe), ⟨rfl, vs, hv, hz.2.2 vs hv⟩, List.mem_cons_self⟩
  · rintro E σ H ⟨F, e, M, RS, q⟩
    refine ⟨F, e, M, RS, ?_⟩
    unfold sTry0 at q
    cases hm : s1 e M with
    | nx e1 M1 => rw [hm] at q; exact q
    | rt d M1 => rw [hm] at q; exact q
    | bk e1 M1 => rw [hm] at q; exact q
    | ct e1 M1 => rw [hm] at q; exact q
    | bad => rw [hm] at q; exact q
    | ex c ns ds e1 M1 =>
      rw [hm] at q
      intro F1 H1 σ1 d g1 R1 E1 x1
      dsimp only at q
      cases hc : ct c with
      | none => rw [hc] at q; exact q.elim
      | some bb =>
        rw [hc] at q
        refine ⟨bb, hct c bb hc, fun hbb ad had => ?_, fun hbb => ?_⟩
        · subst hbb
          dsimp only at q
          refine ⟨F1, e1, M1, ⟨R1, E1, pin_nil, xrs_nil⟩, ?_⟩
          have q := q.up g1
          cases hs2 : suite e1 M1 with
          | nx e2 M2 => rw [hs2] at q; exact fun F2 H2 σ2 g2 R2 E2 _ => q F2 H2 _ g2 R2 E2 (by rw [px]; exact pin_nil)
          | bk e2 M2 => rw [hs2] at q; exact fun F2 H2 σ2 g2 R2 E2 _ => q F2 H2 _ g2 R2 E2 (by rw [px]; exact pin_nil)
          | ct e2 M2 => rw [hs2] at q; exact fun F2 H2 σ2 g2 R2 E2 _ => q F2 H2 _ g2 R2 E2 (by rw [px]; exact pin_nil)
          | rt d2 M2 => rw [hs2] at q; exact q
          | ex => rw [hs2] at q; exact q.elim
          | bad => rw [hs2] at q; exact q.elim
        · subst hbb
          exact q F1 H1 σ1 d g1 R1 E1 x1

/-! ### defs called where an exception is handled -/
variable {k n : Nat} {f : Addr} {fd : FuncData} {ps : List Str} {m : List D → MH → Res D} {x : Str}
theorem hot_suite {ad : Addr} {oe : Obj} {pn : List (Addr × Obj)} {cls : Value} {d : Option Addr} (hz : L2N.Zn cls d oe) (hf : ∃ vs, oe.data = .fields vs) : L2H.HotC (X.suite ad ((ad, oe) :: pn)) := by
  obtain ⟨vs, hv⟩ := hf
  exact ⟨(ad, oe), ⟨rfl, vs, hv, hz.2.2 vs hv⟩, List.mem_cons_self⟩
theorem room_suite {ad : Addr} {pn : List (Addr × Obj)} (hr : Room k X.A) : L2H.RoomH k (X.suite ad pn).A := L2H.roomH_mark hr _
theorem de_callH (G : L2H.FnH X.prog X.w X.K X.mg X.base (L2N.CX X.prog X.w) k f fd ps (spD g n m)) (hr : L2H.RoomH k X.A) (hc : L2H.HotC X) (tk : L2N.Takes X W.w) (hm : X.mg x = some (.ref f)) (hk : PySem.W.keepIn X.K (.ref f) = true) (hb : Binds X.K fd ps []) (ha : PA X (a :: es) (tA g W ma)) (hg : Gl X x := by rfl)
    (hdb : (x == ("__debug__" : Str)) = false := by decide) (he : starEach (a :: es) X.env = (false, eval a X.env) :: starEach es X.env := by rfl) (hpl : (backTo pos (starEach es X.env)).any (·.1) = false := by rfl) : PE X (.Call (.Name x p) (a :: es) [] pos) (tD g W (eCall n m ma)) :=
  pe_imp (L2H.pe_callH G hr hc hg hm hk hb (fun σ => L2N.passAt tk σ) ha hdb he hpl) fun σ H Q q => call_imp q
theorem ds_forH {tgE iter : Expr} {sts : List Stmt} {wi : TI} {it : Env2 → MH → Res IV} {gt : TG} {tg : TgM} (px : ∀ σ, Pin W.p.xs σ) (po : PassesOwn (model X.prog X.w) X.A X.env X.xe) (hc : L2H.HotC X) (hi : L2H.PIH X tgE iter wi) (hsim : ItSim g W it wi) (hg : PG X tgE gt) (ts : TgSim g tg gt) (hb : PSs X sts (tS g W s1))
    (hs : ∀ x, foldedSetIterable iter X.env x = pure x := by intro _; rfl) : PS X (.For tgE iter sts [] pos) (tS g W (sForI it tg s1)) :=
  ps_imp (L2H.ps_forH po hc hi hg hb hs) fun E σ H ⟨F, e, M, RS, q⟩ => hsim σ H F e M _ RS (by
    unfold sForI at q
    cases hm : it e M with
    | ok iv M1 =>
      rw [hm] at q
      cases iv with
      | vals ds => exact fun F1 H1 J g1 R1 itv => forV_run px (RS.up g1 R1) itv ts (q.up g1)
      | live n =>
        dsimp only at q
        split at q
        · rename_i ds hd
          exact ⟨ds, hd, fun F1 H1 ad g1 R1 hn => forL_run px (RS.up g1 R1) hn ts (q.up g1)⟩
        · exact q.elim
    | exc c ns ds M1 => rw [hm] at q; exact fun F1 H1 d g1 R1 x => q F1 H1 σ d g1 R1 (RS.up g1 R1).e x
    | bad => rw [hm] at q; exact q)
end
theorem fn_badH {P : Program} {w : World} {K : PySem.W.Frag} {mg : Str → Option Value} {base : Heap} {CX : CXT} {k n : Nat} {f : Addr} {fd : FuncData} {ps : List Str} {g : Wd} (h : ps.length = n) : L2H.FnH P w K mg base CX k f fd ps (spD g n fun _ _ => .bad) :=
  ⟨fun vs H Q E q => by rw [q.1, h], fun A outer s H args us vs Q E p _ _ _ _ _ _ hs => by obtain ⟨_, _, _, _, _, _, q⟩ := hs; exact q.elim⟩
theorem fn_okH {P : Program} {w : World} {K : PySem.W.Frag} {mg : Str → Option Value} {base : Heap} {g : Wd} {x qual : Str} {st : Stmt} {f : Addr} {fd : FuncData} {N ps : List Str} {k : Nat} {b : SM} (F : Fun K x qual st f fd) (S : FnScope N ps (defScope st))
    (hbody : ∀ (cdv : Value) (A : Around) (outer : List Env) (s : Shared) (H : Hp) (E : XK) (p : Addr × Obj), L2H.RoomH k (A.deeper (PyProof.Rows.envOfC qual (defScope st) s.heap.objs.size f cdv)) →
      L2H.HotC (L2H.cxH (L2N.CX P w) P w K mg base N qual (defScope st) f cdv A outer s H E p) →
      L2N.Takes (L2H.cxH (L2N.CX P w) P w K mg base N qual (defScope st) f cdv A outer s H E p) (WY.mk (fun c d _ H => E c d H) ⟨[], []⟩).w →
      PassesOwn (model P w) (L2H.cxH (L2N.CX P w) P w K mg base N qual (defScope st) f cdv A outer s H E p).A (L2H.cxH (L2N.CX P w) P w K mg base N qual (defScope st) f cdv A outer s H E p).env (L2H.cxH (L2N.CX P w) P w K mg base N qual (defScope st) f cdv A outer s H E p).xe →
      PSs (L2H.cxH (L2N.CX P w) P w K mg base N qual (defScope st) f cdv A outer s H E p) (defBody st) (tS g ⟨fun c d _ H => E c d H, ⟨[], []⟩⟩ b)) : L2H.FnH P w K mg base (L2N.CX P w) (k + 1) f fd ps (spD g ps.length (fnB N.length b)) := by
  obtain ⟨oc, od, kV, doc, pm, an, cdv, ct, osl, rfl, lk, hcd⟩ := F.ex
  refine L2H.fn_ofH lk hcd S (fun vs H Q E h => h.1) fun A outer s H vs Q E p hot hr h => ⟨_, hbody cdv A outer s H E p hr ⟨p, hot, List.mem_singleton.mpr rfl⟩ (L2N.takes_of rfl rfl rfl rfl) (passes_of (X := L2H.cxH (L2N.CX P w) P w K mg base N qual (defScope st) f cdv A outer s H E p) rfl), body_run h⟩
theorem takesN0 {X : Cx} : L2N.Takes X (fun _ _ _ _ => False) := fun _ _ x => by
  obtain ⟨_, _, _, _, _, _, _, _, _, _, _, _, _, _, _, _, z⟩ := x
  exact z.elim
theorem unitsH {A : Around} {k : Nat} (hr : L2H.RoomH k A) : A.units + 64 < cLine := by have := hr.un; omega
theorem hu_ofH {A : Around} {k : Nat} (hr : L2H.RoomH k A) : A.units + 1 < cLine := by have := hr.un; omega
/-- an item of a list of values -/
def dAt (ds : List D) (i : Nat) : D := ds.getD i .non
end T2
namespace T2
open PySem L2 PyProof.Rows

/-- an own exception's __init__ in the text -/
structure OIn (P : Program) (K : PySem.W.Frag) (mg : Str → Option Value) (C : Addr) (nm qual : Str) (st : Stmt) (f : Addr) (fd : FuncData) : Prop where
  ex : ∃ cc cda oc od osl kV doc pm an ct, fd = PySem.W.ksFn nm qual (defArgs st) (defBody st) (defScope st) .none kV doc pm an (.ref cda) ct cc ∧ K.lookup f = some ⟨oc, od, .func fd, osl⟩ ∧ PySem.W.codeIn K (.ref cda) qual = true ∧ SupIn P K mg C f cc cda fd
theorem initX_ok {P : Program} {w : World} {K : PySem.W.Frag} {mg : Str → Option Value} {base : Heap} {g : Wd} {c n k : Nat} {f : Addr} {fd : FuncData} {nm qual : Str} {st : Stmt} {ps' ns : List Str}
    {txt : Str} {j : Nat} {p0 p1 p2 p3 p4 p5 : Pos} {rest : List Stmt} {l : List (Str × EM)} {acc : List D → List (Str × D)} {fm : List D → List D} {pl : Addr → Addr → Addr → Addr → Sem Bool}
    (O : OIn P K mg (g.ca c) nm qual st f fd) (S : ScopeS ("self" :: ps') ("self" :: ps') (defScope st)) (T : OexC K (g.ca c)) (hb : defBody st = supSt txt j p0 p1 p2 p3 p4 p5 :: rest) (hn : ps'.length = n)
    (he : ∀ L f cda cc, eval (.Call (.Attribute (.Call (.Name "super" p0) [] [] p1) "__init__" p2) [.Constant (.str txt) j p3] [] p4) (PySem.W.ksEnv qual (defScope st) L f (.ref cda) cc) = (do
      let ov ← attributeBase (.Call (.Name "super" p0) [] [] p1) "__init__" (PySem.W.ksEnv qual (defScope st) L f (.ref cda) cc) (eval (.Call (.Name "super" p0) [] [] p1) (PySem.W.ksEnv qual (defScope st) L f (.ref cda) cc))
      standAt p2.atName
      let (f', first) ← holding [ov] (getMethod ov "__init__" (pl L f cda cc))
      callWith p4 f' first (backTo p4 (starEach [.Constant (.str txt) j p3] (PySem.W.ksEnv qual (defScope st) L f (.ref cda) cc))) []))
    (hi : ∀ L f cda cc, interactive (PySem.W.ksEnv qual (defScope st) L f (.ref cda) cc) = false)
    (hst : ∀ cda cc A outer s H E, Sto (cxS (L2N.CX P w) P w K mg base ("self" :: ps') qual (defScope st) f (.ref cda) cc A outer s H E) g (g.ca c) rest l)
    (hev : ∀ a ds M, ds.length = n → evs (some (.obj a) :: ds.map some) M l (acc ds)) (hns : ∀ ds, ((acc ds).map (·.1)).reverse = ns) (hfm : ∀ ds, ((acc ds).map (·.2)).reverse = fm ds) (hnn : ns ≠ []) (hll : l.length ≤ 100) :
    FnOk P w K mg base (L2N.CX P w) (k + 1) f fd ("self" :: ps') (spX g c n ns fm) := by
  obtain ⟨cc, cda, oc, od, osl, kV, doc, pm, an, ct, rfl, lk, hcd, U⟩ := O.ex
  rw [hb] at lk U ⊢
  have := fnX_ok (w := w) (base := base) (k := k) (pl := fun L => pl L f cda cc) lk hcd S T U hn (fun L => he L f cda cc) (fun L => hi L f cda cc) (fun A outer s H E => hst cda cc A outer s H E) hev hns hnn hll
  rwa [show (fun ds => ((acc ds).map (·.2)).reverse) = fm from funext hfm] at this
end T2
namespace T2
open PySem L2 PyProof.Rows

/-! ### list + list -/
def rCatLS (K : PySem.W.Frag) : R2 := fun x y H Q => ∃ l b xs zs, x = .ref l ∧ y = .ref b ∧ SqL K H l xs ∧ SqL K H b zs ∧ xs.length + zs.length ≤ sizeLine ∧ ∀ p, H p = none → Q (.ref p) (upd H p (.lst (xs ++ zs)))
theorem op_catLS {X : Cx} : OpR X (binaryOp .Add) (rCatLS X.K) := by
  intro pins s σ H x y v u Q I rx ry h
  obtain ⟨l, b, xs, zs, rfl, rfl, ha, hb, hz, q⟩ := h
  cases rx; cases ry
  obtain ⟨its, r, ⟨⟨oc, od, oda, osl⟩, n, e, hc, hd, ho⟩, _⟩ := I.list ha
  obtain ⟨its2, r2, ⟨⟨oc2, od2, oda2, osl2⟩, n2, e2, hc2, hd2, ho2⟩, _⟩ := I.list hb
  dsimp only at hc hd ho hc2 hd2 ho2
  subst hc hd ho hc2 hd2 ho2
  have hl1 := r.length
  have hl2 := r2.length
  have sz : its.toArray.size + its2.toArray.size ≤ sizeLine := by rw [List.size_toArray, List.size_toArray]; omega
  refine PySem.concat_meets ⟨_, e, rfl⟩ ⟨_, e2, rfl⟩ PySem.noFill_list_add PySem.seq_list_add F.slot_list_add F.entry_list_add (F.args_list_add_2 _ _) (PyProof.Rows.list_addW l b its.toArray its2.toArray n n2 none none osl osl2 sz) ⟨e, e2, ?_⟩
  have ea : its.toArray ++ its2.toArray = (its ++ its2).toArray := by simp
  rw [ea]
  exact ⟨.ref _, _, I.lnew (t' := s.toks) (r.append r2) (by rw [List.length_append]; omega), rfl, q _ I.fresh⟩
def dCat (mk : List D → MH → Res D) (x y : D) (M : MH) : Res D := match listItems M x, listItems M y with
  | some xs, some ys => if xs.length + ys.length ≤ big then mk (xs ++ ys) M else .bad
  | _, _ => .bad
section
variable {X : Cx} {g : Wd} {W : WY} {a b : Expr} {pos : Pos} {m1 m2 : EM}
theorem listItems_at {F : List Addr} {M : MH} {H : Hp} {x : D} {v : V} {ds : List D} (R : RelM g F M H) (r : Rep g F H x v) (h : listItems M x = some ds) : ∃ a vs, v = .ref a ∧ SqL g.K H a vs ∧ Reps g F H ds vs := by
  cases r with
  | fro hf r => cases h; exact ⟨_, _, rfl, hf.sq, r⟩
  | @ref n ad hn =>
    unfold listItems at h
    dsimp only at h
    split at h
    · rename_i ys hm
      cases h
      obtain ⟨o, e, ro⟩ := R.obj n ad _ hn hm
      cases ro with | lst r => exact ⟨_, _, rfl, SqL.of e, r⟩
    · cases h
  | _ => cases h
theorem sim_cat (hK : g.K = X.K) {mk : List D → MH → Res D} (hmk : MkOk g mk) : Sim2 g (dCat mk) (rCatLS X.K) := fun F M σ H W x y v w Q R rx ry q => by
  unfold dCat at q
  split at q
  · rename_i xs ys h1 h2
    obtain ⟨a1, v1, rfl, s1, r1⟩ := listItems_at R rx h1
    obtain ⟨a2, v2, rfl, s2, r2⟩ := listItems_at R ry h2
    split at q
    · rename_i hl
      exact ⟨a1, a2, v1, v2, rfl, rfl, by rw [← hK]; exact s1, by rw [← hK]; exact s2, by rw [← r1.length, ← r2.length]; exact bigLine hl, fun p hp => hmk W F M H σ Q _ _ p R (r1.append r2) q hp⟩
    · exact q.elim
  · exact q.elim
theorem de_cat (hK : g.K = X.K) {mk : List D → MH → Res D} (hmk : MkOk g mk) (ha : PE X a (tD g W m1)) (hb : PE X b (tD g W m2)) : PE X (.BinOp a .Add b pos) (tD g W (eBin (dCat mk) m1 m2)) := de_op op_catLS (sim_cat hK hmk) ha hb
end
end T2
namespace T2
open PySem L2 PyProof.Rows

/-! ### def f(a, .., *v) -/
theorem cxUpN {P : Program} {w : World} : StX.CXUp (L2N.CX P w) := by
  rintro outer s H s2 H2 E e s' un kp ho ⟨a, B, H', cls, d, ea, fl, hok, ub, na, os, ag, he⟩
  have no : ∀ {b : Addr}, b ∉ ([] : List Addr) := fun z => by simp at z
  refine ⟨a, B, H', cls, d, ea, fl, hok, ⟨?_, ?_, ?_, ?_, ?_, ?_, ?_⟩, na, os.trans ho, ag, he⟩
  · exact fun b o q n hb => ub.keep b o (kp b o q) (un.free b o q n no) hb
  · exact fun b o q hb => ub.slot b o (kp b o q) hb
  · exact fun b o q n => ub.free b o (kp b o q) (un.free b o q n no)
  · exact fun b o q hb => ub.there b o (kp b o q) hb
  · exact fun b xs q => ub.tups b xs (un.tups b xs q)
  · exact fun b o xs q => ub.frzs b o xs (un.frzs b o xs q)
  · intro b ps q
    obtain ⟨m1, e1⟩ := un.tbls b ps q
    obtain ⟨m2, e2⟩ := ub.tbls b _ e1
    exact ⟨m1 ++ m2, by rw [e2, Array.append_assoc]⟩
def packR (n : Nat) (ds : List D) : List D := ds.take n ++ [.tup (ds.drop n)]
def spR (g : Wd) (n : Nat) (m : List D → MH → Res D) : Sp := fun vs H Q E => ∃ F M ds, RelM g F M H ∧ Reps g F H ds vs ∧ n ≤ ds.length ∧ ds.length ≤ 1000 ∧ post g rD (fun c d _ H => E c d H) F [] H (m (packR n ds) M) Q
theorem fnR_ok {P : Program} {w : World} {K : PySem.W.Frag} {mg : Str → Option Value} {base : Heap} {g : Wd} {x qual : Str} {st : Stmt} {f : Addr} {fd : FuncData} {N ps : List Str} {pv : Str} {k : Nat} {b : SM} (F : Fun K x qual st f fd) (S : FnScope N (ps ++ [pv]) (defScope st))
    (hb : ∀ us rest : List Value, us.length = ps.length → bindArgs fd ⟨us ++ rest, []⟩ = (newTuple rest >>= fun t => pure (ps.zip us ++ [(pv, t)])))
    (hbody : ∀ (cdv : Value) (A : Around) (outer : List Env) (s : Shared) (H : Hp) (E : XK), Room k (A.deeper (PyProof.Rows.envOfC qual (defScope st) s.heap.objs.size f cdv)) →
      L2N.Takes (cxOf (L2N.CX P w) P w K mg base N qual (defScope st) f cdv A outer s H E) (WY.mk (fun c d _ H => E c d H) ⟨[], []⟩).w →
      PassesOwn (model P w) (cxOf (L2N.CX P w) P w K mg base N qual (defScope st) f cdv A outer s H E).A (cxOf (L2N.CX P w) P w K mg base N qual (defScope st) f cdv A outer s H E).env (cxOf (L2N.CX P w) P w K mg base N qual (defScope st) f cdv A outer s H E).xe →
      PSs (cxOf (L2N.CX P w) P w K mg base N qual (defScope st) f cdv A outer s H E) (defBody st) (tS g ⟨fun c d _ H => E c d H, ⟨[], []⟩⟩ b)) : FnR P w K mg base (L2N.CX P w) (k + 1) f (spR g ps.length (fnB N.length b)) := by
  obtain ⟨oc, od, kV, doc, pm, an, cdv, ct, osl, rfl, lk, hcd⟩ := F.ex
  refine FnR.imp (StX.fn_star (sp := spD g (ps ++ [pv]).length (fnB N.length b)) lk hcd S cxUpN hb fun A outer s H vs Q E hr h => ⟨_, hbody cdv A outer s H E hr (L2N.takes_of rfl rfl rfl rfl) (passes_of (X := cxOf (L2N.CX P w) P w K mg base N qual (defScope st) f cdv A outer s H E) rfl), body_run h⟩) ?_
  rintro vs H Q E ⟨Fa, M, ds, R, r, hn, hz, q⟩
  have hl := r.length
  refine ⟨vs.take ps.length, vs.drop ps.length, (List.take_append_drop _ _).symm, by rw [List.length_take]; omega, by rw [List.length_drop]; exact small (by omega), fun p hp => ?_⟩
  obtain ⟨g1, R1⟩ := R.still (o := .tup (vs.drop ps.length)) hp
  refine ⟨by simp; omega, Fa, M, packR ps.length ds, R1, ?_, q.up g1⟩
  exact ((r.take _).mono g1 R.good).append (.cons (.tup (SqT.of upd_same) ((r.drop _).mono g1 R.good)) .nil)
theorem fnR_bad {P : Program} {w : World} {K : PySem.W.Frag} {mg : Str → Option Value} {base : Heap} {CX : CXT} {k n : Nat} {f : Addr} {g : Wd} : FnR P w K mg base CX k f (spR g n fun _ _ => .bad) := by
  rintro A outer s H us vs Q E _ _ _ ⟨_, _, _, _, _, _, _, q⟩
  exact q.elim
/-- *e in an argument list -/
def eStar (a : EM) (b : AM) : AM := fun e M => (a e M).bind fun x M1 => match items M1 x with
  | some ds => (b e M1).bind fun xs M2 => .ok (ds ++ xs) M2
  | none => .bad
def fCallR (n : Nat) (f : List D → MH → Res D) (ds : List D) (M : MH) : Res D := if n ≤ ds.length ∧ ds.length ≤ 1000 then f (packR n ds) M else .bad
def eCallR (n : Nat) (f : List D → MH → Res D) (a : AM) : EM := eArgs (fCallR n f) a
section
variable {X : Cx} {g : Wd} {W : WY} {a e : Expr} {es : List Expr} {pos p ps0 : Pos} {m1 : EM} {ma : AM} {k n : Nat} {f : Addr} {m : List D → MH → Res D} {x : Str}
theorem da_star (ha : PE X a (tD g W m1)) (hb : PA X es (tA g W ma)) (hK : g.K = X.K) (hs : starEach (.Starred a p :: es) X.env = (true, eval a X.env) :: starEach es X.env := by rfl) : PA X (.Starred a p :: es) (tA g W (eStar m1 ma)) :=
  pa_imp (StX.pa_star ha hb hs) fun σ H Q ⟨F, e, M, RS, q⟩ => by
    refine ⟨F, e, M, RS, q.bind fun y M1 F1 H1 v e1 g1 R1 ry q1 => ?_⟩
    cases hi : items M1 y with
    | none => rw [hi] at q1; exact q1.elim
    | some ds =>
      rw [hi] at q1
      obtain ⟨ad, vs, rfl, hsq, rs⟩ := items_at R1 ry hi
      refine ⟨ad, vs, rfl, by rw [← hK]; exact hsq.symm, F1, e, M1, RS.up g1 R1, q1.bind fun ys M2 F2 H2 w e2 g2 R2 rys q2 => ?_⟩
      exact q2.here R2 ((rs.mono g2 R1.good).append rys)
theorem run_fnRS {pins : List (Addr × Obj)} {σ : L2.St} {H : Hp} {s : Shared} {CX : CXT} {sp : Sp} {E : XK} {Q : VK} {us : List Value} {vs : List V} (F : FnR X.prog X.w X.K X.mg X.base CX k f sp) (hr : Room k X.A) (hx : PassesAt CX X σ E) (I : Inv X pins σ H s) (r : Vals vs us) (h : sp vs H Q E) :
    wpAny (model X.prog X.w) X.A (call (.ref f) us) (EP X pins σ Q) X.xe s := by
  refine wpAny_call (codeAny_mono (F X.A X.stack s H us vs Q E hr I.env0 r h) fun o s' z => ?_)
  match o, z with
  | .error e, z => exact hx pins H s e s' I z
  | .ok (.ret u), z => exact I.after z
  | .ok .next, z => exact z.elim
  | .ok .brk, z => exact z.elim
  | .ok .cont, z => exact z.elim
theorem pe_callS2S {CX : CXT} {sp : Sp} {E : L2.St → XK} {t : TA} (F : FnR X.prog X.w X.K X.mg X.base CX k f sp) (hr : Room k X.A) (hk : PySem.W.keepIn X.K (.ref f) = true) (hm : X.mg x = some (.ref f)) (hx : ∀ σ, PassesAt CX X σ (E σ)) (ha : PA X (e :: es) t) (hg : Gl X x) (hd : (x == ("__debug__" : Str)) = false)
    (he : starEach (e :: es) X.env = (false, eval e X.env) :: starEach es X.env) (hst : (backTo pos (starEach es X.env)).any (·.1) = true) : PE X (.Call (.Name x p) (e :: es) [] pos) (fun σ H Q => t σ H fun vs H1 => sp vs H1 Q (E σ)) :=
  ⟨fun pins s σ H Q I h => wpAny_Call_Name_kw (ld_glob I hg hm (PySem.W.callWith_S2 (h₀ := X.base) I.ok.mod.kin hk (thn (ha.run pos pins s σ H _ I h) fun us s1 ⟨vs, H1, I1, r, q⟩ => ⟨I1.kIn, run_fnRS F hr (hx σ) I1 r q⟩) he hst) hd)⟩
theorem callR_imp {σ : L2.St} {H : Hp} {Q : VK} (q : tD g W (eCallR n m ma) σ H Q) : tA g W ma σ H fun vs H1 => spR g n m vs H1 Q (WE W.w σ) := by
  obtain ⟨F, e, M, RS, q⟩ := q
  refine ⟨F, e, M, RS, q.bind fun ds M1 F1 H1 vs e1 g1 R1 r q1 => ?_⟩
  unfold fCallR at q1
  split at q1
  · rename_i hl; exact ⟨F1, M1, ds, R1, r, hl.1, hl.2, post_call q1⟩
  · exact q1.elim
theorem de_callR (G : FnR X.prog X.w X.K X.mg X.base (L2N.CX X.prog X.w) k f (spR g n m)) (hr : Room k X.A) (tk : L2N.Takes X W.w) (hm : X.mg x = some (.ref f)) (hk : PySem.W.keepIn X.K (.ref f) = true) (ha : PA X (e :: es) (tA g W ma)) (hg : Gl X x := by rfl) (hd : (x == ("__debug__" : Str)) = false := by decide)
    (he : starEach (e :: es) X.env = (false, eval e X.env) :: starEach es X.env := by rfl) (hst : (backTo pos (starEach es X.env)).any (·.1) = true := by rfl) : PE X (.Call (.Name x p) (e :: es) [] pos) (tD g W (eCallR n m ma)) :=
  pe_imp (pe_callS2S G hr hk hm (fun σ => L2N.passAt tk σ) ha hg hd he hst) fun σ H Q q => callR_imp q
end

/-! ### C(k = v, ..): an instance that may change, its __init__ with keyword-only parameters -/
def eMakeK (c n kk : Nat) (gD : List D → List D → List D) (f : List D → MH → Res D) (mk : AM) : EM := fun e M => (mk e M).bind fun zs M1 => if zs.length = kk then (f (gD [.ref M1.length] zs) (M1 ++ [.ob c [] []])).bind fun r M2 => match r with
  | .non => .ok (.ref M1.length) M2
  | _ => .bad else .bad
section
variable {X : Cx} {g : Wd} {W : WY} {pos p : Pos} {mk : AM} {kws : List Keyword} {k n N : Nat} {f : Addr} {fd : FuncData} {ps ks : List Str} {m : List D → MH → Res D} {x : Str} {c : Nat}
theorem run_makeKS {pins : List (Addr × Obj)} {σ : L2.St} {H : Hp} {s : Shared} {CX : CXT} {sp : Sp} {E : XK} {Q : VK} {C : Addr} {ws : List Value} {zs : List V} {gu : List Value → List Value → List Value} {gV : List V → List V → List V} (Mc : Mk X.K C f) (F : FnOk X.prog X.w X.K X.mg X.base CX k f fd ps sp) (hr : Room (k + 1) X.A) (hb : KBn X.K fd ps 1 ks gu gV) (hx : PassesAt CX X σ E)
    (I : Inv X pins σ H s) (rz : Vals zs ws) (l2 : zs.length = ks.length)
    (h : ∀ x dx, H x = none → H dx = none → dx ≠ x → sp (gV [.ref x] zs) (upd (upd H dx (.own x)) x (.ins C dx [])) (fun v H2 => v = .non ∧ Q (.ref x) H2) E) : wpAny (model X.prog X.w) X.A (call (.ref C) [] (ks.zip ws)) (EP X pins σ Q) X.xe s := by
  have hq := h (s.heap.objs.size + 1) s.heap.objs.size (I.hok.fresh (Nat.le_succ _)) (I.hok.fresh (Nat.le_refl _)) (Nat.ne_of_lt (Nat.lt_succ_self _))
  have I2 := Inv.made (C := C) I
  have r1 : Vals [V.ref (s.heap.objs.size + 1)] [Value.ref (s.heap.objs.size + 1)] := .cons rfl .nil
  refine wpAny_call (make_map (f := f) I.kIn Mc.makes Mc.init (beq_iff_eq.mp Mc.fn) (codeAny_mono (F.run _ X.stack _ _ ⟨[Value.ref (s.heap.objs.size + 1)], ks.zip ws⟩ (gu [Value.ref (s.heap.objs.size + 1)] ws) _ _ E (hr.make C [] (ks.zip ws)) (I2.env0.make C [] (ks.zip ws))
    (hb.to _ [Value.ref (s.heap.objs.size + 1)] ws I2.kIn rfl (rz.length.symm.trans l2)) (hb.rel r1 rz) hq) fun o s' z => ?_))
  match o, z with
  | .error e, z => exact hx pins _ _ e s' I2 z
  | .ok (.ret u), z =>
    obtain ⟨v, H', I3, rv, ev, q3⟩ := I2.after z
    subst ev
    exact ⟨rv, ⟨V.ref (s.heap.objs.size + 1), H', I3, rfl, q3⟩⟩
  | .ok .next, z => exact z.elim
  | .ok .brk, z => exact z.elim
  | .ok .cont, z => exact z.elim
theorem de_makeK {gD : List D → List D → List D} {gu : List Value → List Value → List Value} {gV : List V → List V → List V} (Mc : Mk X.K (g.ca c) f) (G : FnOk X.prog X.w X.K X.mg X.base (L2N.CX X.prog X.w) k f fd ps (spD g N m)) (hr : Room (k + 1) X.A) (tk : L2N.Takes X W.w) (hm : X.mg x = some (.ref (g.ca c)))
    (hb : KBn X.K fd ps 1 ks gu gV) (hgr : ∀ (F : List Addr) (H : Hp) (ds : List D) (vs : List V) (zs : List D) (ws : List V), ds.length = 1 → zs.length = ks.length → Reps g F H ds vs → Reps g F H zs ws → Reps g F H (gD ds zs) (gV vs ws)) (hgl : ∀ (vs zs : List V), vs.length = 1 → zs.length = ks.length → (gV vs zs).length = N)
    (hkw : PK X kws (tA g W mk)) (hg : Gl X x := by rfl)
    (hall : (backToKw pos (keywordEach kws X.env)).all (·.1.isSome) = true := by rfl) (hks : (backToKw pos (keywordEach kws X.env)).filterMap (·.1) = ks := by rfl) (hdb : (x == ("__debug__" : Str)) = false := by decide)
    (hpl : ((backTo pos (starEach [] X.env)).any (·.1) || (backToKw pos (keywordEach kws X.env)).any (·.1.isNone)) = false := by rfl) : PE X (.Call (.Name x p) [] kws pos) (tD g W (eMakeK c 0 ks.length gD m mk)) := by
  refine ⟨fun pins s σ H Q I q => wpAny_Call_Name_kw (ld_glob I hg hm (PySem.W.callWith_KW0 (h₀ := X.base) I.ok.mod.kin Mc.kp hall ?_ hpl) hdb)⟩
  obtain ⟨F, e, M, RS, q⟩ := q
  refine thn (hkw.run pos pins s σ H (fun zs H2 => ∃ F1 M1 ds, RelM g F1 M1 H2 ∧ Reps g F1 H2 ds zs ∧ zs.length = ks.length ∧ post g rD W.w F1 σ H2 ((m (gD [.ref M1.length] ds) (M1 ++ [.ob c [] []])).bind fun r M2 => match r with | .non => .ok (.ref M1.length) M2 | _ => .bad) Q) I ?_) ?_
  · refine ⟨F, e, M, RS, q.bind fun ds M1 F1 H1 vs e1 g1 R1 r q1 => ?_⟩
    split at q1
    · rename_i hl; exact ⟨F1, M1, ds, R1, r, by rw [← r.length]; exact hl, q1⟩
    · exact q1.elim
  · rintro ws s2 ⟨zs, H2, I2, rz, F1, M1, ds, R1, r, hl, q2⟩
    refine ⟨I2.kIn, ?_⟩
    rw [hks]
    refine run_makeKS Mc G hr hb (L2N.passAt tk σ) I2 rz hl fun y dx hy hdx hne => ?_
    have H2d : Grow F1 H2 F1 (upd H2 dx (.own y)) ∧ RelM g F1 M1 (upd H2 dx (.own y)) := R1.still hdx
    have hy2 : upd H2 dx (.own y) y = none := by rw [upd_ne (Ne.symm hne)]; exact hy
    obtain ⟨g3, R3⟩ := H2d.2.laid (m := .ob c [] []) (o := .ins (g.ca c) dx []) hy2 fun F' H' gr => .ob (ns := []) (vs := []) rfl .nil
    have g4 := H2d.1.trans g3
    refine ⟨hgl _ _ rfl hl, F1 ++ [y], M1 ++ [.ob c [] []], gD [.ref M1.length] ds, R3, hgr _ _ _ _ _ _ rfl (by rw [r.length]; exact hl) (.cons (.ref (by rw [← R1.len]; simp)) .nil) (r.mono g4 R1.good), ?_⟩
    have q3 := q2.up g4
    refine post_call (W := W.w) (σ := σ) (q3.bind fun d M5 F5 H5 v e5 g5 R5 rd q5 => ?_)
    cases rd with
    | non => exact ⟨rfl, q5.here R5 (.ref (pre_get g5.pre (by rw [← R1.len]; simp)))⟩
    | _ => exact q5.elim
end
end T2
namespace T2
open PySem L2 PyProof.Rows

/-! ### targets that are tuples of names -/
def setAll (e : Env2) : List Nat → List D → Env2
  | i :: is, d :: ds => setAll (e.set i (some d)) is ds
  | _, _ => e
def tgTup (is : List Nat) : TgM := fun d e => match d with
  | .tup ds => if ds.length = is.length then some (setAll e is ds) else none
  | _ => none
def gNs : List Nat → TGs
  | [] => gNil
  | i :: is => gCons (gName i) (gNs is)
theorem gNs_run {g : Wd} {F : List Addr} {M : MH} {H : Hp} (R : RelM g F M H) : ∀ (is : List Nat) (e : Env2) (σ : L2.St) (ds : List D) (vs : List V) (Q : L2.St → Hp → Prop), ds.length = is.length → EnvR g F H e σ → Reps g F H ds vs → (∀ σ1, EnvR g F H (setAll e is ds) σ1 → Q σ1 H) → gNs is vs σ H Q
  | [], e, σ, ds, vs, Q, hl, RE, r, k => by
    have : ds = [] := List.eq_nil_of_length_eq_zero hl
    subst this
    cases r
    exact ⟨rfl, k σ RE⟩
  | i :: is, e, σ, ds, vs, Q, hl, RE, r, k => by
    cases r with
    | nil => cases hl
    | cons h t => exact ⟨_, _, rfl, gNs_run R is _ _ _ _ Q (by simpa using hl) (RE.set h i) t k⟩
theorem tgTup_sim {g : Wd} {K : PySem.W.Frag} (hK : g.K = K) (is : List Nat) : TgSim g (tgTup is) (gTup K is.length (gNs is)) := fun F M e e1 σ H x v Q R RE r h k => by
  unfold tgTup at h
  cases r with
  | tup hs rs =>
    dsimp only at h
    split at h
    · rename_i hl
      cases h
      exact ⟨_, _, rfl, by rw [← hK]; exact hs, by rw [← rs.length]; exact hl, gNs_run R is e σ _ _ Q hl RE rs k⟩
    · cases h
  | _ => cases h

/-! ### zip of two tuples -/
def zipD (xs ys : List D) : List D := List.zipWith (fun x y => .tup [x, y]) xs ys
def fZip (x y : D) (M : MH) : Res IV := match x, y with
  | .tup xs, .tup ys => .ok (.vals (zipD xs ys)) M
  | .fro xs, .fro ys => .ok (.vals (zipD xs ys)) M
  | _, _ => .bad
def iZip2 (a b : EM) : Env2 → MH → Res IV := fun e M => (a e M).bind fun x M1 => (b e M1).bind fun y M2 => fZip x y M2
theorem zip_len (xs ys : List D) : (zipD xs ys).length = min xs.length ys.length := by unfold zipD; simp
theorem zip_get {xs ys : List D} {i : Nat} (h : i < (zipD xs ys).length) : ∃ x y, xs[i]? = some x ∧ ys[i]? = some y ∧ (zipD xs ys)[i]? = some (.tup [x, y]) := by
  have hl := zip_len xs ys
  have h1 : i < xs.length := by omega
  have h2 : i < ys.length := by omega
  refine ⟨xs[i], ys[i], List.getElem?_eq_getElem h1, List.getElem?_eq_getElem h2, ?_⟩
  unfold zipD
  rw [List.getElem?_zipWith, List.getElem?_eq_getElem h1, List.getElem?_eq_getElem h2]
section
variable {g : Wd}
theorem itV_zipT {F : List Addr} {M : MH} {H : Hp} {a b : Addr} {xs ys : List D} {vs us : List V} (R : RelM g F M H) (ha : SqT g.K H a vs) (hb : SqT g.K H b us) (r1 : Reps g F H xs vs) (r2 : Reps g F H ys us) : ItV g (RZ.ItzT g.K a b) F H (zipD xs ys) where
  go := fun F' H' i gr hi => by
    obtain ⟨x, y, h1, h2, _⟩ := zip_get hi
    obtain ⟨v, hv, _⟩ := r1.get h1
    obtain ⟨u, hu, _⟩ := r2.get h2
    exact ⟨vs, us, v, u, sqT_mono gr R.good ha, sqT_mono gr R.good hb, hv, hu⟩
  yld := fun F' H' i z H2 gr hi hy => by
    obtain ⟨x, y, h1, h2, h3⟩ := zip_get hi
    obtain ⟨T, v, u, rfl, hT, rfl, q1, q2⟩ := hy
    have e1 := q1 vs (sqT_mono gr R.good ha)
    have e2 := q2 us (sqT_mono gr R.good hb)
    obtain ⟨v', hv, rv⟩ := (r1.mono gr R.good).get h1
    obtain ⟨u', hu, ru⟩ := (r2.mono gr R.good).get h2
    rw [hv] at e1; cases e1
    rw [hu] at e2; cases e2
    have k : ∀ b o, H' b = some o → upd H' T (.tup [v, u]) b = some o := upd_keeps hT
    refine ⟨k, _, h3, .tup (SqT.of upd_same) (.cons (rv.ext fun b o z _ => k b o z) (.cons (ru.ext fun b o z _ => k b o z) .nil))⟩
  stop := fun F' H' i gr hi => ⟨vs, us, sqT_mono gr R.good ha, sqT_mono gr R.good hb, by
    have hl := zip_len xs ys
    have := r1.length
    have := r2.length
    omega⟩
theorem itV_zipL {F : List Addr} {M : MH} {H : Hp} {a b : Addr} {xs ys : List D} {vs us : List V} (R : RelM g F M H) (ha : FroL g F H a vs) (hb : FroL g F H b us) (r1 : Reps g F H xs vs) (r2 : Reps g F H ys us) : ItV g (Itz g.K a b) F H (zipD xs ys) where
  go := fun F' H' i gr hi => by
    obtain ⟨x, y, h1, h2, _⟩ := zip_get hi
    obtain ⟨v, hv, _⟩ := r1.get h1
    obtain ⟨u, hu, _⟩ := r2.get h2
    exact ⟨vs, us, v, u, (ha.mono gr R.good).sq, (hb.mono gr R.good).sq, hv, hu⟩
  yld := fun F' H' i z H2 gr hi hy => by
    obtain ⟨x, y, h1, h2, h3⟩ := zip_get hi
    obtain ⟨T, v, u, rfl, hT, rfl, q1, q2⟩ := hy
    have e1 := q1 vs (ha.mono gr R.good).sq
    have e2 := q2 us (hb.mono gr R.good).sq
    obtain ⟨v', hv, rv⟩ := (r1.mono gr R.good).get h1
    obtain ⟨u', hu, ru⟩ := (r2.mono gr R.good).get h2
    rw [hv] at e1; cases e1
    rw [hu] at e2; cases e2
    have k : ∀ b o, H' b = some o → upd H' T (.tup [v, u]) b = some o := upd_keeps hT
    refine ⟨k, _, h3, .tup (SqT.of upd_same) (.cons (rv.ext fun b o z _ => k b o z) (.cons (ru.ext fun b o z _ => k b o z) .nil))⟩
  stop := fun F' H' i gr hi => ⟨vs, us, (ha.mono gr R.good).sq, (hb.mono gr R.good).sq, by
    have hl := zip_len xs ys
    have := r1.length
    have := r2.length
    omega⟩
theorem itSim_zip {X : Cx} {W : WY} {m1 m2 : EM} (hK : g.K = X.K) : ItSim g W (iZip2 m1 m2) (RZ.iZipA X.K (tA g W (eCons m1 (eCons m2 eNil)))) := fun σ H F e M R RS q => by
  unfold iZip2 at q
  refine ⟨F, e, M, RS, ?_⟩
  unfold eCons eNil
  cases h1 : m1 e M with
  | bad => rw [h1] at q; exact q
  | exc c ns ds M' => rw [h1] at q; exact q
  | ok x M1 =>
    rw [h1] at q
    simp only [Res.bind_ok] at q ⊢
    cases h2 : m2 e M1 with
    | bad => rw [h2] at q; exact q
    | exc c ns ds M' => rw [h2] at q; exact q
    | ok y M2 =>
      rw [h2] at q
      simp only [Res.bind_ok] at q ⊢
      intro F1 H1 vs g1 R1 rs
      cases rs with | cons rx rs =>
      cases rs with | cons ry rs =>
      cases rs
      unfold fZip at q
      cases rx with
      | tup ha r1 =>
        cases ry with
        | tup hb r2 =>
          exact ⟨_, _, _, _, rfl, .inr ⟨by rw [← hK]; exact ha, by rw [← hK]; exact hb, by rw [← hK]; exact q F1 H1 _ g1 R1 (itV_zipT R1 ha hb r1 r2)⟩⟩
        | _ => exact q.elim
      | fro ha r1 =>
        cases ry with
        | fro hb r2 =>
          exact ⟨_, _, _, _, rfl, .inl ⟨by rw [← hK]; exact ha.sq, by rw [← hK]; exact hb.sq, by rw [← hK]; exact q F1 H1 _ g1 R1 (itV_zipL R1 ha hb r1 r2)⟩⟩
        | _ => exact q.elim
      | _ => exact q.elim
end

/-! ### all, any of a list of bools -/
def blsOf : List D → Option (List Bool)
  | [] => some []
  | .bl b :: ds => (blsOf ds).map (b :: ·)
  | _ => none
def rAllB (K : PySem.W.Frag) (f : List Bool → Bool) : List V → Hp → VK → Prop := fun xs H Q => ∃ a bs, xs = [.ref a] ∧ SqL K H a (bs.map V.bl) ∧ Q (.bl (f bs)) H
theorem dp_bls {K : PySem.W.Frag} {H : Hp} : ∀ bs : List Bool, DpAll K H (bs.map V.bl) (bs.map PyData.bool)
  | [] => .nil
  | b :: bs => .cons (.bl b) (dp_bls bs)
theorem bls_plain : ∀ bs : List Bool, PyData.plainAll (bs.map PyData.bool) = true
  | [] => rfl
  | b :: bs => by simp only [List.map_cons, PyData.plainAll, PyData.plain, bls_plain bs, Bool.and_self]
theorem call_allB {X : Cx} (hc : X.calm = true) : CallR X (.builtin "all") (rAllB X.K fun bs => bs.all id) := by
  intro pins s σ H xs us Q I r h
  obtain ⟨a, bs, rfl, hs, q⟩ := h
  cases r with | cons rx rr =>
  cases rr; cases rx
  obtain ⟨its, rv, pl, hz⟩ := I.list hs
  obtain ⟨as, hr⟩ := Dp.readsAll I _ _ its (dp_bls bs) rv
  refine PySem.W.all_list_data (I.ok.hd hc) pl.isList (by simpa using hr) (bls_plain bs) (fun x hx => ?_) fun h' tk hk => ⟨.bl _, H, I.kept (t' := tk) hk, ?_, q⟩
  · obtain ⟨b, _, rfl⟩ := List.mem_map.mp hx
    trivial
  · show Value.bool _ = Value.bool _
    rw [List.all_map]
    congr 1
theorem call_anyB {X : Cx} (hc : X.calm = true) : CallR X (.builtin "any") (rAllB X.K fun bs => bs.any id) := by
  intro pins s σ H xs us Q I r h
  obtain ⟨a, bs, rfl, hs, q⟩ := h
  cases r with | cons rx rr =>
  cases rr; cases rx
  obtain ⟨its, rv, pl, hz⟩ := I.list hs
  obtain ⟨as, hr⟩ := Dp.readsAll I _ _ its (dp_bls bs) rv
  refine PySem.W.any_list_data (I.ok.hd hc) pl.isList (by simpa using hr) (bls_plain bs) (fun x hx => ?_) fun h' tk hk => ⟨.bl _, H, I.kept (t' := tk) hk, ?_, q⟩
  · obtain ⟨b, _, rfl⟩ := List.mem_map.mp hx
    trivial
  · show Value.bool _ = Value.bool _
    rw [List.any_map]
    congr 1
def dAllB (f : List Bool → Bool) (ds : List D) (M : MH) : Res D := match ds with
  | [x] => match listItems M x with
    | some ys => match blsOf ys with
      | some bs => .ok (.bl (f bs)) M
      | none => .bad
    | none => .bad
  | _ => .bad
theorem bls_rep {g : Wd} {F : List Addr} {H : Hp} : ∀ {ds : List D} {vs : List V} {bs : List Bool}, Reps g F H ds vs → blsOf ds = some bs → vs = bs.map V.bl
  | _, _, bs, .nil, h => by cases h; rfl
  | _, _, bs, .cons r t, h => by
    cases r with
    | bl b =>
      unfold blsOf at h
      obtain ⟨cs, h1, rfl⟩ := Option.map_eq_some_iff.mp h
      rw [bls_rep t h1]; rfl
    | _ => cases h
theorem sim_allB {g : Wd} {X : Cx} {f : List Bool → Bool} (hK : g.K = X.K) : SimA g (dAllB f) (rAllB X.K f) := fun F M σ H W ds vs Q R r q => by
  unfold dAllB at q
  split at q
  · rename_i x
    cases r with | cons rx rr =>
    cases rr
    split at q
    · rename_i ys hy
      split at q
      · rename_i bs hb
        obtain ⟨a, us, rfl, hs, rs⟩ := listItems_at R rx hy
        have := bls_rep rs hb
        subst this
        exact ⟨a, bs, rfl, by rw [← hK]; exact hs, q.here R (.bl _)⟩
      · exact q.elim
    · exact q.elim
  · exact q.elim

/-! ### x in a list or tuple of data of any depth -/
def seqP : PyData → Option (List PyData)
  | .list ps => some ps
  | .tuple ps => some ps
  | _ => none
def dInD (neg : Bool) (x y : D) (M : MH) : Res D := match toP M 4 x, toP M 4 y with
  | some p, some q => (match seqP q with
    | some ps => if SeqAt.shaped p = true ∧ SeqAt.shaped q = true then .ok (.bl (if neg then !(ps.any fun z => PyData.eqv z p) else ps.any fun z => PyData.eqv z p)) M else .bad
    | none => .bad)
  | _, _ => .bad
def rInDp (K : PySem.W.Frag) (neg : Bool) : R2 := fun x y H Q => ∃ d q ds, Dp K H x d ∧ Dp K H y q ∧ seqP q = some ds ∧ SeqAt.shaped d = true ∧ SeqAt.shaped q = true ∧ Q (.bl (if neg then !(ds.any fun z => PyData.eqv z d) else ds.any fun z => PyData.eqv z d)) H
section
variable {X : Cx} {g : Wd} {W : WY} {a b : Expr} {pos p : Pos} {m1 m2 : EM} {ma : AM} {es : List Expr}
theorem op_inDp (hu : X.A.units + 65 < cLine) : OpR X (compareOp .In) (rInDp X.K false) := by
  intro pins s σ H x y v u Q I rx ry h
  obtain ⟨d, q, ds, hd, hq, e, sd, sq, k⟩ := h
  obtain ⟨as, r1⟩ := Dp.reads I d x v hd rx
  obtain ⟨bs, r2⟩ := Dp.reads I q y u hq ry
  cases q with
  | list ps => cases e; exact SeqAt.in_list_reads r2 r1 (SeqAt.canLay_of_shaped sq) (SeqAt.canLay_of_shaped sd) (room_in_shaped sd hu) ⟨.bl _, H, I, rfl, k⟩
  | tuple ps => cases e; exact SeqAt.in_tuple_reads r2 r1 (SeqAt.canLay_of_shaped sq) (SeqAt.canLay_of_shaped sd) (room_in_shaped sd hu) ⟨.bl _, H, I, rfl, k⟩
  | _ => cases e
theorem op_notInDp (hu : X.A.units + 65 < cLine) : OpR X (compareOp .NotIn) (rInDp X.K true) := by
  intro pins s σ H x y v u Q I rx ry h
  obtain ⟨d, q, ds, hd, hq, e, sd, sq, k⟩ := h
  obtain ⟨as, r1⟩ := Dp.reads I d x v hd rx
  obtain ⟨bs, r2⟩ := Dp.reads I q y u hq ry
  cases q with
  | list ps => cases e; exact SeqAt.notIn_list_reads r2 r1 (SeqAt.canLay_of_shaped sq) (SeqAt.canLay_of_shaped sd) (room_in_shaped sd hu) ⟨.bl _, H, I, rfl, k⟩
  | tuple ps => cases e; exact SeqAt.notIn_tuple_reads r2 r1 (SeqAt.canLay_of_shaped sq) (SeqAt.canLay_of_shaped sd) (room_in_shaped sd hu) ⟨.bl _, H, I, rfl, k⟩
  | _ => cases e
theorem sim_inD (hK : g.K = X.K) (neg : Bool) : Sim2 g (dInD neg) (rInDp X.K neg) := fun F M σ H W x y v w Q R rx ry q => by
  unfold dInD at q
  split at q
  · rename_i p1 p2 h1 h2
    split at q
    · rename_i ps hp
      split at q
      · rename_i hs
        exact ⟨p1, p2, ps, by rw [← hK]; exact toP_rep R 4 x v p1 rx h1, by rw [← hK]; exact toP_rep R 4 y w p2 ry h2, hp, hs.1, hs.2, q.here R (.bl _)⟩
      · exact q.elim
    · exact q.elim
  · exact q.elim
theorem hu65 {A : Around} {k : Nat} (hr : Room k A) : A.units + 65 < cLine := by have := hr.un; omega
theorem de_inD (hK : g.K = X.K) (hu : X.A.units + 65 < cLine) (ha : PE X a (tD g W m1)) (hb : PE X b (tD g W m2)) (hm : behindInMarks .In b = false := by rfl) : PE X (.Compare a [.In] [b] pos) (tD g W (eBin (dInD false) m1 m2)) := de_cmp (op_inDp hu) (sim_inD hK false) ha hb hm
theorem de_notinD (hK : g.K = X.K) (hu : X.A.units + 65 < cLine) (ha : PE X a (tD g W m1)) (hb : PE X b (tD g W m2)) (hm : behindInMarks .NotIn b = false := by rfl) : PE X (.Compare a [.NotIn] [b] pos) (tD g W (eBin (dInD true) m1 m2)) := de_cmp (op_notInDp hu) (sim_inD hK true) ha hb hm
theorem dt_inD (hK : g.K = X.K) (hu : X.A.units + 65 < cLine) (ha : PE X a (tD g W m1)) (hb : PE X b (tD g W m2)) (hm : behindInMarks .In b = false := by rfl) : PT X (.Compare a [.In] [b] pos) (tB2 g W (bVal (eBin (dInD false) m1 m2))) := dt_cmp (op_inDp hu) (sim_inD hK false) ha hb hm
theorem dt_notinD (hK : g.K = X.K) (hu : X.A.units + 65 < cLine) (ha : PE X a (tD g W m1)) (hb : PE X b (tD g W m2)) (hm : behindInMarks .NotIn b = false := by rfl) : PT X (.Compare a [.NotIn] [b] pos) (tB2 g W (bVal (eBin (dInD true) m1 m2))) := dt_cmp (op_notInDp hu) (sim_inD hK true) ha hb hm
theorem de_all (hK : g.K = X.K) (ha : PA X (a :: es) (tA g W ma)) (hm : X.mg "all" = none) (hc : X.calm = true := by rfl) (hg : Gl X "all" := by rfl) (he : starEach (a :: es) X.env = (false, eval a X.env) :: starEach es X.env := by rfl) (hpl : (backTo pos (starEach es X.env)).any (·.1) = false := by rfl) :
    PE X (.Call (.Name "all" p) (a :: es) [] pos) (tD g W (eArgs (dAllB fun bs => bs.all id) ma)) := de_callB (call_allB hc) (sim_allB hK) hm (by decide +kernel) ha hg (by decide) (by decide) he hpl
theorem de_any (hK : g.K = X.K) (ha : PA X (a :: es) (tA g W ma)) (hm : X.mg "any" = none) (hc : X.calm = true := by rfl) (hg : Gl X "any" := by rfl) (he : starEach (a :: es) X.env = (false, eval a X.env) :: starEach es X.env := by rfl) (hpl : (backTo pos (starEach es X.env)).any (·.1) = false := by rfl) :
    PE X (.Call (.Name "any" p) (a :: es) [] pos) (tD g W (eArgs (dAllB fun bs => bs.any id) ma)) := de_callB (call_anyB hc) (sim_allB hK) hm (by decide +kernel) ha hg (by decide) (by decide) he hpl
end
end T2
namespace T2
open PySem L2 PyProof.Rows

/-! ### l.pop(i), l[::-1], a, b = e -/
def ePopAt (mo ma : EM) : EM := fun e M => (mo e M).bind fun x M1 => match x with
  | .ref n => match M1[n]? with
    | some (.lst _) => (ma e M1).bind fun y M2 => match M2[n]?, y with
      | some (.lst ds), .int i => if 0 ≤ i ∧ i < ds.length then (match ds[i.toNat]? with
        | some d => if ds.length ≤ 1000 then .ok d (M2.set n (.lst (ds.eraseIdx i.toNat))) else .bad
        | none => .bad) else .bad
      | _, _ => .bad
    | _ => .bad
  | _ => .bad
def fRev (mk : List D → MH → Res D) (x : D) (M : MH) : Res D := match listItems M x with
  | some ds => mk ds.reverse M
  | none => .bad
theorem Reps.reverse {g : Wd} {F : List Addr} {H : Hp} : ∀ {ds : List D} {vs : List V}, Reps g F H ds vs → Reps g F H ds.reverse vs.reverse
  | _, _, .nil => .nil
  | _, _, .cons h t => by rw [List.reverse_cons, List.reverse_cons]; exact (Reps.reverse t).append (.cons h .nil)
theorem Reps.erase {g : Wd} {F : List Addr} {H : Hp} : ∀ {ds : List D} {vs : List V} (i : Nat), Reps g F H ds vs → Reps g F H (ds.eraseIdx i) (vs.eraseIdx i)
  | _, _, _, .nil => .nil
  | _, _, 0, .cons h t => t
  | _, _, i + 1, .cons h t => .cons h (Reps.erase i t)
def sUnp (is : List Nat) (m : EM) : SM := fun e M => (m e M).toS e fun d M1 => match tgTup is d e with
  | some e1 => .nx e1 M1
  | none => .bad
section
variable {X : Cx} {g : Wd} {W : WY} {a b o : Expr} {pos p apos : Pos} {m1 m2 m3 : EM} {ma : AM} {es : List Expr}
theorem de_popAt (ho : PE X o (tD g W m1)) (ha : PE X a (tD g W m2)) (hst : starEach [a] X.env = (false, eval a X.env) :: starEach [] X.env := by rfl)
    (hpe : ∀ {to : TE} {t : TA}, PE X o to → PA X [a] t → PE X (.Call (.Attribute o "pop" apos) [a] [] pos) (tBM X.K "list" rPopAt to t) := by intro _ _ h1 h2; exact pe_bm PySem.F.plainAttrs_list PySem.F.slot_list_pop PySem.F.type_list_pop mt_popAt h1 h2) :
    PE X (.Call (.Attribute o "pop" apos) [a] [] pos) (tD g W (ePopAt m1 m2)) :=
  pe_imp (hpe ho (de_cons ha de_nil hst)) fun σ H Q ⟨F, e, M, RS, q⟩ => ⟨F, e, M, RS, q.bind fun x M1 F1 H1 v e1 g1 R1 rx q1 => by
    cases x with
    | ref n =>
      cases rx with | ref hn =>
      dsimp only at q1
      split at q1
      · rename_i ds0 hd0
        obtain ⟨vs0, hv0, r0⟩ := lst_at R1 hn hd0
        refine ⟨.inl ⟨rfl, vs0, SqL.of hv0⟩, F1, e, M1, RS.up g1 R1, ?_⟩
        unfold eCons eNil
        refine (?_ : post g rDs W.w F1 σ H1 ((m2 e M1).bind fun x M1 => .ok [x] M1) _)
        cases h2 : m2 e M1 with
        | ok y M2 =>
          rw [h2] at q1
          intro F2 H2 us g2 R2 r2
          obtain ⟨u, rfl, ru⟩ := one_rep r2
          have hn2 := pre_get g2.pre hn
          dsimp only [Res.bind] at q1
          split at q1
          · rename_i ds i hd
            cases ru
            obtain ⟨vs, hv, r⟩ := lst_at R2 hn2 hd
            split at q1
            · rename_i hl
              split at q1
              · rename_i d hdd
                split at q1
                · rename_i hz
                  obtain ⟨w, hw, rw'⟩ := r.get hdd
                  have hlen := r.length
                  refine ⟨_, vs, i, i.toNat, w, rfl, rfl, hv, by omega, by omega, ?_, hw, ?_⟩
                  · exact seqIndex_of (by omega) (by omega)
                  · obtain ⟨g3, R3⟩ := R2.put (o := .lst (vs.eraseIdx i.toNat)) (m := .lst (ds.eraseIdx i.toNat)) hn2 trivial fun H' gr => .lst ((r.mono gr R2.good).erase _)
                    exact (q1.up g2).ok g3 R3 (rw'.mono g3 R2.good)
                · exact q1.elim
              · exact q1.elim
            · exact q1.elim
          · exact q1.elim
        | exc c ns ds M2 => rw [h2] at q1; exact q1
        | bad => rw [h2] at q1; exact q1.elim
      · exact q1.elim
    | _ => exact q1.elim⟩
theorem de_revL {mk : List D → MH → Res D} {k : Nat} {p1 p2 p3 : Pos} (hK : g.K = X.K) (hmk : MkOk g mk) (ha : PE X a (tD g W m1)) : PE X (.Subscript a (.Slice none none (some (.UnaryOp .USub (.Constant (.int 1) k p1) p2)) p3) pos) (tD g W (eUn (fRev mk) m1)) :=
  pe_imp (pe_revL ha) fun σ H Q ⟨F, e, M, RS, q⟩ => ⟨F, e, M, RS, q.bind fun x M1 F1 H1 v e1 g1 R1 rx q1 => by
    unfold fRev at q1
    split at q1
    · rename_i ds hd
      obtain ⟨ad, vs, rfl, hs, rs⟩ := listItems_at R1 rx hd
      exact ⟨ad, vs, rfl, by rw [← hK]; exact hs, fun p hp => hmk W.w F1 M1 H1 σ Q _ _ p R1 rs.reverse q1 hp⟩
    · exact q1.elim⟩
theorem ds_unp {tgE : Expr} {is : List Nat} {gt : TG} (hg : PG X tgE gt) (ts : TgSim g (tgTup is) gt) (hv : PE X a (tD g W m1)) (px : W.p.xs = []) (hs : swapsWithSole [tgE] a pos.line X.env = pure false := by rfl) (hw : swappedStores [tgE] a X.env = pure none := by rfl) (h1 : (assignEach [tgE] X.env).map (·.2) = [assign tgE X.env] := by rfl) :
    PS X (.Assign [tgE] a pos) (tS g W (sUnp is m1)) :=
  ps_imp (ps_asg hv hg hs hw h1) fun E σ H ⟨F, e, M, RS, q⟩ => by
    refine ⟨F, e, M, RS, q.step RS fun x M1 F1 H1 vx _ g1 R1 rx q1 => ?_⟩
    cases ht : tgTup is x e with
    | none => rw [ht] at q1; exact q1.elim
    | some e2 =>
      rw [ht] at q1
      exact ts F1 M1 e e2 σ H1 x vx _ R1 (RS.e.mono g1 RS.m.good) rx ht fun σ2 E2 => q1 F1 H1 σ2 .same R1 E2 (by rw [px]; exact pin_nil)

/-! ### dicts with int and text keys: d[k] = v, d.get, d.pop -/
def kPutD {κ A : Type} [DecidableEq κ] (x : κ) (d : A) (ks : List κ) (ds : List A) : List κ × List A := if x ∈ ks then (ks, List.zipWith (fun k y => if k = x then d else y) ks ds) else (ks ++ [x], ds ++ [d])
theorem putK_zip {κ : Type} [DecidableEq κ] {x : κ} {v : V} : ∀ {ks : List κ} {vs : List V}, ks.length = vs.length → putK (ks.zip vs) x v = (kPutD x v ks vs).1.zip (kPutD x v ks vs).2 := by
  intro ks vs hl
  have hmem : ∀ {ks : List κ} {vs : List V}, ks.length = vs.length → (((ks.zip vs).any fun kv => decide (kv.1 = x)) = true ↔ x ∈ ks) := by
    intro ks
    induction ks with
    | nil => intro vs _; simp
    | cons k ks ih =>
      intro vs hl
      cases vs with
      | nil => cases hl
      | cons u vs =>
        have := ih (vs := vs) (by simpa using hl)
        rw [List.zip_cons_cons, List.any_cons, Bool.or_eq_true, this, List.mem_cons]
        simp only [decide_eq_true_eq]
        constructor
        · rintro (h | h)
          · exact .inl h.symm
          · exact .inr h
        · rintro (h | h)
          · exact .inl h.symm
          · exact .inr h
  have hmap : ∀ {ks : List κ} {vs : List V}, (ks.zip vs).map (fun kv => if kv.1 = x then (kv.1, v) else kv) = ks.zip (List.zipWith (fun k y => if k = x then v else y) ks vs) := by
    intro ks
    induction ks with
    | nil => intro vs; simp
    | cons k ks ih =>
      intro vs
      cases vs with
      | nil => simp
      | cons u vs =>
        rw [List.zip_cons_cons, List.map_cons, ih, List.zipWith_cons_cons, List.zip_cons_cons]
        by_cases h : k = x
        · simp [h]
        · simp [h]
  unfold putK kPutD
  by_cases h : x ∈ ks
  · rw [if_pos ((hmem hl).mpr h), if_pos h]; exact hmap
  · rw [if_neg (fun z => h ((hmem hl).mp z)), if_neg h, List.zip_append hl]; rfl
theorem kPutD_len {κ A B : Type} [DecidableEq κ] {x : κ} {d : A} {v : B} {ks : List κ} {ds : List A} {vs : List B} (h : ds.length = vs.length) : (kPutD x d ks ds).1 = (kPutD x v ks vs).1 ∧ (kPutD x d ks ds).2.length = (kPutD x v ks vs).2.length := by
  unfold kPutD
  by_cases hx : x ∈ ks
  · rw [if_pos hx, if_pos hx]; simp [h]
  · rw [if_neg hx, if_neg hx]; simp [h]
theorem kPutD_one {κ A : Type} [DecidableEq κ] {x : κ} {d : A} {ks : List κ} {ds : List A} (h : ks.length = ds.length) : (kPutD x d ks ds).1.length = (kPutD x d ks ds).2.length := by
  unfold kPutD
  by_cases hx : x ∈ ks
  · rw [if_pos hx]; simp [h]
  · rw [if_neg hx]; simp [h]
theorem kPutD_rep {F : List Addr} {H : Hp} {κ : Type} [DecidableEq κ] {x : κ} {d : D} {v : V} (r : Rep g F H d v) {ks : List κ} {ds : List D} {vs : List V} (rs : Reps g F H ds vs) : Reps g F H (kPutD x d ks ds).2 (kPutD x v ks vs).2 := by
  unfold kPutD
  by_cases hx : x ∈ ks
  · rw [if_pos hx, if_pos hx]
    have : ∀ {ks : List κ} {ds : List D} {vs : List V}, Reps g F H ds vs → Reps g F H (List.zipWith (fun k y => if k = x then d else y) ks ds) (List.zipWith (fun k y => if k = x then v else y) ks vs) := by
      intro ks
      induction ks with
      | nil => intro ds vs _; simp; exact .nil
      | cons k ks ih =>
        intro ds vs rs
        cases rs with
        | nil => simp; exact .nil
        | cons h t =>
          rw [List.zipWith_cons_cons, List.zipWith_cons_cons]
          by_cases hk : k = x
          · rw [if_pos hk, if_pos hk]; exact .cons r (ih t)
          · rw [if_neg hk, if_neg hk]; exact .cons h (ih t)
    exact this rs
  · rw [if_neg hx, if_neg hx]; exact rs.append (.cons r .nil)
def dSetD (o i x : D) (M : MH) : Option MH := match o with
  | .ref n => match M[n]? with
    | some (.dk ks ds) => (match keyOf i with
      | some k => if ds.length ≤ 1000 then some (M.set n (.dk (kPutD k x ks ds).1 (kPutD k x ks ds).2)) else none
      | none => none)
    | _ => none
  | _ => none
theorem sim_setD : Sim3 g dSetD rSetD := fun F M M' H o i x vo vi vx Q R ro ri rx h k => by
  unfold dSetD at h
  split at h
  · rename_i n
    cases ro with | ref hn =>
    rename_i ad
    split at h
    · rename_i ks ds hm
      obtain ⟨vs, hv, hl, r⟩ := dk_at R hn hm
      split at h
      · rename_i ky hk
        split at h
        · rename_i hz
          cases h
          have ev := key_rep ri hk
          subst ev
          have e2 := kPutD_len (x := ky) (d := x) (v := vx) (ks := ks) r.length
          refine ⟨ad, _, rfl, DPut.k hv (by rw [List.length_zip]; have := r.length; exact Nat.lt_of_lt_of_le (by omega : _ < 1002) (by decide)), ?_⟩
          rw [putK_zip hl]
          obtain ⟨g1, R1⟩ := R.put (o := .dK ((kPutD ky vx ks vs).1.zip (kPutD ky vx ks vs).2)) (m := .dk (kPutD ky x ks ds).1 (kPutD ky x ks ds).2) hn trivial fun H' gr => by
            rw [e2.1]
            exact .dk (kPutD_one hl) (kPutD_rep (rx.mono gr R.good) (r.mono gr R.good))
          exact k _ g1 R1
        · cases h
      · cases h
    · cases h
  · cases h
theorem ds_setD {i : Expr} {pos' : Pos} (hu : X.A.units + 1 < cLine) (ho : PE X o (tD g W m1)) (hi : PE X i (tD g W m2)) (hv : PE X a (tD g W m3))
    (hass : ∀ v, assign (.Subscript o i pos') X.env v = (do
      let ov ← holding [v] (eval o X.env)
      let iv ← holding [v, ov] (eval i X.env)
      standAt pos'
      holding [v, ov, iv] (setItem ov iv v)
      release [v, ov, iv] []) := by intro _; rfl)
    (hs : swapsWithSole [.Subscript o i pos'] a pos.line X.env = pure false := by rfl) (hw : swappedStores [.Subscript o i pos'] a X.env = pure none := by rfl) (h1 : (assignEach [.Subscript o i pos'] X.env).map (·.2) = [assign (.Subscript o i pos') X.env] := by rfl) :
    PS X (.Assign [.Subscript o i pos'] a pos) (tS g W (sSetIx dSetD m1 m2 m3)) := ds_setIx (set_dict hu) sim_setD ho hi hv hass hs hw h1
/-- d.get(k), d.get(k, x): of the dict at n -/
def eDGet1 (mo mk : EM) : EM := fun e M => (mo e M).bind fun x M1 => match x with
  | .ref n => match M1[n]? with
    | some (.dk _ _) => (mk e M1).bind fun y M2 => match M2[n]?, keyOf y with
      | some (.dk ks ds), some k => .ok ((kGet ks ds k).getD .non) M2
      | _, _ => .bad
    | _ => .bad
  | _ => .bad
def eDGet2 (mo mk mx : EM) : EM := fun e M => (mo e M).bind fun x M1 => match x with
  | .ref n => match M1[n]? with
    | some (.dk _ _) => (mk e M1).bind fun y M2 => (mx e M2).bind fun z M3 => match M3[n]?, keyOf y with
      | some (.dk ks ds), some k => .ok ((kGet ks ds k).getD z) M3
      | _, _ => .bad
    | _ => .bad
  | _ => .bad
theorem kGet_opt {F : List Addr} {H : Hp} {κ : Type} [DecidableEq κ] {k : κ} {ks : List κ} {ds : List D} {vs : List V} (r : Reps g F H ds vs) {z : D} {vz : V} (rz : Rep g F H z vz) : Rep g F H ((kGet ks ds k).getD z) ((valV (ks.zip vs) k).getD vz) := by
  have h := kGet_rep (x := k) (ks := ks) r
  cases hk : kGet ks ds k with
  | none => rw [hk] at h; rw [h]; exact rz
  | some d => rw [hk] at h; obtain ⟨v, h1, h2⟩ := h; rw [h1]; exact h2
theorem de_dget1 (hu : X.A.units + 1 < cLine) (ho : PE X o (tD g W m1)) (hk : PE X a (tD g W m2)) (m : M1 X o "get" apos a pos := by exact ⟨rfl, rfl, rfl, rfl⟩) : PE X (.Call (.Attribute o "get" apos) [a] [] pos) (tD g W (eDGet1 m1 m2)) :=
  pe_imp (pe_dget1 hu ho hk m) fun σ H Q ⟨F, e, M, RS, q⟩ => ⟨F, e, M, RS, q.bind fun x M1 F1 H1 v e1 g1 R1 rx q1 => by
    cases x with
    | ref n =>
      cases rx with | ref hn =>
      dsimp only at q1
      split at q1
      · rename_i ks0 ds0 hm0
        obtain ⟨vs0, hv0, _, _⟩ := dk_at R1 hn hm0
        refine ⟨_, rfl, .inl ⟨_, .inl hv0⟩, F1, e, M1, RS.up g1 R1, q1.bind fun y M2 F2 H2 u e2 g2 R2 ry q2 => ?_⟩
        have hn2 := pre_get g2.pre hn
        split at q2
        · rename_i ks ds k hm hky
          obtain ⟨vs, hv, _, r⟩ := dk_at R2 hn2 hm
          have := key_rep ry hky
          subst this
          exact ⟨_, DGet.k hv, q2.here R2 (kGet_opt r .non)⟩
        · exact q2.elim
      · exact q1.elim
    | _ => exact q1.elim⟩
theorem de_dget2 {f : Expr} (hu : X.A.units + 1 < cLine) (ho : PE X o (tD g W m1)) (hk : PE X a (tD g W m2)) (hf : PE X f (tD g W m3)) (m : M2 X o "get" apos a f pos := by exact ⟨rfl, rfl, rfl, rfl⟩) : PE X (.Call (.Attribute o "get" apos) [a, f] [] pos) (tD g W (eDGet2 m1 m2 m3)) :=
  pe_imp (pe_dget2 hu ho hk hf m) fun σ H Q ⟨F, e, M, RS, q⟩ => ⟨F, e, M, RS, q.bind fun x M1 F1 H1 v e1 g1 R1 rx q1 => by
    cases x with
    | ref n =>
      cases rx with | ref hn =>
      dsimp only at q1
      split at q1
      · rename_i ks0 ds0 hm0
        obtain ⟨vs0, hv0, _, _⟩ := dk_at R1 hn hm0
        refine ⟨_, rfl, .inl ⟨_, .inl hv0⟩, F1, e, M1, RS.up g1 R1, q1.bind fun y M2 F2 H2 u e2 g2 R2 ry q2 => ?_⟩
        refine ⟨F2, e, M2, (RS.up g1 R1).up g2 R2, q2.bind fun z M3 F3 H3 w e3 g3 R3 rz q3 => ?_⟩
        have hn3 := pre_get g3.pre (pre_get g2.pre hn)
        split at q3
        · rename_i ks ds k hm hky
          obtain ⟨vs, hv, _, r⟩ := dk_at R3 hn3 hm
          have := key_rep ry hky
          subst this
          exact ⟨_, DGet.k hv, q3.here R3 (kGet_opt r rz)⟩
        · exact q3.elim
      · exact q1.elim
    | _ => exact q1.elim⟩
/-- d.pop(k, x) -/
def kDrop {κ A : Type} [DecidableEq κ] (x : κ) (ks : List κ) (ds : List A) : List (κ × A) := (ks.zip ds).filter fun p => decide (p.1 ≠ x)
def eDPop2 (mo mk mx : EM) : EM := fun e M => (mo e M).bind fun x M1 => match x with
  | .ref n => match M1[n]? with
    | some (.dk _ _) => (mk e M1).bind fun y M2 => (mx e M2).bind fun z M3 => match M3[n]?, keyOf y with
      | some (.dk ks ds), some k => (match kGet ks ds k with
        | some d => .ok d (M3.set n (.dk ((kDrop k ks ds).map (·.1)) ((kDrop k ks ds).map (·.2))))
        | none => .ok z M3)
      | _, _ => .bad
    | _ => .bad
  | _ => .bad
theorem kDrop_rep {F : List Addr} {H : Hp} {κ : Type} [DecidableEq κ] {x : κ} : ∀ {ks : List κ} {ds : List D} {vs : List V}, Reps g F H ds vs → (kDrop x ks ds).map (·.1) = (kDrop x ks vs).map (·.1) ∧ Reps g F H ((kDrop x ks ds).map (·.2)) ((kDrop x ks vs).map (·.2)) := by
  intro ks
  induction ks with
  | nil => intro ds vs _; exact ⟨by simp [kDrop], by simp [kDrop]; exact .nil⟩
  | cons k ks ih =>
    intro ds vs r
    cases r with
    | nil => exact ⟨by simp [kDrop], by simp [kDrop]; exact .nil⟩
    | cons h t =>
      obtain ⟨h1, h2⟩ := ih t
      unfold kDrop at h1 h2 ⊢
      rw [List.zip_cons_cons, List.zip_cons_cons, List.filter_cons, List.filter_cons]
      by_cases hk : k = x
      · simp only [hk, ne_eq, not_true_eq_false, decide_false, Bool.false_eq_true, if_false]; exact ⟨h1, h2⟩
      · simp only [ne_eq, hk, not_false_eq_true, decide_true, if_true, List.map_cons]; exact ⟨by rw [h1], .cons h h2⟩
theorem de_dpop2 {f : Expr} (ho : PE X o (tD g W m1)) (hk : PE X a (tD g W m2)) (hf : PE X f (tD g W m3)) (m : M2 X o "pop" apos a f pos := by exact ⟨rfl, rfl, rfl, rfl⟩) : PE X (.Call (.Attribute o "pop" apos) [a, f] [] pos) (tD g W (eDPop2 m1 m2 m3)) :=
  pe_imp (pe_dpop2 ho hk hf m) fun σ H Q ⟨F, e, M, RS, q⟩ => ⟨F, e, M, RS, q.bind fun x M1 F1 H1 v e1 g1 R1 rx q1 => by
    cases x with
    | ref n =>
      cases rx with | ref hn =>
      dsimp only at q1
      split at q1
      · rename_i ks0 ds0 hm0
        obtain ⟨vs0, hv0, _, _⟩ := dk_at R1 hn hm0
        refine ⟨_, rfl, .inl ⟨_, .inl hv0⟩, F1, e, M1, RS.up g1 R1, q1.bind fun y M2 F2 H2 u e2 g2 R2 ry q2 => ?_⟩
        refine ⟨F2, e, M2, (RS.up g1 R1).up g2 R2, q2.bind fun z M3 F3 H3 w e3 g3 R3 rz q3 => ?_⟩
        have hn3 := pre_get g3.pre (pre_get g2.pre hn)
        split at q3
        · rename_i ks ds k hm hky
          obtain ⟨vs, hv, hl, r⟩ := dk_at R3 hn3 hm
          have ee := key_rep ry hky
          subst ee
          refine ⟨_, k, hv, rfl, fun v hvv => ?_, fun hvn => ?_⟩
          · have hg := kGet_rep (x := k) (ks := ks) r
            cases hkg : kGet ks ds k with
            | none => rw [hkg] at hg; rw [hg] at hvv; cases hvv
            | some d =>
              rw [hkg] at hg q3
              obtain ⟨v', hv', rd⟩ := hg
              rw [hv'] at hvv; cases hvv
              have ez : dropK (ks.zip vs) k = ((kDrop k ks vs).map (·.1)).zip ((kDrop k ks vs).map (·.2)) := by
                unfold dropK kDrop
                generalize (ks.zip vs).filter _ = l
                induction l with
                | nil => rfl
                | cons p l ih => rw [List.map_cons, List.map_cons, List.zip_cons_cons, ← ih]
              rw [ez]
              obtain ⟨k1, k2⟩ := kDrop_rep (x := k) (ks := ks) r
              obtain ⟨g4, R4⟩ := R3.put (o := .dK (((kDrop k ks vs).map (·.1)).zip ((kDrop k ks vs).map (·.2)))) (m := .dk ((kDrop k ks ds).map (·.1)) ((kDrop k ks ds).map (·.2))) hn3 trivial fun H' gr => by
                rw [k1]
                exact .dk (by simp) (k2.mono gr R3.good)
              exact q3.ok g4 R4 (rd.mono g4 R3.good)
          · have hg := kGet_rep (x := k) (ks := ks) r
            cases hkg : kGet ks ds k with
            | none => rw [hkg] at q3; exact q3.here R3 rz
            | some d => rw [hkg] at hg; obtain ⟨v', hv', _⟩ := hg; rw [hv'] at hvn; cases hvn
        · exact q3.elim
      · exact q1.elim
    | _ => exact q1.elim⟩
end

/-! ### for c in a text -/
def signsOf (z : Str) : List D := z.cps.toList.map fun c => .str ⟨#[c]⟩
def fStrI (d : D) (M : MH) : Res IV := match d with
  | .str z => .ok (.vals (signsOf z)) M
  | _ => .bad
def iStrD (m : EM) : Env2 → MH → Res IV := fun e M => (m e M).bind fStrI
theorem signs_len (z : Str) : (signsOf z).length = z.cps.size := by unfold signsOf; simp
theorem itV_str {g : Wd} {F : List Addr} {H : Hp} (z : Str) : ItV g (Its z) F H (signsOf z) where
  go := fun F' H' i gr hi => by rw [signs_len] at hi; exact hi
  yld := fun F' H' i x H2 gr hi hy => by
    obtain ⟨rfl, c, hc, rfl⟩ := hy
    refine ⟨fun _ _ q => q, .str ⟨#[c]⟩, ?_, .str _⟩
    unfold signsOf
    rw [List.getElem?_map, Array.getElem?_toList, hc]
    rfl
  stop := fun F' H' i gr hi => by rw [signs_len] at hi; exact hi
theorem itSim_str {g : Wd} {W : WY} {m1 : EM} : ItSim g W (iStrD m1) (iStr (tD g W m1)) := fun σ H F e M R RS q => by
  refine ⟨F, e, M, RS, ?_⟩
  unfold iStrD at q
  cases h1 : m1 e M with
  | bad => rw [h1] at q; exact q
  | exc c ns ds M' => rw [h1] at q; exact q
  | ok x M1 =>
    rw [h1] at q
    intro F1 H1 v g1 R1 rx
    cases rx with
    | str z => exact ⟨z, rfl, q F1 H1 _ g1 R1 (itV_str z)⟩
    | _ => exact q.elim
end T2
namespace T2
open PySem L2

/-! ### evaluation by rewriting: each construct's parts first, then the rest -/
section
variable {A B : Type} {e e1 : Env2} {M M1 : MH} {d x y : D} {c : Nat} {ns : List Str} {ds xs : List D} {k : Bool}
def qSeq (r : SR) (b : SM) : SR := match r with
  | .nx e1 M1 => b e1 M1
  | r => r
theorem z_seq {a b : SM} : sSeq a b e M = qSeq (a e M) b := rfl
theorem z_seq_nx {b : SM} : qSeq (.nx e1 M1) b = b e1 M1 := rfl
theorem z_seq_rt {b : SM} : qSeq (.rt d M1) b = .rt d M1 := rfl
theorem z_seq_ex {b : SM} : qSeq (.ex c ns ds e1 M1) b = .ex c ns ds e1 M1 := rfl
theorem z_seq_bk {b : SM} : qSeq (.bk e1 M1) b = .bk e1 M1 := rfl
theorem z_seq_ct {b : SM} : qSeq (.ct e1 M1) b = .ct e1 M1 := rfl
def qIf (r : Res Bool) (e : Env2) (a b : SM) : SR := r.toSB e fun k M1 => if k = true then a e M1 else b e M1
theorem z_if {c : BM} {a b : SM} : sIf c a b e M = qIf (c e M) e a b := rfl
theorem z_if_t {a b : SM} : qIf (.ok true M1) e a b = a e M1 := rfl
theorem z_if_f {a b : SM} : qIf (.ok false M1) e a b = b e M1 := rfl
theorem z_if_x {a b : SM} : qIf (.exc c ns ds M1) e a b = .ex c ns ds e M1 := rfl
def qSet (i : Nat) (e : Env2) (r : Res D) : SR := r.toS e fun d M1 => .nx (e.set i (some d)) M1
theorem z_set {i : Nat} {m : EM} : sSet i m e M = qSet i e (m e M) := rfl
theorem z_set_ok {i : Nat} : qSet i e (.ok d M1) = .nx (e.set i (some d)) M1 := rfl
theorem z_set_x {i : Nat} : qSet i e (.exc c ns ds M1) = .ex c ns ds e M1 := rfl
def qRet (e : Env2) (r : Res D) : SR := r.toS e fun d M1 => .rt d M1
theorem z_ret {m : EM} : sRet m e M = qRet e (m e M) := rfl
theorem z_ret_ok : qRet e (.ok d M1) = .rt d M1 := rfl
theorem z_ret_x : qRet e (.exc c ns ds M1) = .ex c ns ds e M1 := rfl
theorem z_retN : sRetN e M = .rt .non M := rfl
def qDo (e : Env2) (r : Res D) : SR := r.toS e fun _ M1 => .nx e M1
theorem z_do {m : EM} : sDo m e M = qDo e (m e M) := rfl
theorem z_do_ok : qDo e (.ok d M1) = .nx e M1 := rfl
theorem z_do_x : qDo e (.exc c ns ds M1) = .ex c ns ds e M1 := rfl
theorem z_nil : sNil e M = .nx e M := rfl
theorem z_raise0 {c : Nat} : sRaise0 c e M = .ex c [] [] e M := rfl
def qRaise (c n : Nat) (ns : List Str) (f : List D → List D) (e : Env2) (r : Res (List D)) : SR := match r with
  | .ok ds M1 => if ds.length = n then .ex c ns (f ds) e M1 else .bad
  | .exc c ns ds M1 => .ex c ns ds e M1
  | .bad => .bad
theorem z_raise {n : Nat} {f : List D → List D} {ma : AM} : sRaiseX c n ns f ma e M = qRaise c n ns f e (ma e M) := by unfold sRaiseX qRaise; cases ma e M <;> rfl
theorem z_raise_ok {n : Nat} {f : List D → List D} (h : ds.length = n) : qRaise c n ns f e (.ok ds M1) = .ex c ns (f ds) e M1 := if_pos h
theorem z_toR_rt : toR (.rt d M) = .ok d M := rfl
theorem z_toR_nx : toR (.nx e M) = .ok .non M := rfl
theorem z_toR_ex : toR (.ex c ns ds e M) = .exc c ns ds M := rfl
theorem z_fn {n : Nat} {b : SM} : fnB n b ds M = toR (b (env0 n ds) M) := rfl

/-! expressions -/
theorem z_c : eC d e M = .ok d M := rfl
def qVar (o : Option (Option D)) (M : MH) : Res D := match o with
  | some (some d) => .ok d M
  | _ => .bad
theorem z_var {n : Nat} : eVar n e M = qVar e[n]? M := rfl
theorem z_var_ok : qVar (some (some d)) M = .ok d M := rfl
def qUn (f : D → MH → Res D) (r : Res D) : Res D := r.bind f
theorem z_un {f : D → MH → Res D} {a : EM} : eUn f a e M = qUn f (a e M) := rfl
theorem z_un_ok {f : D → MH → Res D} : qUn f (.ok x M1) = f x M1 := rfl
theorem z_un_x {f : D → MH → Res D} : qUn f (.exc c ns ds M1) = .exc c ns ds M1 := rfl
def qBin (f : D → D → MH → Res D) (r : Res D) (b : EM) (e : Env2) : Res D := r.bind fun x M1 => (b e M1).bind fun y M2 => f x y M2
theorem z_bin {f : D → D → MH → Res D} {a b : EM} : eBin f a b e M = qBin f (a e M) b e := rfl
theorem z_bin_ok {f : D → D → MH → Res D} {b : EM} : qBin f (.ok x M1) b e = qUn (f x) (b e M1) := rfl
theorem z_bin_x {f : D → D → MH → Res D} {b : EM} : qBin f (.exc c ns ds M1) b e = .exc c ns ds M1 := rfl
theorem z_anil : eNil e M = .ok [] M := rfl
def qC2 (x : D) (r : Res (List D)) : Res (List D) := r.bind fun xs M2 => .ok (x :: xs) M2
def qC1 (r : Res D) (b : AM) (e : Env2) : Res (List D) := r.bind fun x M1 => (b e M1).bind fun xs M2 => .ok (x :: xs) M2
theorem z_cons {a : EM} {b : AM} : eCons a b e M = qC1 (a e M) b e := rfl
theorem z_cons1 {b : AM} : qC1 (.ok x M1) b e = qC2 x (b e M1) := rfl
theorem z_cons1x {b : AM} : qC1 (.exc c ns ds M1) b e = .exc c ns ds M1 := rfl
theorem z_cons2 : qC2 x (.ok xs M1) = .ok (x :: xs) M1 := rfl
theorem z_cons2x : qC2 x (.exc c ns ds M1) = .exc c ns ds M1 := rfl
def qArgs (f : List D → MH → Res D) (r : Res (List D)) : Res D := r.bind f
theorem z_args {f : List D → MH → Res D} {a : AM} : eArgs f a e M = qArgs f (a e M) := rfl
theorem z_args_ok {f : List D → MH → Res D} : qArgs f (.ok xs M1) = f xs M1 := rfl
theorem z_args_x {f : List D → MH → Res D} : qArgs f (.exc c ns ds M1) = .exc c ns ds M1 := rfl
def fTup (ds : List D) (M : MH) : Res D := if ds.length ≤ 1000 then .ok (.tup ds) M else .bad
theorem z_tup {a : AM} : eTup a e M = qArgs fTup (a e M) := rfl
theorem z_tup_ok (h : xs.length ≤ 1000) : fTup xs M = .ok (.tup xs) M := if_pos h
def fFro (ds : List D) (M : MH) : Res D := if ds.length ≤ 1000 then .ok (.fro ds) M else .bad
theorem z_fro {a : AM} : eFro a e M = qArgs fFro (a e M) := rfl
theorem z_fro_ok (h : xs.length ≤ 1000) : fFro xs M = .ok (.fro xs) M := if_pos h
def fLst (ds : List D) (M : MH) : Res D := if ds.length ≤ 1000 then .ok (.ref M.length) (M ++ [.lst ds]) else .bad
theorem z_lst {a : AM} : eLst a e M = qArgs fLst (a e M) := rfl
theorem z_lst_ok (h : xs.length ≤ 1000) : fLst xs M = .ok (.ref M.length) (M ++ [.lst xs]) := if_pos h
def fCall (n : Nat) (f : List D → MH → Res D) (ds : List D) (M : MH) : Res D := if ds.length = n then f ds M else .bad
theorem z_call {n : Nat} {f : List D → MH → Res D} {a : AM} : eCall n f a e M = qArgs (fCall n f) (a e M) := rfl
theorem z_stat {c n : Nat} {f : List D → MH → Res D} {a : AM} : eStat c n f a e M = qArgs (fCall n f) (a e M) := rfl
theorem z_call_ok {n : Nat} {f : List D → MH → Res D} (h : xs.length = n) : fCall n f xs M = f xs M := if_pos h
def qK (n k : Nat) (gD : List D → List D → List D) (f : List D → MH → Res D) (ds : List D) (r : Res (List D)) : Res D := r.bind fun zs M2 => if ds.length = n ∧ zs.length = k then f (gD ds zs) M2 else .bad
def qK1 (n k : Nat) (gD : List D → List D → List D) (f : List D → MH → Res D) (r : Res (List D)) (mk : AM) (e : Env2) : Res D := r.bind fun ds M1 => (mk e M1).bind fun zs M2 => if ds.length = n ∧ zs.length = k then f (gD ds zs) M2 else .bad
theorem z_callk {n k : Nat} {gD : List D → List D → List D} {f : List D → MH → Res D} {ma mk : AM} : eCallK n k gD f ma mk e M = qK1 n k gD f (ma e M) mk e := rfl
theorem z_callk1 {n k : Nat} {gD : List D → List D → List D} {f : List D → MH → Res D} {mk : AM} : qK1 n k gD f (.ok xs M1) mk e = qK n k gD f xs (mk e M1) := rfl
theorem z_callk2 {n k : Nat} {gD : List D → List D → List D} {f : List D → MH → Res D} {zs : List D} (h1 : xs.length = n) (h2 : zs.length = k) : qK n k gD f xs (.ok zs M1) = f (gD xs zs) M1 := if_pos ⟨h1, h2⟩
def fMakeF (c : Nat) (fs : List Str) (ds : List D) (M : MH) : Res D := if ds.length = fs.length then .ok (.ins c fs ds) M else .bad
theorem z_mkF {c : Nat} {fs : List Str} {a : AM} : eMakeF c fs a e M = qArgs (fMakeF c fs) (a e M) := rfl
theorem z_mkF_ok {c : Nat} {fs : List Str} (h : xs.length = fs.length) : fMakeF c fs xs M = .ok (.ins c fs xs) M := if_pos h
def fOwn1 (c : Nat) (f : List D → MH → Res D) (x : D) (M1 : MH) : Res D := match instOf M1 x with
  | some (c1, _, _) => if c1 = c then f [x] M1 else .bad
  | none => .bad
theorem z_own1 {c : Nat} {f : List D → MH → Res D} {a : EM} : eOwn1 c f a e M = qUn (fOwn1 c f) (a e M) := rfl
theorem z_own1_ok {c : Nat} {f : List D → MH → Res D} : fOwn1 c f (.ins c ns ds) M = f [.ins c ns ds] M := if_pos rfl
theorem z_prop {c : Nat} {f : List D → MH → Res D} {a : EM} : eProp c f a e M = qUn (fOwn1 c fun ds M => okR (f ds M)) (a e M) := rfl
def fOwn2 (c : Nat) (f : List D → MH → Res D) (x y : D) (M2 : MH) : Res D := if both M2 c x y = true then f [x, y] M2 else .bad
theorem z_own2 {c : Nat} {f : List D → MH → Res D} {a b : EM} : eOwn2 c f a b e M = qBin (fOwn2 c f) (a e M) b e := rfl
theorem z_own2_ok {c : Nat} {f : List D → MH → Res D} {ns' : List Str} {ds' : List D} : fOwn2 c f (.ins c ns ds) (.ins c ns' ds') M = f [.ins c ns ds, .ins c ns' ds'] M := by
  unfold fOwn2; rw [if_pos]; unfold both instOf; simp

/-! tests -/
def qVal (r : Res D) : Res Bool := r.bind asB
theorem z_val {m : EM} : bVal m e M = qVal (m e M) := rfl
theorem z_val_ok : qVal (.ok (.bl k) M1) = .ok k M1 := rfl
theorem z_val_x : qVal (.exc c ns ds M1) = .exc c ns ds M1 := rfl
def qAnd (r : Res Bool) (b : BM) (e : Env2) : Res Bool := r.bind fun c M1 => if c = true then b e M1 else .ok false M1
theorem z_and {a b : BM} : bAnd a b e M = qAnd (a e M) b e := rfl
theorem z_and_t {b : BM} : qAnd (.ok true M1) b e = b e M1 := rfl
theorem z_and_f {b : BM} : qAnd (.ok false M1) b e = .ok false M1 := rfl
def qOr (r : Res Bool) (b : BM) (e : Env2) : Res Bool := r.bind fun c M1 => if c = true then .ok true M1 else b e M1
theorem z_or {a b : BM} : bOr a b e M = qOr (a e M) b e := rfl
theorem z_or_t {b : BM} : qOr (.ok true M1) b e = .ok true M1 := rfl
theorem z_or_f {b : BM} : qOr (.ok false M1) b e = b e M1 := rfl
def qNot (r : Res Bool) : Res Bool := r.bind fun c M1 => .ok (!c) M1
theorem z_not {a : BM} : bNot a e M = qNot (a e M) := rfl
theorem z_not_ok : qNot (.ok k M1) = .ok (!k) M1 := rfl
theorem z_yes : bYes e M = .ok true M := rfl
def qEAnd (r : Res D) (b : EM) (e : Env2) : Res D := match r with
  | .ok (.bl true) M1 => b e M1
  | .ok (.bl false) M1 => .ok (.bl false) M1
  | .ok _ _ => .bad
  | .exc c ns ds M1 => .exc c ns ds M1
  | .bad => .bad
theorem z_eand {a b : EM} : eAnd a b e M = qEAnd (a e M) b e := by
  show Res.bind _ _ = _
  cases a e M with
  | ok d M1 => cases d <;> first | rfl | (rename_i b; cases b <;> rfl)
  | _ => rfl
theorem z_eand_t {b : EM} : qEAnd (.ok (.bl true) M1) b e = b e M1 := rfl
theorem z_eand_f {b : EM} : qEAnd (.ok (.bl false) M1) b e = .ok (.bl false) M1 := rfl
def qEOr (r : Res D) (b : EM) (e : Env2) : Res D := match r with
  | .ok (.bl false) M1 => b e M1
  | .ok (.bl true) M1 => .ok (.bl true) M1
  | .ok _ _ => .bad
  | .exc c ns ds M1 => .exc c ns ds M1
  | .bad => .bad
theorem z_eor {a b : EM} : eOr a b e M = qEOr (a e M) b e := by
  show Res.bind _ _ = _
  cases a e M with
  | ok d M1 => cases d <;> first | rfl | (rename_i b; cases b <;> rfl)
  | _ => rfl
theorem z_eor_t {b : EM} : qEOr (.ok (.bl true) M1) b e = .ok (.bl true) M1 := rfl
theorem z_eor_f {b : EM} : qEOr (.ok (.bl false) M1) b e = b e M1 := rfl
def qENot (r : Res D) : Res D := match r with
  | .ok (.bl k) M1 => .ok (.bl (!k)) M1
  | .ok _ _ => .bad
  | .exc c ns ds M1 => .exc c ns ds M1
  | .bad => .bad
theorem z_enot {a : EM} : eNot a e M = qENot (a e M) := by
  show Res.bind _ _ = _
  cases a e M with
  | ok d M1 => cases d <;> rfl
  | _ => rfl
theorem z_enot_ok : qENot (.ok (.bl k) M1) = .ok (.bl (!k)) M1 := rfl
def qEIf (r : Res Bool) (a b : EM) (e : Env2) : Res D := r.bind fun k M1 => if k = true then a e M1 else b e M1
theorem z_eif {c : BM} {a b : EM} : eIf c a b e M = qEIf (c e M) a b e := rfl
theorem z_eif_t {a b : EM} : qEIf (.ok true M1) a b e = a e M1 := rfl
theorem z_eif_f {a b : EM} : qEIf (.ok false M1) a b e = b e M1 := rfl

/-! loops: what is walked first -/
def qIt (r : Res IV) (tg : TgM) (body : SM) (e : Env2) : SR := match r with
  | .ok (.vals ds) M1 => forV tg body ds e M1
  | .ok (.live n) M1 => match M1[n]? with
    | some (.lst ds) => forL tg body n ds.length 0 e M1
    | _ => .bad
  | .exc c ns ds M1 => .ex c ns ds e M1
  | .bad => .bad
theorem z_for {it : Env2 → MH → Res IV} {tg : TgM} {body : SM} : sForI it tg body e M = qIt (it e M) tg body e := by
  unfold sForI qIt
  cases it e M with
  | ok iv M1 => cases iv <;> rfl
  | _ => rfl
theorem z_for_v {tg : TgM} {body : SM} : qIt (.ok (.vals ds) M1) tg body e = forV tg body ds e M1 := rfl
def qSeqI (r : Res D) : Res IV := r.bind ivOf
theorem z_iseq {m : EM} : iSeq m e M = qSeqI (m e M) := rfl
theorem z_iseq_t : qSeqI (.ok (.tup ds) M1) = .ok (.vals ds) M1 := rfl
theorem z_iseq_f : qSeqI (.ok (.fro ds) M1) = .ok (.vals ds) M1 := rfl
theorem z_iseq_r {n : Nat} : qSeqI (.ok (.ref n) M1) = .ok (.live n) M1 := rfl
def fRng (d : D) (M1 : MH) : Res IV := match d with
  | .int j => if -(2 ^ 62) ≤ j ∧ j < 2 ^ 62 then .ok (.vals (rangeD 0 j.toNat)) M1 else .bad
  | _ => .bad
def qRng (r : Res D) : Res IV := r.bind fRng
theorem z_rng {a : EM} : iRange1 a e M = qRng (a e M) := rfl
theorem z_rng_ok {i : Int} (h0 : 0 ≤ i) (h : i < 1000000) : qRng (.ok (.int i) M1) = .ok (.vals (rangeD 0 i.toNat)) M1 := by
  unfold qRng fRng
  rw [Res.bind_ok]
  dsimp only
  rw [if_pos ⟨by omega, by omega⟩]
theorem z_env0 {n : Nat} {ds : List D} : env0 n ds = ds.map some ++ List.replicate (n - ds.length) none := rfl
/-! try -/
def qTry (i : Nat) (ct : Nat → Option Bool) (suite : Nat → List Str → List D → SM) (r : SR) : SR := match r with
  | .ex c ns ds e1 M1 => match ct c with
    | some true => if i < e1.length then unbind i (suite c ns ds (e1.set i none) M1) else .bad
    | some false => .ex c ns ds e1 M1
    | none => .bad
  | r => r
theorem z_try {i : Nat} {ct : Nat → Option Bool} {body : SM} {suite : Nat → List Str → List D → SM} {e : Env2} {M : MH} : sTry i ct body suite e M = qTry i ct suite (body e M) := rfl
theorem z_try_nx {i : Nat} {ct : Nat → Option Bool} {suite : Nat → List Str → List D → SM} {e : Env2} {M : MH} : qTry i ct suite (.nx e M) = .nx e M := rfl
theorem z_try_rt {i : Nat} {ct : Nat → Option Bool} {suite : Nat → List Str → List D → SM} {d : D} {M : MH} : qTry i ct suite (.rt d M) = .rt d M := rfl
def qTry0 (ct : Nat → Option Bool) (suite : SM) (r : SR) : SR := match r with
  | .ex c ns ds e1 M1 => match ct c with
    | some true => match suite e1 M1 with
      | .ex _ _ _ _ _ => .bad
      | r => r
    | some false => .ex c ns ds e1 M1
    | none => .bad
  | r => r
theorem z_try0 {ct : Nat → Option Bool} {body suite : SM} {e : Env2} {M : MH} : sTry0 ct body suite e M = qTry0 ct suite (body e M) := rfl
theorem z_try0_nx {ct : Nat → Option Bool} {suite : SM} {e : Env2} {M : MH} : qTry0 ct suite (.nx e M) = .nx e M := rfl
theorem z_try0_rt {ct : Nat → Option Bool} {suite : SM} {d : D} {M : MH} : qTry0 ct suite (.rt d M) = .rt d M := rfl
/-! loops that keep an invariant -/
theorem loop_inv {body : SM} {tg : TgM} {I : Nat → Env2 → MH → Prop} : ∀ (ps : List D) (k : Nat) (e : Env2) (M : MH), I k e M → (∀ j (hj : j < ps.length) e M, I (k + j) e M → ∃ e1 e2 M2, tg ps[j] e = some e1 ∧ body e1 M = .nx e2 M2 ∧ I (k + j + 1) e2 M2) → ∃ e' M', forV tg body ps e M = .nx e' M' ∧ I (k + ps.length) e' M'
  | [], k, e, M, h, _ => ⟨e, M, rfl, h⟩
  | p :: ps, k, e, M, h, hs => by
    obtain ⟨e1, e2, M2, ht, hb, hi⟩ := hs 0 (by simp) e M h
    obtain ⟨e', M', he, hI⟩ := loop_inv (body := body) (tg := tg) (I := I) ps (k + 1) e2 M2 hi fun j hj e M hh => by
      have := hs (j + 1) (by simp; omega) e M (by rw [show k + (j + 1) = k + 1 + j by omega]; exact hh)
      rw [show k + (j + 1) + 1 = k + 1 + j + 1 by omega] at this
      exact this
    refine ⟨e', M', ?_, by rw [List.length_cons, show k + (ps.length + 1) = k + 1 + ps.length by omega]; exact hI⟩
    unfold forV
    simp only [List.getElem_cons_zero] at ht
    rw [ht]
    simp only [hb]
    exact he
/-- each item alone: what is walked is a member -/
theorem loop_mem {body : SM} {tg : TgM} {I : Env2 → MH → Prop} (ps : List D) (e : Env2) (M : MH) (h : I e M) (hs : ∀ p ∈ ps, ∀ e M, I e M → ∃ e1 e2 M2, tg p e = some e1 ∧ body e1 M = .nx e2 M2 ∧ I e2 M2) : ∃ e' M', forV tg body ps e M = .nx e' M' ∧ I e' M' :=
  loop_inv (I := fun _ e M => I e M) ps 0 e M h fun j hj e M hh => hs _ (List.getElem_mem hj) e M hh
theorem forL_keep {tg : TgM} {body : SM} {n : Nat} {ds : List D} {M : MH} (hM : M[n]? = some (.lst ds)) {I : Nat → Env2 → Prop} (step : ∀ i x e, ds[i]? = some x → I i e → ∃ e1 e2, tg x e = some e1 ∧ body e1 M = .nx e2 M ∧ I (i + 1) e2) :
    ∀ (k i : Nat) (e : Env2), i + k = ds.length → I i e → ∃ e', forL tg body n k i e M = .nx e' M ∧ I ds.length e'
  | 0, i, e, hk, h => by
    refine ⟨e, ?_, by rw [← hk]; exact h⟩
    unfold forL; rw [hM]; dsimp only; rw [if_pos (by omega)]
  | k + 1, i, e, hk, h => by
    have hi : i < ds.length := by omega
    have hx := List.getElem?_eq_getElem hi
    obtain ⟨e1, e2, ht, hb, h2⟩ := step i _ e hx h
    obtain ⟨e', he, h3⟩ := forL_keep hM step k (i + 1) e2 (by omega) h2
    refine ⟨e', ?_, h3⟩
    unfold forL; rw [hM]; dsimp only; rw [hx]; dsimp only; rw [ht]; dsimp only; rw [hb]; exact he
theorem z_for_l {tg : TgM} {body : SM} {e : Env2} {M : MH} {n : Nat} {ds : List D} (h : M[n]? = some (.lst ds)) : qIt (.ok (.live n) M) tg body e = forL tg body n ds.length 0 e M := by
  unfold qIt; dsimp only; rw [h]
theorem draw_at {R : MH} {s : Bx} {n : Int} (hs : BxOk s) (h1 : 0 < n) (h2 : n < 1073741824) : ∃ r s', drawM [.ref 0, .int n] (s.obj :: R) = .ok (.int r) (s'.obj :: R) ∧ 0 ≤ r ∧ r < n ∧ BxOk s' :=
  draw_spec (M := s.obj :: R) (b := 0) ⟨rfl, hs⟩ h1 h2
def srM (r : SR) : MH := match r with
  | .nx _ M => M
  | .rt _ M => M
  | .bk _ M => M
  | .ct _ M => M
  | .ex _ _ _ _ M => M
  | .bad => []
def srE (r : SR) : Env2 := match r with
  | .nx e _ => e
  | .bk e _ => e
  | .ct e _ => e
  | .ex _ _ _ e _ => e
  | _ => []
/-! a loop's turns one by one -/
def qFv (tg : TgM) (body : SM) (xs : List D) (r : SR) : SR := match r with
  | .nx e2 M2 => forV tg body xs e2 M2
  | .ct e2 M2 => forV tg body xs e2 M2
  | .bk e2 M2 => .nx e2 M2
  | .rt d M2 => .rt d M2
  | .ex c ns ds e2 M2 => .ex c ns ds e2 M2
  | .bad => .bad
theorem z_fv {i : Nat} {body : SM} {x : D} {xs : List D} {e : Env2} {M : MH} : forV (tgName i) body (x :: xs) e M = qFv (tgName i) body xs (body (e.set i (some x)) M) := by
  unfold forV tgName qFv
  dsimp only
  first
    | done
    | (cases body (e.set i (some x)) M <;> rfl)
theorem z_fv0 {tg : TgM} {body : SM} {e : Env2} {M : MH} : forV tg body [] e M = .nx e M := rfl
theorem z_fv_nx {tg : TgM} {body : SM} {xs : List D} {e : Env2} {M : MH} : qFv tg body xs (.nx e M) = forV tg body xs e M := rfl
theorem z_fv_ct {tg : TgM} {body : SM} {xs : List D} {e : Env2} {M : MH} : qFv tg body xs (.ct e M) = forV tg body xs e M := rfl
theorem z_fv_rt {tg : TgM} {body : SM} {xs : List D} {d : D} {M : MH} : qFv tg body xs (.rt d M) = .rt d M := rfl
/-! comprehensions -/
def qLc (tg : TgM) (tt : BM) (m : EM) (vs : List Nat) (e : Env2) (r : Res IV) : Res D := match r with
  | .ok (.vals ds) M1 => lcV tg tt m (wipe2 e vs) M1.length ds (M1 ++ [.lst []])
  | .ok (.live s) M1 => match M1[s]? with
    | some (.lst ds) => lcL tg tt m (wipe2 e vs) M1.length s ds.length 0 (M1 ++ [.lst []])
    | _ => .bad
  | .exc c ns ds M1 => .exc c ns ds M1
  | .bad => .bad
theorem z_lc {it : Env2 → MH → Res IV} {tg : TgM} {tt : BM} {m : EM} {vs : List Nat} {e : Env2} {M : MH} : eLc it tg tt m vs e M = qLc tg tt m vs e (it e M) := by
  unfold eLc qLc
  cases it e M with
  | ok iv M1 => cases iv <;> rfl
  | _ => rfl
theorem z_lc_v {tg : TgM} {tt : BM} {m : EM} {vs : List Nat} {e : Env2} {M : MH} {ds : List D} : qLc tg tt m vs e (.ok (.vals ds) M) = lcV tg tt m (wipe2 e vs) M.length ds (M ++ [.lst []]) := rfl
def qStep (r : Res D) : Res (Option D) := (noX r).bind fun y M2 => .ok (some y) M2
theorem z_step {i : Nat} {m : EM} {e : Env2} {x : D} {M : MH} : lcStep (tgName i) bYes m e x M = qStep (m (e.set i (some x)) M) := rfl
theorem z_step_ok {y : D} {M : MH} : qStep (.ok y M) = .ok (some y) M := rfl
theorem lc_inv {tg : TgM} {tt : BM} {m : EM} {e : Env2} {n : Nat} {I : List D → MH → Prop} : ∀ (xs : List D) (step : ∀ x ∈ xs, ∀ acc M, M[n]? = some (.lst acc) → I acc M → ∃ y M1, lcStep tg tt m e x M = .ok (some y) M1 ∧ M1[n]? = some (.lst acc) ∧ I (acc ++ [y]) (M1.set n (.lst (acc ++ [y])))) (acc : List D) (M : MH),
    M[n]? = some (.lst acc) → I acc M → acc.length + xs.length ≤ 1000 → ∃ acc' M', lcV tg tt m e n xs M = .ok (.ref n) M' ∧ M'[n]? = some (.lst acc') ∧ I acc' M' ∧ acc'.length = acc.length + xs.length
  | [], _, acc, M, hM, hI, _ => ⟨acc, M, rfl, hM, hI, by simp⟩
  | x :: xs, step, acc, M, hM, hI, hz => by
    obtain ⟨y, M1, h1, h2, h3⟩ := step x (by simp) acc M hM hI
    have hn : n < M1.length := (List.getElem?_eq_some_iff.mp h2).1
    obtain ⟨acc', M', h4, h5, h6, h7⟩ := lc_inv (tg := tg) (tt := tt) (m := m) (e := e) (n := n) (I := I) xs (fun x hx => step x (by simp [hx])) (acc ++ [y]) (M1.set n (.lst (acc ++ [y]))) (by rw [List.getElem?_set_self hn]) h3 (by simp at hz ⊢; omega)
    refine ⟨acc', M', ?_, h5, h6, by simp at h7 ⊢; omega⟩
    unfold lcV
    rw [h1, Res.bind_ok]
    have hp : pushAt n (some y) M1 = some (M1.set n (.lst (acc ++ [y]))) := by
      unfold pushAt
      dsimp only
      rw [h2]
      dsimp only
      rw [if_pos (by simp at hz; unfold big; omega)]
    rw [hp]
    exact h4
/-! the box -/
def boxM : List D → MH → Res D := fnB 1 (sRet (eLst (eCons (eArgs dListF (eCons (eVar 0) (eNil))) (eCons (eC (.int 0)) (eCons (eC (.int 0)) (eCons (eC (.int 0)) (eCons (eC (.int 0)) (eNil))))))))
theorem box_run {ns : List Int} (hl : ns.length ≤ 63) : boxM [.fro (ns.map D.int)] [] = .ok (.ref 0) [(⟨ns, 0, 0, 0, 0⟩ : Bx).obj] := by
  have : (ns.map D.int).length ≤ 1000 := by rw [List.length_map]; omega
  unfold boxM
  rw [z_fn]
  have e1 : ∀ M, dListF [.fro (ns.map D.int)] M = .ok (.fro (ns.map D.int)) M := fun M => by unfold dListF items; rfl
  simp only [z_ret, z_lst, z_cons, z_args, z_var, z_env0, List.map_cons, List.map_nil, List.length_cons, List.length_nil, Nat.reduceAdd, Nat.reduceSub, List.replicate, List.append_nil, List.getElem?_cons_zero, z_var_ok, z_cons1, z_anil, z_cons2, z_args_ok, e1, z_c, z_ret_ok, z_toR_rt]
  rfl
/-! a list that is walked while nothing changes -/
theorem forL_forV {tg : TgM} {body : SM} {n : Nat} {ds : List D} {M : MH} (hM : M[n]? = some (.lst ds)) (hb : ∀ e e2 M2, (body e M = .nx e2 M2 ∨ body e M = .ct e2 M2) → M2 = M) : ∀ (k i : Nat) (e : Env2), i + k = ds.length → forL tg body n k i e M = forV tg body (ds.drop i) e M
  | 0, i, e, hk => by
    unfold forL
    rw [hM]
    dsimp only
    rw [if_pos (by omega), List.drop_eq_nil_of_le (by omega)]
    rfl
  | k + 1, i, e, hk => by
    have hi : i < ds.length := by omega
    have hx := List.getElem?_eq_getElem hi
    unfold forL
    rw [hM]
    dsimp only
    rw [hx, drop_cons' hx]
    dsimp only
    conv => rhs; unfold forV
    cases ht : tg ds[i] e with
    | none => rfl
    | some e1 =>
      dsimp only
      cases hq : body e1 M with
      | nx e2 M2 =>
        have := hb e1 e2 M2 (.inl hq)
        subst this
        exact forL_forV hM hb k (i + 1) e2 (by omega)
      | ct e2 M2 =>
        have := hb e1 e2 M2 (.inr hq)
        subst this
        exact forL_forV hM hb k (i + 1) e2 (by omega)
      | _ => rfl
theorem items_ref {M : MH} {l : D} {ds : List D} (h : listItems M l = some ds) : l = .fro ds ∨ ∃ n, l = .ref n ∧ M[n]? = some (.lst ds) := by
  unfold listItems at h
  split at h
  · cases h; exact .inl rfl
  · rename_i n
    split at h
    · rename_i ds' hm; cases h; exact .inr ⟨n, rfl, hm⟩
    · cases h
  · cases h
/-- a list's items, walked -/
theorem for_items {tg : TgM} {body : SM} {m : EM} {e : Env2} {M : MH} {l : D} {ds : List D} (hm : m e M = .ok l M) (h : listItems M l = some ds) (hb : ∀ e e2 M2, (body e M = .nx e2 M2 ∨ body e M = .ct e2 M2) → M2 = M) : sForI (iSeq m) tg body e M = forV tg body ds e M := by
  rw [z_for, z_iseq, hm]
  rcases items_ref h with rfl | ⟨n, rfl, hn⟩
  · rfl
  · rw [z_iseq_r, z_for_l hn, forL_forV hn hb ds.length 0 e (by omega)]
    rfl
def qStrI (r : Res D) : Res IV := r.bind fStrI
theorem z_istr {m : EM} {e : Env2} {M : MH} : iStrD m e M = qStrI (m e M) := rfl
theorem z_istr_ok {z : Str} {M : MH} : qStrI (.ok (.str z) M) = .ok (.vals (signsOf z)) M := rfl
end
end T2
namespace T2
open PySem L2

/-! ### the laws' own comparison -/
def alikeL (self : List D → MH → Res D) : SM :=
    sIf (bNot (bVal (eCall 2 self (eCons (eBin dIxA (eVar 0) (eVar 2)) (eCons (eBin dIxA (eVar 1) (eVar 2)) (eNil))))))
    (sRet (eC (.bl false)))
    (sNil)
def alikeT (self : List D → MH → Res D) : SM :=
    sSeq (sForI (iRange1 (eArgs dLen (eCons (eVar 1) (eNil)))) (tgName 2) (alikeL self))
    (sRet (eC (.bl true)))
def alikeB (isi : Tg → Tg → Option Bool) (self : List D → MH → Res D) : SM :=
    sSeq (sIf (bVal (eBin dIs (eVar 1) (eC .non)))
    (sRet (eBin dIs (eVar 0) (eC .non)))
    (sNil))
    (sSeq (sIf (bOr (bVal (eBin dIs (eVar 1) (eC (.bl true)))) (bVal (eBin dIs (eVar 1) (eC (.bl false)))))
    (sRet (eAnd (eArgs (dIsi isi) (eCons (eVar 0) (eCons (eC (.ty "bool")) (eNil)))) (eBin dEq (eVar 0) (eVar 1))))
    (sNil))
    (sSeq (sIf (bVal (eArgs (dIsi isi) (eCons (eVar 1) (eCons (eC (.ty "int")) (eNil)))))
    (sRet (eAnd (eArgs (dIsi isi) (eCons (eVar 0) (eCons (eC (.ty "int")) (eNil)))) (eAnd (eNot (eArgs (dIsi isi) (eCons (eVar 0) (eCons (eC (.ty "bool")) (eNil))))) (eBin dEq (eVar 0) (eVar 1)))))
    (sNil))
    (sSeq (sIf (bVal (eArgs (dIsi isi) (eCons (eVar 1) (eCons (eC (.ty "str")) (eNil)))))
    (sRet (eAnd (eArgs (dIsi isi) (eCons (eVar 0) (eCons (eC (.ty "str")) (eNil)))) (eBin dEq (eVar 0) (eVar 1))))
    (sNil))
    (sSeq (sIf (bVal (eArgs (dIsi isi) (eCons (eVar 1) (eCons (eC (.ty "tuple")) (eNil)))))
    (sIf (bOr (bNot (bVal (eArgs (dIsi isi) (eCons (eVar 0) (eCons (eC (.ty "tuple")) (eNil)))))) (bVal (eBin dNe (eArgs dLen (eCons (eVar 0) (eNil))) (eArgs dLen (eCons (eVar 1) (eNil))))))
    (sRet (eC (.bl false)))
    (sNil))
    (sIf (bOr (bNot (bVal (eArgs (dIsi isi) (eCons (eVar 0) (eCons (eC (.ty "list")) (eNil)))))) (bVal (eBin dNe (eArgs dLen (eCons (eVar 0) (eNil))) (eArgs dLen (eCons (eVar 1) (eNil))))))
    (sRet (eC (.bl false)))
    (sNil)))
    (alikeT self)))))
def alikeM (isi : Tg → Tg → Option Bool) : Nat → List D → MH → Res D
  | 0 => fun _ _ => .bad
  | n + 1 => fnB 3 (alikeB isi (alikeM isi n))
/-- what isinstance says of the written types -/
structure IsiB (isi : Tg → Tg → Option Bool) : Prop where
  bb : isi (.inl "bool") (.inl "bool") = some true
  ii : isi (.inl "int") (.inl "int") = some true
  ib : isi (.inl "int") (.inl "bool") = some false
  si : isi (.inl "str") (.inl "int") = some false
  ss : isi (.inl "str") (.inl "str") = some true
  ti : isi (.inl "tuple") (.inl "int") = some false
  ts : isi (.inl "tuple") (.inl "str") = some false
  tt : isi (.inl "tuple") (.inl "tuple") = some true
  li : isi (.inl "list") (.inl "int") = some false
  ls : isi (.inl "list") (.inl "str") = some false
  lt : isi (.inl "list") (.inl "tuple") = some false
  ll : isi (.inl "list") (.inl "list") = some true
theorem isi_of {isi : Tg → Tg → Option Bool} {M : MH} {x : D} {c : String} {t : Tg} {b : Bool} (h1 : tagOf M x = some t) (h2 : isi t (.inl c) = some b) : dIsi isi [x, .ty c] M = .ok (.bl b) M := by
  unfold dIsi
  dsimp only [clsTag]
  rw [h1]
  dsimp only
  rw [h2]
theorem ne_int {i j : Int} {M : MH} : dNe (.int i) (.int j) M = .ok (.bl (!(i == j))) M := by
  unfold dNe
  simp [toP, toPa, SeqAt.shaped, PyData.canLay0, PyData.depth, PyData.eqv]
theorem eq_bl {a b : Bool} {M : MH} : dEq (.bl a) (.bl b) M = .ok (.bl (a == b)) M := by
  cases a <;> cases b <;> kernel_rfl
/-- x is a tuple (t) or a list with the items xs -/
def SeqOf (M : MH) (t : String) (x : D) (xs : List D) : Prop := (t = "tuple" ∧ x = .tup xs) ∨ (t = "list" ∧ listItems M x = some xs)
theorem SeqOf.tag {M : MH} {t : String} {x : D} {xs : List D} (h : SeqOf M t x xs) : tagOf M x = some (.inl t) := by
  rcases h with ⟨rfl, rfl⟩ | ⟨rfl, h⟩
  · rfl
  · rcases items_ref h with rfl | ⟨n, rfl, hn⟩
    · rfl
    · unfold tagOf; dsimp only; rw [hn]
theorem SeqOf.is {M : MH} {t : String} {x : D} {xs : List D} (h : SeqOf M t x xs) : dIs x .non M = .ok (.bl false) M ∧ dIs x (.bl true) M = .ok (.bl false) M ∧ dIs x (.bl false) M = .ok (.bl false) M := by
  rcases h with ⟨rfl, rfl⟩ | ⟨rfl, h⟩
  · exact ⟨rfl, rfl, rfl⟩
  · rcases items_ref h with rfl | ⟨n, rfl, hn⟩ <;> exact ⟨rfl, rfl, rfl⟩
theorem SeqOf.len {M : MH} {t : String} {x : D} {xs : List D} (h : SeqOf M t x xs) : dLen [x] M = .ok (.int xs.length) M := by
  rcases h with ⟨rfl, rfl⟩ | ⟨rfl, h⟩
  · rfl
  · rcases items_ref h with rfl | ⟨n, rfl, hn⟩
    · rfl
    · unfold dLen items
      dsimp only
      rw [hn]
theorem ix_seq' {M : MH} {x : D} {xs : List D} {j : Nat} {a : D} (hi : items M x = some xs) (hd : ∀ n ks ds, x = .ref n → M[n]? ≠ some (.dk ks ds)) (ha : xs[j]? = some a) : dIxA x (.int j) M = .ok a M := by
  have hl : j < xs.length := (List.getElem?_eq_some_iff.mp ha).1
  have hat : atI xs (j : Int) = some a := by
    unfold atI ixN
    rw [if_pos (by omega), if_pos (by omega)]
    exact ha
  have key : dIx x (.int j) M = .ok a M := by
    unfold dIx
    dsimp only
    cases x with
    | str z => cases hi
    | _ => dsimp only; rw [hi]; dsimp only; rw [hat]
  unfold dIxA
  split
  · rename_i n
    split
    · rename_i ks ds hm
      exact absurd hm (hd n ks ds rfl)
    · exact key
  · exact key
theorem SeqOf.ix {M : MH} {t : String} {x : D} {xs : List D} {j : Nat} {a : D} (h : SeqOf M t x xs) (ha : xs[j]? = some a) : dIxA x (.int j) M = .ok a M := by
  rcases h with ⟨rfl, rfl⟩ | ⟨rfl, h⟩
  · exact ix_seq' rfl (fun n ks ds z => by cases z) ha
  · rcases items_ref h with rfl | ⟨n, rfl, hn⟩
    · exact ix_seq' rfl (fun n ks ds z => by cases z) ha
    · refine ix_seq' (by unfold items; dsimp only; rw [hn]) (fun n' ks ds z => ?_) ha
      cases z
      rw [hn]
      intro q
      cases q
/-- two values that stand for the same data -/
def Same (M : MH) : Nat → D → D → Prop
  | 0, _, _ => False
  | k + 1, x, y => (x = .non ∧ y = .non) ∨ (∃ b, x = .bl b ∧ y = .bl b) ∨ (∃ i, x = .int i ∧ y = .int i) ∨ (∃ s, x = .str s ∧ y = .str s ∧ PyData.strOk s = true) ∨
    ∃ t xs ys, SeqOf M t x xs ∧ SeqOf M t y ys ∧ xs.length = ys.length ∧ xs.length ≤ 1000 ∧ ∀ (i : Nat) (a b : D), xs[i]? = some a → ys[i]? = some b → Same M k a b
theorem alike_same {isi : Tg → Tg → Option Bool} (B : IsiB isi) {M : MH} : ∀ (k : Nat) (x y : D), Same M k x y → alikeM isi k [x, y] M = .ok (.bl true) M
  | 0, _, _, h => h.elim
  | k + 1, x, y, h => by
    rw [alikeM, z_fn, alikeB]
    rcases h with ⟨rfl, rfl⟩ | ⟨b, rfl, rfl⟩ | ⟨i, rfl, rfl⟩ | ⟨s, rfl, rfl, hs⟩ | ⟨t, xs, ys, hx, hy, hl, hz, hs⟩
    · have f1 : dIs .non .non M = .ok (.bl true) M := rfl
      simp only [z_seq, z_seq_nx, z_seq_rt, z_seq_ex, z_seq_bk, z_seq_ct, z_if, z_if_t, z_if_f, z_if_x, z_set, z_set_ok, z_set_x, z_ret, z_ret_ok, z_ret_x, z_retN, z_do, z_do_ok, z_do_x, z_nil, z_raise0, z_raise, z_raise_ok, z_toR_rt, z_toR_nx, z_toR_ex, z_c, z_var, z_var_ok, z_un, z_un_ok, z_un_x, z_bin, z_bin_ok, z_bin_x, z_anil, z_cons, z_cons1, z_cons1x, z_cons2, z_cons2x, z_args, z_args_ok, z_args_x, z_tup, z_tup_ok, z_fro, z_fro_ok, z_lst, z_lst_ok, z_call, z_stat, z_call_ok, z_callk, z_callk1, z_callk2, z_mkF, z_mkF_ok, z_own1, z_own1_ok, z_prop, z_own2, z_own2_ok, z_val, z_val_ok, z_val_x, z_and, z_and_t, z_and_f, z_or, z_or_t, z_or_f, z_not, z_not_ok, z_yes, z_eand, z_eand_t, z_eand_f, z_eor, z_eor_t, z_eor_f, z_enot, z_enot_ok, z_eif, z_eif_t, z_eif_f, z_for, z_for_v, z_iseq, z_iseq_t, z_iseq_f, z_iseq_r, z_rng, z_rng_ok, z_env0, z_try, z_try_nx, z_try_rt, z_try0, z_try0_nx, z_try0_rt, z_for_l, z_fv0, z_fv_nx, z_fv_ct, z_fv_rt, z_lc, z_lc_v, z_step, z_step_ok, z_istr, z_istr_ok, z_env0, List.map_cons, List.map_nil, List.replicate, List.append_nil, Nat.reduceSub, List.cons_append, List.nil_append, List.length_cons, List.length_nil, Nat.reduceAdd, Nat.reduceLeDiff, List.getElem?_cons_zero, List.getElem?_cons_succ, List.set_cons_zero, List.set_cons_succ, Bool.not_true, Bool.not_false, f1]
    · have f1 : dIs (.bl b) .non M = .ok (.bl false) M := by cases b <;> rfl
      have g1 : dIsi isi [.bl b, .ty "bool"] M = .ok (.bl true) M := isi_of rfl B.bb
      cases b
      · have f2 : dIs (.bl false) (.bl true) M = .ok (.bl false) M := rfl
        have f3 : dIs (.bl false) (.bl false) M = .ok (.bl true) M := rfl
        simp only [z_seq, z_seq_nx, z_seq_rt, z_seq_ex, z_seq_bk, z_seq_ct, z_if, z_if_t, z_if_f, z_if_x, z_set, z_set_ok, z_set_x, z_ret, z_ret_ok, z_ret_x, z_retN, z_do, z_do_ok, z_do_x, z_nil, z_raise0, z_raise, z_raise_ok, z_toR_rt, z_toR_nx, z_toR_ex, z_c, z_var, z_var_ok, z_un, z_un_ok, z_un_x, z_bin, z_bin_ok, z_bin_x, z_anil, z_cons, z_cons1, z_cons1x, z_cons2, z_cons2x, z_args, z_args_ok, z_args_x, z_tup, z_tup_ok, z_fro, z_fro_ok, z_lst, z_lst_ok, z_call, z_stat, z_call_ok, z_callk, z_callk1, z_callk2, z_mkF, z_mkF_ok, z_own1, z_own1_ok, z_prop, z_own2, z_own2_ok, z_val, z_val_ok, z_val_x, z_and, z_and_t, z_and_f, z_or, z_or_t, z_or_f, z_not, z_not_ok, z_yes, z_eand, z_eand_t, z_eand_f, z_eor, z_eor_t, z_eor_f, z_enot, z_enot_ok, z_eif, z_eif_t, z_eif_f, z_for, z_for_v, z_iseq, z_iseq_t, z_iseq_f, z_iseq_r, z_rng, z_rng_ok, z_env0, z_try, z_try_nx, z_try_rt, z_try0, z_try0_nx, z_try0_rt, z_for_l, z_fv0, z_fv_nx, z_fv_ct, z_fv_rt, z_lc, z_lc_v, z_step, z_step_ok, z_istr, z_istr_ok, z_env0, List.map_cons, List.map_nil, List.replicate, List.append_nil, Nat.reduceSub, List.cons_append, List.nil_append, List.length_cons, List.length_nil, Nat.reduceAdd, Nat.reduceLeDiff, List.getElem?_cons_zero, List.getElem?_cons_succ, List.set_cons_zero, List.set_cons_succ, Bool.not_true, Bool.not_false, f1, f2, f3, g1, eq_bl, beq_self_eq_true]
      · have f2 : dIs (.bl true) (.bl true) M = .ok (.bl true) M := rfl
        simp only [z_seq, z_seq_nx, z_seq_rt, z_seq_ex, z_seq_bk, z_seq_ct, z_if, z_if_t, z_if_f, z_if_x, z_set, z_set_ok, z_set_x, z_ret, z_ret_ok, z_ret_x, z_retN, z_do, z_do_ok, z_do_x, z_nil, z_raise0, z_raise, z_raise_ok, z_toR_rt, z_toR_nx, z_toR_ex, z_c, z_var, z_var_ok, z_un, z_un_ok, z_un_x, z_bin, z_bin_ok, z_bin_x, z_anil, z_cons, z_cons1, z_cons1x, z_cons2, z_cons2x, z_args, z_args_ok, z_args_x, z_tup, z_tup_ok, z_fro, z_fro_ok, z_lst, z_lst_ok, z_call, z_stat, z_call_ok, z_callk, z_callk1, z_callk2, z_mkF, z_mkF_ok, z_own1, z_own1_ok, z_prop, z_own2, z_own2_ok, z_val, z_val_ok, z_val_x, z_and, z_and_t, z_and_f, z_or, z_or_t, z_or_f, z_not, z_not_ok, z_yes, z_eand, z_eand_t, z_eand_f, z_eor, z_eor_t, z_eor_f, z_enot, z_enot_ok, z_eif, z_eif_t, z_eif_f, z_for, z_for_v, z_iseq, z_iseq_t, z_iseq_f, z_iseq_r, z_rng, z_rng_ok, z_env0, z_try, z_try_nx, z_try_rt, z_try0, z_try0_nx, z_try0_rt, z_for_l, z_fv0, z_fv_nx, z_fv_ct, z_fv_rt, z_lc, z_lc_v, z_step, z_step_ok, z_istr, z_istr_ok, z_env0, List.map_cons, List.map_nil, List.replicate, List.append_nil, Nat.reduceSub, List.cons_append, List.nil_append, List.length_cons, List.length_nil, Nat.reduceAdd, Nat.reduceLeDiff, List.getElem?_cons_zero, List.getElem?_cons_succ, List.set_cons_zero, List.set_cons_succ, Bool.not_true, Bool.not_false, f1, f2, g1, eq_bl, beq_self_eq_true]
    · have f1 : dIs (.int i) .non M = .ok (.bl false) M := rfl
      have f2 : dIs (.int i) (.bl true) M = .ok (.bl false) M := rfl
      have f3 : dIs (.int i) (.bl false) M = .ok (.bl false) M := rfl
      have g1 : dIsi isi [.int i, .ty "int"] M = .ok (.bl true) M := isi_of rfl B.ii
      have g2 : dIsi isi [.int i, .ty "bool"] M = .ok (.bl false) M := isi_of rfl B.ib
      simp only [z_seq, z_seq_nx, z_seq_rt, z_seq_ex, z_seq_bk, z_seq_ct, z_if, z_if_t, z_if_f, z_if_x, z_set, z_set_ok, z_set_x, z_ret, z_ret_ok, z_ret_x, z_retN, z_do, z_do_ok, z_do_x, z_nil, z_raise0, z_raise, z_raise_ok, z_toR_rt, z_toR_nx, z_toR_ex, z_c, z_var, z_var_ok, z_un, z_un_ok, z_un_x, z_bin, z_bin_ok, z_bin_x, z_anil, z_cons, z_cons1, z_cons1x, z_cons2, z_cons2x, z_args, z_args_ok, z_args_x, z_tup, z_tup_ok, z_fro, z_fro_ok, z_lst, z_lst_ok, z_call, z_stat, z_call_ok, z_callk, z_callk1, z_callk2, z_mkF, z_mkF_ok, z_own1, z_own1_ok, z_prop, z_own2, z_own2_ok, z_val, z_val_ok, z_val_x, z_and, z_and_t, z_and_f, z_or, z_or_t, z_or_f, z_not, z_not_ok, z_yes, z_eand, z_eand_t, z_eand_f, z_eor, z_eor_t, z_eor_f, z_enot, z_enot_ok, z_eif, z_eif_t, z_eif_f, z_for, z_for_v, z_iseq, z_iseq_t, z_iseq_f, z_iseq_r, z_rng, z_rng_ok, z_env0, z_try, z_try_nx, z_try_rt, z_try0, z_try0_nx, z_try0_rt, z_for_l, z_fv0, z_fv_nx, z_fv_ct, z_fv_rt, z_lc, z_lc_v, z_step, z_step_ok, z_istr, z_istr_ok, z_env0, List.map_cons, List.map_nil, List.replicate, List.append_nil, Nat.reduceSub, List.cons_append, List.nil_append, List.length_cons, List.length_nil, Nat.reduceAdd, Nat.reduceLeDiff, List.getElem?_cons_zero, List.getElem?_cons_succ, List.set_cons_zero, List.set_cons_succ, Bool.not_true, Bool.not_false, f1, f2, f3, g1, g2, eq_int, beq_self_eq_true]
    · have f1 : dIs (.str s) .non M = .ok (.bl false) M := rfl
      have f2 : dIs (.str s) (.bl true) M = .ok (.bl false) M := rfl
      have f3 : dIs (.str s) (.bl false) M = .ok (.bl false) M := rfl
      have g1 : dIsi isi [.str s, .ty "int"] M = .ok (.bl false) M := isi_of rfl B.si
      have g2 : dIsi isi [.str s, .ty "str"] M = .ok (.bl true) M := isi_of rfl B.ss
      simp only [z_seq, z_seq_nx, z_seq_rt, z_seq_ex, z_seq_bk, z_seq_ct, z_if, z_if_t, z_if_f, z_if_x, z_set, z_set_ok, z_set_x, z_ret, z_ret_ok, z_ret_x, z_retN, z_do, z_do_ok, z_do_x, z_nil, z_raise0, z_raise, z_raise_ok, z_toR_rt, z_toR_nx, z_toR_ex, z_c, z_var, z_var_ok, z_un, z_un_ok, z_un_x, z_bin, z_bin_ok, z_bin_x, z_anil, z_cons, z_cons1, z_cons1x, z_cons2, z_cons2x, z_args, z_args_ok, z_args_x, z_tup, z_tup_ok, z_fro, z_fro_ok, z_lst, z_lst_ok, z_call, z_stat, z_call_ok, z_callk, z_callk1, z_callk2, z_mkF, z_mkF_ok, z_own1, z_own1_ok, z_prop, z_own2, z_own2_ok, z_val, z_val_ok, z_val_x, z_and, z_and_t, z_and_f, z_or, z_or_t, z_or_f, z_not, z_not_ok, z_yes, z_eand, z_eand_t, z_eand_f, z_eor, z_eor_t, z_eor_f, z_enot, z_enot_ok, z_eif, z_eif_t, z_eif_f, z_for, z_for_v, z_iseq, z_iseq_t, z_iseq_f, z_iseq_r, z_rng, z_rng_ok, z_env0, z_try, z_try_nx, z_try_rt, z_try0, z_try0_nx, z_try0_rt, z_for_l, z_fv0, z_fv_nx, z_fv_ct, z_fv_rt, z_lc, z_lc_v, z_step, z_step_ok, z_istr, z_istr_ok, z_env0, List.map_cons, List.map_nil, List.replicate, List.append_nil, Nat.reduceSub, List.cons_append, List.nil_append, List.length_cons, List.length_nil, Nat.reduceAdd, Nat.reduceLeDiff, List.getElem?_cons_zero, List.getElem?_cons_succ, List.set_cons_zero, List.set_cons_succ, Bool.not_true, Bool.not_false, f1, f2, f3, g1, g2, eq_str hs hs, beq_self_eq_true]
    · obtain ⟨f1, f2, f3⟩ := hy.is
      have hlx := hx.len
      have hly := hy.len
      have hn : (((xs.length : Int) == (ys.length : Int))) = true := by rw [hl]; simp
      have tail : alikeT (alikeM isi k) [some x, some y, none] M = .rt (.bl true) M := by
        rw [alikeT]
        obtain ⟨e', M', e1, a2, rfl, rfl⟩ := loop_inv (body := alikeL (alikeM isi k)) (tg := tgName 2) (I := fun _ e M' => ∃ a2, e = [some x, some y, a2] ∧ M = M') (rangeD 0 ys.length) 0 [some x, some y, none] M ⟨none, rfl, rfl⟩ (by
          rintro j hj e M' ⟨a2, rfl, rfl⟩
          rw [rangeD_len] at hj
          have hp : (rangeD 0 ys.length)[j]'(by rw [rangeD_len]; exact hj) = .int (j : Nat) := by
            unfold rangeD; simp
          have hj' : j < xs.length := by omega
          have ax := hx.ix (List.getElem?_eq_getElem hj')
          have ay := hy.ix (List.getElem?_eq_getElem hj)
          have hsame := alike_same B k _ _ (hs j _ _ (List.getElem?_eq_getElem hj') (List.getElem?_eq_getElem hj))
          refine ⟨[some x, some y, some (.int (j : Nat))], [some x, some y, some (.int (j : Nat))], M, ?_, ?_, some (.int (j : Nat)), rfl, rfl⟩
          · rw [hp]; rfl
          · rw [alikeL]
            simp only [z_seq, z_seq_nx, z_seq_rt, z_seq_ex, z_seq_bk, z_seq_ct, z_if, z_if_t, z_if_f, z_if_x, z_set, z_set_ok, z_set_x, z_ret, z_ret_ok, z_ret_x, z_retN, z_do, z_do_ok, z_do_x, z_nil, z_raise0, z_raise, z_raise_ok, z_toR_rt, z_toR_nx, z_toR_ex, z_c, z_var, z_var_ok, z_un, z_un_ok, z_un_x, z_bin, z_bin_ok, z_bin_x, z_anil, z_cons, z_cons1, z_cons1x, z_cons2, z_cons2x, z_args, z_args_ok, z_args_x, z_tup, z_tup_ok, z_fro, z_fro_ok, z_lst, z_lst_ok, z_call, z_stat, z_call_ok, z_callk, z_callk1, z_callk2, z_mkF, z_mkF_ok, z_own1, z_own1_ok, z_prop, z_own2, z_own2_ok, z_val, z_val_ok, z_val_x, z_and, z_and_t, z_and_f, z_or, z_or_t, z_or_f, z_not, z_not_ok, z_yes, z_eand, z_eand_t, z_eand_f, z_eor, z_eor_t, z_eor_f, z_enot, z_enot_ok, z_eif, z_eif_t, z_eif_f, z_for, z_for_v, z_iseq, z_iseq_t, z_iseq_f, z_iseq_r, z_rng, z_rng_ok, z_env0, z_try, z_try_nx, z_try_rt, z_try0, z_try0_nx, z_try0_rt, z_for_l, z_fv0, z_fv_nx, z_fv_ct, z_fv_rt, z_lc, z_lc_v, z_step, z_step_ok, z_istr, z_istr_ok, z_env0, List.map_cons, List.map_nil, List.replicate, List.append_nil, Nat.reduceSub, List.cons_append, List.nil_append, List.length_cons, List.length_nil, Nat.reduceAdd, Nat.reduceLeDiff, List.getElem?_cons_zero, List.getElem?_cons_succ, List.set_cons_zero, List.set_cons_succ, Bool.not_true, Bool.not_false, ax, ay, hsame])
        have hr : qRng (.ok (.int ys.length) M) = .ok (.vals (rangeD 0 ys.length)) M := z_rng_ok (by omega) (by omega)
        simp only [z_seq, z_seq_nx, z_seq_rt, z_seq_ex, z_seq_bk, z_seq_ct, z_if, z_if_t, z_if_f, z_if_x, z_set, z_set_ok, z_set_x, z_ret, z_ret_ok, z_ret_x, z_retN, z_do, z_do_ok, z_do_x, z_nil, z_raise0, z_raise, z_raise_ok, z_toR_rt, z_toR_nx, z_toR_ex, z_c, z_var, z_var_ok, z_un, z_un_ok, z_un_x, z_bin, z_bin_ok, z_bin_x, z_anil, z_cons, z_cons1, z_cons1x, z_cons2, z_cons2x, z_args, z_args_ok, z_args_x, z_tup, z_tup_ok, z_fro, z_fro_ok, z_lst, z_lst_ok, z_call, z_stat, z_call_ok, z_callk, z_callk1, z_callk2, z_mkF, z_mkF_ok, z_own1, z_own1_ok, z_prop, z_own2, z_own2_ok, z_val, z_val_ok, z_val_x, z_and, z_and_t, z_and_f, z_or, z_or_t, z_or_f, z_not, z_not_ok, z_yes, z_eand, z_eand_t, z_eand_f, z_eor, z_eor_t, z_eor_f, z_enot, z_enot_ok, z_eif, z_eif_t, z_eif_f, z_for, z_for_v, z_iseq, z_iseq_t, z_iseq_f, z_iseq_r, z_rng, z_rng_ok, z_env0, z_try, z_try_nx, z_try_rt, z_try0, z_try0_nx, z_try0_rt, z_for_l, z_fv0, z_fv_nx, z_fv_ct, z_fv_rt, z_lc, z_lc_v, z_step, z_step_ok, z_istr, z_istr_ok, z_env0, List.map_cons, List.map_nil, List.replicate, List.append_nil, Nat.reduceSub, List.cons_append, List.nil_append, List.length_cons, List.length_nil, Nat.reduceAdd, Nat.reduceLeDiff, List.getElem?_cons_zero, List.getElem?_cons_succ, List.set_cons_zero, List.set_cons_succ, Bool.not_true, Bool.not_false, hly, hr, e1]
      have tx := hx.tag
      have ty := hy.tag
      have ht : t = "tuple" ∨ t = "list" := by rcases hx with ⟨h, _⟩ | ⟨h, _⟩ <;> simp [h]
      rcases ht with rfl | rfl
      · have g1 : dIsi isi [y, .ty "int"] M = .ok (.bl false) M := isi_of ty B.ti
        have g2 : dIsi isi [y, .ty "str"] M = .ok (.bl false) M := isi_of ty B.ts
        have g3 : dIsi isi [y, .ty "tuple"] M = .ok (.bl true) M := isi_of ty B.tt
        have g4 : dIsi isi [x, .ty "tuple"] M = .ok (.bl true) M := isi_of tx B.tt
        simp only [z_seq, z_seq_nx, z_seq_rt, z_seq_ex, z_seq_bk, z_seq_ct, z_if, z_if_t, z_if_f, z_if_x, z_set, z_set_ok, z_set_x, z_ret, z_ret_ok, z_ret_x, z_retN, z_do, z_do_ok, z_do_x, z_nil, z_raise0, z_raise, z_raise_ok, z_toR_rt, z_toR_nx, z_toR_ex, z_c, z_var, z_var_ok, z_un, z_un_ok, z_un_x, z_bin, z_bin_ok, z_bin_x, z_anil, z_cons, z_cons1, z_cons1x, z_cons2, z_cons2x, z_args, z_args_ok, z_args_x, z_tup, z_tup_ok, z_fro, z_fro_ok, z_lst, z_lst_ok, z_call, z_stat, z_call_ok, z_callk, z_callk1, z_callk2, z_mkF, z_mkF_ok, z_own1, z_own1_ok, z_prop, z_own2, z_own2_ok, z_val, z_val_ok, z_val_x, z_and, z_and_t, z_and_f, z_or, z_or_t, z_or_f, z_not, z_not_ok, z_yes, z_eand, z_eand_t, z_eand_f, z_eor, z_eor_t, z_eor_f, z_enot, z_enot_ok, z_eif, z_eif_t, z_eif_f, z_for, z_for_v, z_iseq, z_iseq_t, z_iseq_f, z_iseq_r, z_rng, z_rng_ok, z_env0, z_try, z_try_nx, z_try_rt, z_try0, z_try0_nx, z_try0_rt, z_for_l, z_fv0, z_fv_nx, z_fv_ct, z_fv_rt, z_lc, z_lc_v, z_step, z_step_ok, z_istr, z_istr_ok, z_env0, List.map_cons, List.map_nil, List.replicate, List.append_nil, Nat.reduceSub, List.cons_append, List.nil_append, List.length_cons, List.length_nil, Nat.reduceAdd, Nat.reduceLeDiff, List.getElem?_cons_zero, List.getElem?_cons_succ, List.set_cons_zero, List.set_cons_succ, Bool.not_true, Bool.not_false, f1, f2, f3, g1, g2, g3, g4, hlx, hly, ne_int, hn, tail]
      · have g1 : dIsi isi [y, .ty "int"] M = .ok (.bl false) M := isi_of ty B.li
        have g2 : dIsi isi [y, .ty "str"] M = .ok (.bl false) M := isi_of ty B.ls
        have g3 : dIsi isi [y, .ty "tuple"] M = .ok (.bl false) M := isi_of ty B.lt
        have g4 : dIsi isi [x, .ty "list"] M = .ok (.bl true) M := isi_of tx B.ll
        simp only [z_seq, z_seq_nx, z_seq_rt, z_seq_ex, z_seq_bk, z_seq_ct, z_if, z_if_t, z_if_f, z_if_x, z_set, z_set_ok, z_set_x, z_ret, z_ret_ok, z_ret_x, z_retN, z_do, z_do_ok, z_do_x, z_nil, z_raise0, z_raise, z_raise_ok, z_toR_rt, z_toR_nx, z_toR_ex, z_c, z_var, z_var_ok, z_un, z_un_ok, z_un_x, z_bin, z_bin_ok, z_bin_x, z_anil, z_cons, z_cons1, z_cons1x, z_cons2, z_cons2x, z_args, z_args_ok, z_args_x, z_tup, z_tup_ok, z_fro, z_fro_ok, z_lst, z_lst_ok, z_call, z_stat, z_call_ok, z_callk, z_callk1, z_callk2, z_mkF, z_mkF_ok, z_own1, z_own1_ok, z_prop, z_own2, z_own2_ok, z_val, z_val_ok, z_val_x, z_and, z_and_t, z_and_f, z_or, z_or_t, z_or_f, z_not, z_not_ok, z_yes, z_eand, z_eand_t, z_eand_f, z_eor, z_eor_t, z_eor_f, z_enot, z_enot_ok, z_eif, z_eif_t, z_eif_f, z_for, z_for_v, z_iseq, z_iseq_t, z_iseq_f, z_iseq_r, z_rng, z_rng_ok, z_env0, z_try, z_try_nx, z_try_rt, z_try0, z_try0_nx, z_try0_rt, z_for_l, z_fv0, z_fv_nx, z_fv_ct, z_fv_rt, z_lc, z_lc_v, z_step, z_step_ok, z_istr, z_istr_ok, z_env0, List.map_cons, List.map_nil, List.replicate, List.append_nil, Nat.reduceSub, List.cons_append, List.nil_append, List.length_cons, List.length_nil, Nat.reduceAdd, Nat.reduceLeDiff, List.getElem?_cons_zero, List.getElem?_cons_succ, List.set_cons_zero, List.set_cons_succ, Bool.not_true, Bool.not_false, f1, f2, f3, g1, g2, g3, g4, hlx, hly, ne_int, hn, tail]
end T2
namespace T2
open PySem L2

/-! ### one of a menu -/
def pickM : List D → MH → Res D := fnB 2 (sRet (eBin dIxA (eVar 1) (eCall 2 drawM (eCons (eVar 0) (eCons (eArgs dLen (eCons (eVar 1) (eNil))) (eNil))))))
theorem pick_run {s : Bx} {R : MH} {t : String} {l : D} {ds : List D} (hs : BxOk s) (hl : ∀ s : Bx, SeqOf (s.obj :: R) t l ds) (h0 : 0 < ds.length) (h1 : ds.length < 1000) : ∃ d s', pickM [.ref 0, l] (s.obj :: R) = .ok d (s'.obj :: R) ∧ d ∈ ds ∧ BxOk s' := by
  obtain ⟨r, s', e, a, b, h⟩ := draw_at (R := R) (n := ds.length) hs (by omega) (by omega)
  have hr : r.toNat < ds.length := by omega
  have hx := (hl s').ix (List.getElem?_eq_getElem hr)
  rw [show ((r.toNat : Nat) : Int) = r by omega] at hx
  refine ⟨ds[r.toNat], s', ?_, List.getElem_mem hr, h⟩
  have hlen := (hl s).len
  rw [pickM, z_fn]
  simp only [z_seq, z_seq_nx, z_seq_rt, z_seq_ex, z_seq_bk, z_seq_ct, z_if, z_if_t, z_if_f, z_if_x, z_set, z_set_ok, z_set_x, z_ret, z_ret_ok, z_ret_x, z_retN, z_do, z_do_ok, z_do_x, z_nil, z_raise0, z_raise, z_raise_ok, z_toR_rt, z_toR_nx, z_toR_ex, z_c, z_var, z_var_ok, z_un, z_un_ok, z_un_x, z_bin, z_bin_ok, z_bin_x, z_anil, z_cons, z_cons1, z_cons1x, z_cons2, z_cons2x, z_args, z_args_ok, z_args_x, z_tup, z_tup_ok, z_fro, z_fro_ok, z_lst, z_lst_ok, z_call, z_stat, z_call_ok, z_callk, z_callk1, z_callk2, z_mkF, z_mkF_ok, z_own1, z_own1_ok, z_prop, z_own2, z_own2_ok, z_val, z_val_ok, z_val_x, z_and, z_and_t, z_and_f, z_or, z_or_t, z_or_f, z_not, z_not_ok, z_yes, z_eand, z_eand_t, z_eand_f, z_eor, z_eor_t, z_eor_f, z_enot, z_enot_ok, z_eif, z_eif_t, z_eif_f, z_for, z_for_v, z_iseq, z_iseq_t, z_iseq_f, z_iseq_r, z_rng, z_rng_ok, z_env0, z_try, z_try_nx, z_try_rt, z_try0, z_try0_nx, z_try0_rt, z_for_l, z_fv0, z_fv_nx, z_fv_ct, z_fv_rt, z_lc, z_lc_v, z_step, z_step_ok, z_istr, z_istr_ok, z_env0, List.map_cons, List.map_nil, List.replicate, List.append_nil, Nat.reduceSub, List.cons_append, List.nil_append, List.length_cons, List.length_nil, Nat.reduceAdd, Nat.reduceLeDiff, List.getElem?_cons_zero, List.getElem?_cons_succ, List.set_cons_zero, List.set_cons_succ, Bool.not_true, Bool.not_false, hlen, e, hx]
theorem fro_seq {R : MH} {ds : List D} (s : Bx) : SeqOf (s.obj :: R) "list" (.fro ds) ds := .inr ⟨rfl, rfl⟩
theorem tup_seq {R : MH} {ds : List D} (s : Bx) : SeqOf (s.obj :: R) "tuple" (.tup ds) ds := .inl ⟨rfl, rfl⟩
theorem ref_seq {R : MH} {n : Nat} {ds : List D} (h : R[n]? = some (.lst ds)) (s : Bx) : SeqOf (s.obj :: R) "list" (.ref (n + 1)) ds := .inr ⟨rfl, by unfold listItems; dsimp only; rw [List.getElem?_cons_succ, h]⟩

/-! ### names -/
def Low (x : Str) : Prop := ∀ c ∈ x.cps.toList, 97 ≤ c ∧ c ≤ 122
theorem Low.ok {x : Str} (h : Low x) : PyData.strOk x = true := by
  unfold PyData.strOk
  rw [Array.all_eq_true]
  intro i hi
  have := h x.cps[i] (by simp)
  simp; omega
theorem str_app (a b : Str) : (a ++ b).cps = a.cps ++ b.cps := rfl
theorem app_len (a b : Str) : (a ++ b).length = a.length + b.length := by
  show (a.cps ++ b.cps).size = _
  rw [Array.size_append]; rfl
theorem Low.app {a b : Str} (ha : Low a) (hb : Low b) : Low (a ++ b) := by
  intro c hc
  rw [str_app, Array.toList_append, List.mem_append] at hc
  rcases hc with hc | hc
  · exact ha c hc
  · exact hb c hc
theorem low_one {c : Nat} (h : 97 ≤ c ∧ c ≤ 122) : Low ⟨#[c]⟩ := by
  intro d hd
  have : d = c := by simpa using hd
  rw [this]; exact h
theorem low_nil : Low "" := by
  intro c hc
  have : ("" : Str).cps.toList = [] := by decide +kernel
  rw [this] at hc; simp at hc
theorem add_str {a b : Str} {M : MH} (h : a.length + b.length ≤ 1000) : dAdd (.str a) (.str b) M = .ok (.str (a ++ b)) M := by
  unfold dAdd
  dsimp only
  rw [if_pos (by unfold big; omega)]
theorem abc_list : ("abcdefghijklmnopqrstuvwxyz" : Str).cps.toList = (List.range 26).map (· + 97) := by decide +kernel
theorem abc_len : ("abcdefghijklmnopqrstuvwxyz" : Str).length = 26 := by decide +kernel
theorem ix_abc {r : Int} {M : MH} (h0 : 0 ≤ r) (h1 : r < 26) : ∃ c, dIxA (.str ("abcdefghijklmnopqrstuvwxyz" : Str)) (.int r) M = .ok (.str ⟨#[c]⟩) M ∧ 97 ≤ c ∧ c ≤ 122 := by
  have hn : ("abcdefghijklmnopqrstuvwxyz" : Str).cps.toList.length = 26 := by decide +kernel
  obtain ⟨c, hc, hm⟩ := atI_of (l := ("abcdefghijklmnopqrstuvwxyz" : Str).cps.toList) h0 (by omega)
  rw [abc_list] at hm
  obtain ⟨k, hk, rfl⟩ := List.mem_map.mp hm
  have hk := List.mem_range.mp hk
  refine ⟨k + 97, ?_, by omega, by omega⟩
  unfold dIxA dIx
  dsimp only
  rw [if_pos (by decide +kernel), hc]
def namesL1 : SM := sSet 5 (eBin dAdd (eVar 5) (eBin dIxA (eVar 2) (eCall 2 drawM (eCons (eVar 0) (eCons (eC (.int 26)) (eNil))))))
def namesT : BM := bVal (eBin dNotInA (eBin dAdd (eVar 5) (eVar 8)) (eBin (dCat mkF) (eVar 3) (eFro (eCons (eC (.str "on")) (eCons (eC (.str "set")) (eCons (eC (.str "new")) (eNil)))))))
def namesL3 : SM := sDo (eApp (eVar 3) (eBin dAdd (eVar 5) (eBin dIxA (eVar 7) (eCall 2 drawM (eCons (eVar 0) (eCons (eArgs dLen (eCons (eVar 7) (eNil))) (eNil)))))))
def namesL2 : SM :=
    sSeq (sSet 5 (eC (.str "")))
    (sSeq (sForI (iRange1 (eCall 2 drawM (eCons (eVar 0) (eCons (eC (.int 8)) (eNil))))) (tgName 6) namesL1)
    (sSeq (sSet 7 (eLc (iStrD (eVar 2)) (tgName 8) namesT (eVar 8) [8]))
    namesL3))
def namesM : List D → MH → Res D := fnB 9 (
    sSeq (sSet 2 (eC (.str "abcdefghijklmnopqrstuvwxyz")))
    (sSeq (sSet 3 (eLst (eNil)))
    (sSeq (sForI (iRange1 (eVar 1)) (tgName 4) namesL2)
    (sRet (eVar 3)))))
/-- one sign less than the list -/
theorem filter_ne {α : Type} [DecidableEq α] {l : List α} (h : l.Nodup) (a : α) : l.length ≤ (l.filter fun x => decide (x ≠ a)).length + 1 := by
  induction l with
  | nil => simp
  | cons x l ih =>
    rw [List.nodup_cons] at h
    rw [List.filter_cons]
    by_cases hx : x = a
    · subst hx
      have : l.filter (fun y => decide (y ≠ x)) = l := List.filter_eq_self.mpr fun y hy => by
        simp only [decide_eq_true_eq]
        rintro rfl
        exact h.1 hy
      rw [if_neg (by simp), this]
      simp
    · simp only [ne_eq, hx, not_false_eq_true, decide_true, if_true, List.length_cons]
      have := ih h.2
      simp only [ne_eq] at this
      omega
theorem filter_out {α β : Type} [DecidableEq α] [DecidableEq β] {f : α → β} (hf : ∀ a b, f a = f b → a = b) {l : List α} (h : l.Nodup) : ∀ E : List β, l.length ≤ (l.filter fun x => decide (f x ∉ E)).length + E.length
  | [] => by
    rw [List.filter_eq_self.mpr (by simp)]
    simp
  | e :: E => by
    have ih := filter_out hf h E
    have nd : (l.filter fun x => decide (f x ∉ E)).Nodup := h.filter _
    by_cases hx : ∃ a ∈ l, f a = e
    · obtain ⟨a, _, rfl⟩ := hx
      have e1 := filter_ne nd a
      have e2 : (l.filter fun x => decide (f x ∉ E)).filter (fun x => decide (x ≠ a)) = l.filter fun x => decide (f x ∉ f a :: E) := by
        rw [List.filter_filter]
        refine List.filter_congr fun x _ => ?_
        rw [Bool.eq_iff_iff]
        simp only [Bool.and_eq_true, decide_eq_true_eq, List.mem_cons, not_or]
        constructor
        · rintro ⟨h1, h2⟩; exact ⟨fun z => h1 (hf _ _ z), h2⟩
        · rintro ⟨h1, h2⟩; exact ⟨fun z => h1 (by rw [z]), h2⟩
      rw [e2] at e1
      simp only [List.length_cons]
      omega
    · have e2 : (l.filter fun x => decide (f x ∉ e :: E)) = l.filter fun x => decide (f x ∉ E) := List.filter_congr fun x hxl => by
        rw [Bool.eq_iff_iff]
        simp only [decide_eq_true_eq, List.mem_cons, not_or]
        exact ⟨fun z => z.2, fun z => ⟨fun q => hx ⟨x, hxl, q⟩, z⟩⟩
      rw [e2]
      simp only [List.length_cons]
      omega

/-- the stem of a name -/
theorem stem_run {R : MH} {a1 a3 a4 a7 a8 : Option D} : ∀ (xs : List D) (s : Bx) (z : Str) (a6 : Option D), BxOk s → Low z → z.length + xs.length ≤ 20 →
    ∃ s' z' a6', forV (tgName 6) namesL1 xs [some (.ref 0), a1, some (.str ("abcdefghijklmnopqrstuvwxyz" : Str)), a3, a4, some (.str z), a6, a7, a8] (s.obj :: R) = .nx [some (.ref 0), a1, some (.str ("abcdefghijklmnopqrstuvwxyz" : Str)), a3, a4, some (.str z'), a6', a7, a8] (s'.obj :: R) ∧ BxOk s' ∧ Low z' ∧ z'.length = z.length + xs.length
  | [], s, z, a6, hs, hz, _ => ⟨s, z, a6, rfl, hs, hz, rfl⟩
  | x :: xs, s, z, a6, hs, hz, hl => by
    obtain ⟨r, s1, e1, r0, r1, h1⟩ := draw_at (R := R) (n := 26) hs (by decide) (by decide)
    obtain ⟨c, ec, hc⟩ := ix_abc (M := s1.obj :: R) r0 r1
    have one : (⟨#[c]⟩ : Str).length = 1 := rfl
    have ea := add_str (a := z) (b := ⟨#[c]⟩) (M := s1.obj :: R) (by simp at hl; omega)
    obtain ⟨s2, z2, a62, e2, h2, hz2, hl2⟩ := stem_run (R := R) (a1 := a1) (a3 := a3) (a4 := a4) (a7 := a7) (a8 := a8) xs s1 (z ++ ⟨#[c]⟩) (some x) h1 (hz.app (low_one hc)) (by rw [app_len]; simp at hl ⊢; omega)
    refine ⟨s2, z2, a62, ?_, h2, hz2, by rw [hl2, app_len]; simp; omega⟩
    rw [z_fv, namesL1]
    rw [namesL1] at e2
    simp only [z_seq, z_seq_nx, z_seq_rt, z_seq_ex, z_seq_bk, z_seq_ct, z_if, z_if_t, z_if_f, z_if_x, z_set, z_set_ok, z_set_x, z_ret, z_ret_ok, z_ret_x, z_retN, z_do, z_do_ok, z_do_x, z_nil, z_raise0, z_raise, z_raise_ok, z_toR_rt, z_toR_nx, z_toR_ex, z_c, z_var, z_var_ok, z_un, z_un_ok, z_un_x, z_bin, z_bin_ok, z_bin_x, z_anil, z_cons, z_cons1, z_cons1x, z_cons2, z_cons2x, z_args, z_args_ok, z_args_x, z_tup, z_tup_ok, z_fro, z_fro_ok, z_lst, z_lst_ok, z_call, z_stat, z_call_ok, z_callk, z_callk1, z_callk2, z_mkF, z_mkF_ok, z_own1, z_own1_ok, z_prop, z_own2, z_own2_ok, z_val, z_val_ok, z_val_x, z_and, z_and_t, z_and_f, z_or, z_or_t, z_or_f, z_not, z_not_ok, z_yes, z_eand, z_eand_t, z_eand_f, z_eor, z_eor_t, z_eor_f, z_enot, z_enot_ok, z_eif, z_eif_t, z_eif_f, z_for, z_for_v, z_iseq, z_iseq_t, z_iseq_f, z_iseq_r, z_rng, z_rng_ok, z_env0, z_try, z_try_nx, z_try_rt, z_try0, z_try0_nx, z_try0_rt, z_for_l, z_fv0, z_fv_nx, z_fv_ct, z_fv_rt, z_lc, z_lc_v, z_step, z_step_ok, z_istr, z_istr_ok, z_env0, List.map_cons, List.map_nil, List.replicate, List.append_nil, Nat.reduceSub, List.cons_append, List.nil_append, List.length_cons, List.length_nil, Nat.reduceAdd, Nat.reduceLeDiff, List.getElem?_cons_zero, List.getElem?_cons_succ, List.set_cons_zero, List.set_cons_succ, Bool.not_true, Bool.not_false, e1, ec, ea, e2]

/-! ### a comprehension that chooses -/
theorem lc_filter {tg : TgM} {tt : BM} {m : EM} {e : Env2} {M0 : MH} {p : D → Bool} {g : D → D} : ∀ (xs : List D) (step : ∀ x ∈ xs, ∀ acc, lcStep tg tt m e x (M0 ++ [.lst acc]) = .ok (if p x = true then some (g x) else none) (M0 ++ [.lst acc])) (acc : List D), acc.length + xs.length ≤ 1000 →
    lcV tg tt m e M0.length xs (M0 ++ [.lst acc]) = .ok (.ref M0.length) (M0 ++ [.lst (acc ++ (xs.filter p).map g)])
  | [], _, acc, _ => by simp [lcV]
  | x :: xs, step, acc, hz => by
    have h1 := step x (by simp) acc
    have hg : (M0 ++ [MO.lst acc])[M0.length]? = some (.lst acc) := by simp
    unfold lcV
    rw [h1, Res.bind_ok]
    by_cases hp : p x = true
    · rw [if_pos hp]
      have hpush : pushAt M0.length (some (g x)) (M0 ++ [.lst acc]) = some (M0 ++ [.lst (acc ++ [g x])]) := by
        unfold pushAt
        dsimp only
        rw [hg]
        dsimp only
        rw [if_pos (by simp at hz; unfold big; omega)]
        congr 1
        simp
      rw [hpush]
      dsimp only
      rw [lc_filter xs (fun y hy => step y (by simp [hy])) (acc ++ [g x]) (by simp at hz ⊢; omega), List.filter_cons, if_pos hp, List.map_cons, List.append_assoc]
      rfl
    · rw [if_neg hp]
      dsimp only [pushAt]
      rw [lc_filter xs (fun y hy => step y (by simp [hy])) acc (by simp at hz ⊢; omega), List.filter_cons, if_neg hp]
theorem in_strs (z : Str) (zs : List Str) : memD (.str z) (zs.map D.str) = decide (z ∈ zs) := by
  unfold memD inV
  rw [List.map_map, List.any_map, Bool.eq_iff_iff]
  simp only [List.any_eq_true, decide_eq_true_eq, Function.comp_apply, vOf, eqV, beq_iff_eq]
  exact ⟨fun ⟨a, h, e⟩ => e ▸ h, fun h => ⟨z, h, rfl⟩⟩
theorem flat_strs (zs : List Str) : (zs.map D.str).all flatD = true := by
  rw [List.all_eq_true]
  intro d hd
  obtain ⟨z, _, rfl⟩ := List.mem_map.mp hd
  rfl
theorem notin_strs {z : Str} {zs : List Str} {M : MH} : dNotInA (.str z) (.fro (zs.map D.str)) M = .ok (.bl (!decide (z ∈ zs))) M := by
  unfold dNotInA inResA inRes items
  dsimp only
  rw [if_pos ⟨rfl, flat_strs zs⟩, in_strs]
theorem words3 : ([.str "on", .str "set", .str "new"] : List D) = ([("on" : Str), "set", "new"] : List Str).map D.str := rfl
/-- the signs that are free behind a stem -/
def freeOf (z : Str) (zs : List Str) : List D := (signsOf ("abcdefghijklmnopqrstuvwxyz" : Str)).filter fun x => match x with
  | .str c => !decide (z ++ c ∈ zs ++ [("on" : Str), "set", "new"])
  | _ => false
theorem free_some {z : Str} {zs : List Str} (h : zs.length ≤ 20) : 0 < (freeOf z zs).length := by
  have e : freeOf z zs = (("abcdefghijklmnopqrstuvwxyz" : Str).cps.toList.filter fun c => decide (z ++ (⟨#[c]⟩ : Str) ∉ zs ++ [("on" : Str), "set", "new"])).map fun c => D.str ⟨#[c]⟩ := by
    unfold freeOf signsOf
    rw [List.filter_map]
    congr 1
    refine List.filter_congr fun c _ => ?_
    simp
  rw [e, List.length_map]
  have hf : ∀ a b : Nat, z ++ (⟨#[a]⟩ : Str) = z ++ (⟨#[b]⟩ : Str) → a = b := by
    intro a b hab
    have h1 : z.cps ++ #[a] = z.cps ++ #[b] := congrArg Str.cps hab
    have h2 := congrArg Array.toList h1
    rw [Array.toList_append, Array.toList_append] at h2
    have h3 := List.append_cancel_left h2
    simpa using h3
  have nd : ("abcdefghijklmnopqrstuvwxyz" : Str).cps.toList.Nodup := by rw [abc_list]; decide
  have := filter_out hf nd (zs ++ [("on" : Str), "set", "new"])
  have hl : ("abcdefghijklmnopqrstuvwxyz" : Str).cps.toList.length = 26 := by decide +kernel
  simp only [List.length_append, List.length_cons, List.length_nil] at this
  omega
theorem free_mem {z : Str} {zs : List Str} {d : D} (h : d ∈ freeOf z zs) : ∃ c, d = .str ⟨#[c]⟩ ∧ 97 ≤ c ∧ c ≤ 122 := by
  have := (List.mem_filter.mp h).1
  unfold signsOf at this
  obtain ⟨c, hc, rfl⟩ := List.mem_map.mp this
  rw [abc_list] at hc
  obtain ⟨k, hk, rfl⟩ := List.mem_map.mp hc
  have := List.mem_range.mp hk
  exact ⟨_, rfl, by omega, by omega⟩
theorem free_run {M : MH} {n : Nat} {z : Str} {zs : List Str} {a1 a4 a6 a7 : Option D} (hn : M[n]? = some (.lst (zs.map D.str))) (hz : z.length ≤ 20) (hs : zs.length ≤ 20) :
    eLc (iStrD (eVar 2)) (tgName 8) namesT (eVar 8) [8] [some (.ref 0), a1, some (.str ("abcdefghijklmnopqrstuvwxyz" : Str)), some (.ref n), a4, some (.str z), a6, a7, none] M = .ok (.ref M.length) (M ++ [.lst (freeOf z zs)]) := by
  have hlt : n < M.length := (List.getElem?_eq_some_iff.mp hn).1
  have main := lc_filter (tg := tgName 8) (tt := namesT) (m := eVar 8) (e := [some (.ref 0), a1, some (.str ("abcdefghijklmnopqrstuvwxyz" : Str)), some (.ref n), a4, some (.str z), a6, a7, none]) (M0 := M) (p := fun x => match x with
      | .str c => !decide (z ++ c ∈ zs ++ [("on" : Str), "set", "new"])
      | _ => false) (g := fun x => x) (signsOf ("abcdefghijklmnopqrstuvwxyz" : Str)) (by
    intro x hx acc
    unfold signsOf at hx
    obtain ⟨c, _, rfl⟩ := List.mem_map.mp hx
    have one : (⟨#[c]⟩ : Str).length = 1 := rfl
    have hli : listItems (M ++ [.lst acc]) (.ref n) = some (zs.map D.str) := by
      unfold listItems
      dsimp only
      rw [List.getElem?_append_left hlt, hn]
    have ea := add_str (a := z) (b := ⟨#[c]⟩) (M := M ++ [.lst acc]) (by omega)
    have ec : dCat mkF (.ref n) (.fro [.str "on", .str "set", .str "new"]) (M ++ [.lst acc]) = .ok (.fro ((zs ++ [("on" : Str), "set", "new"]).map D.str)) (M ++ [.lst acc]) := by
      unfold dCat
      rw [hli]
      dsimp only [listItems]
      rw [if_pos (by simp; unfold big; omega)]
      simp [mkF]
    have et : namesT [some (.ref 0), a1, some (.str ("abcdefghijklmnopqrstuvwxyz" : Str)), some (.ref n), a4, some (.str z), a6, a7, some (.str ⟨#[c]⟩)] (M ++ [.lst acc]) = .ok (!decide (z ++ (⟨#[c]⟩ : Str) ∈ zs ++ [("on" : Str), "set", "new"])) (M ++ [.lst acc]) := by
      rw [namesT]
      simp only [z_seq, z_seq_nx, z_seq_rt, z_seq_ex, z_seq_bk, z_seq_ct, z_if, z_if_t, z_if_f, z_if_x, z_set, z_set_ok, z_set_x, z_ret, z_ret_ok, z_ret_x, z_retN, z_do, z_do_ok, z_do_x, z_nil, z_raise0, z_raise, z_raise_ok, z_toR_rt, z_toR_nx, z_toR_ex, z_c, z_var, z_var_ok, z_un, z_un_ok, z_un_x, z_bin, z_bin_ok, z_bin_x, z_anil, z_cons, z_cons1, z_cons1x, z_cons2, z_cons2x, z_args, z_args_ok, z_args_x, z_tup, z_tup_ok, z_fro, z_fro_ok, z_lst, z_lst_ok, z_call, z_stat, z_call_ok, z_callk, z_callk1, z_callk2, z_mkF, z_mkF_ok, z_own1, z_own1_ok, z_prop, z_own2, z_own2_ok, z_val, z_val_ok, z_val_x, z_and, z_and_t, z_and_f, z_or, z_or_t, z_or_f, z_not, z_not_ok, z_yes, z_eand, z_eand_t, z_eand_f, z_eor, z_eor_t, z_eor_f, z_enot, z_enot_ok, z_eif, z_eif_t, z_eif_f, z_for, z_for_v, z_iseq, z_iseq_t, z_iseq_f, z_iseq_r, z_rng, z_rng_ok, z_env0, z_try, z_try_nx, z_try_rt, z_try0, z_try0_nx, z_try0_rt, z_for_l, z_fv0, z_fv_nx, z_fv_ct, z_fv_rt, z_lc, z_lc_v, z_step, z_step_ok, z_istr, z_istr_ok, z_env0, List.map_cons, List.map_nil, List.replicate, List.append_nil, Nat.reduceSub, List.cons_append, List.nil_append, List.length_cons, List.length_nil, Nat.reduceAdd, Nat.reduceLeDiff, List.getElem?_cons_zero, List.getElem?_cons_succ, List.set_cons_zero, List.set_cons_succ, Bool.not_true, Bool.not_false, ea, ec, notin_strs]
    unfold lcStep tgName
    dsimp only
    rw [show (List.set [some (D.ref 0), a1, some (.str ("abcdefghijklmnopqrstuvwxyz" : Str)), some (.ref n), a4, some (.str z), a6, a7, none] 8 (some (D.str ⟨#[c]⟩))) = [some (.ref 0), a1, some (.str ("abcdefghijklmnopqrstuvwxyz" : Str)), some (.ref n), a4, some (.str z), a6, a7, some (.str ⟨#[c]⟩)] from rfl, et]
    dsimp only [noX, Res.bind]
    by_cases hb : z ++ (⟨#[c]⟩ : Str) ∈ zs ++ [("on" : Str), "set", "new"]
    · simp only [hb, decide_true, Bool.not_true, Bool.false_eq_true, if_false]
    · simp only [hb, decide_false, Bool.not_false, if_true]
      rfl) [] (by rw [signs_len]; have : ("abcdefghijklmnopqrstuvwxyz" : Str).cps.size = 26 := by decide +kernel
                  simp [this])
  simp only [z_seq, z_seq_nx, z_seq_rt, z_seq_ex, z_seq_bk, z_seq_ct, z_if, z_if_t, z_if_f, z_if_x, z_set, z_set_ok, z_set_x, z_ret, z_ret_ok, z_ret_x, z_retN, z_do, z_do_ok, z_do_x, z_nil, z_raise0, z_raise, z_raise_ok, z_toR_rt, z_toR_nx, z_toR_ex, z_c, z_var, z_var_ok, z_un, z_un_ok, z_un_x, z_bin, z_bin_ok, z_bin_x, z_anil, z_cons, z_cons1, z_cons1x, z_cons2, z_cons2x, z_args, z_args_ok, z_args_x, z_tup, z_tup_ok, z_fro, z_fro_ok, z_lst, z_lst_ok, z_call, z_stat, z_call_ok, z_callk, z_callk1, z_callk2, z_mkF, z_mkF_ok, z_own1, z_own1_ok, z_prop, z_own2, z_own2_ok, z_val, z_val_ok, z_val_x, z_and, z_and_t, z_and_f, z_or, z_or_t, z_or_f, z_not, z_not_ok, z_yes, z_eand, z_eand_t, z_eand_f, z_eor, z_eor_t, z_eor_f, z_enot, z_enot_ok, z_eif, z_eif_t, z_eif_f, z_for, z_for_v, z_iseq, z_iseq_t, z_iseq_f, z_iseq_r, z_rng, z_rng_ok, z_env0, z_try, z_try_nx, z_try_rt, z_try0, z_try0_nx, z_try0_rt, z_for_l, z_fv0, z_fv_nx, z_fv_ct, z_fv_rt, z_lc, z_lc_v, z_step, z_step_ok, z_istr, z_istr_ok, z_env0, List.map_cons, List.map_nil, List.replicate, List.append_nil, Nat.reduceSub, List.cons_append, List.nil_append, List.length_cons, List.length_nil, Nat.reduceAdd, Nat.reduceLeDiff, List.getElem?_cons_zero, List.getElem?_cons_succ, List.set_cons_zero, List.set_cons_succ, Bool.not_true, Bool.not_false, wipe2]
  rw [main]
  simp [freeOf]

end T2
namespace T2
open PySem L2
/-- what stood stands -/
def Ext (R T : MH) : Prop := ∀ (i : Nat) (o : MO), R[i]? = some o → T[i]? = some o
theorem Ext.refl {R : MH} : Ext R R := fun _ _ h => h
theorem Ext.trans {R S T : MH} (a : Ext R S) (b : Ext S T) : Ext R T := fun i o h => b i o (a i o h)
theorem Ext.app {R G : MH} : Ext R (R ++ G) := fun i o h => by
  rw [List.getElem?_append_left (List.getElem?_eq_some_iff.mp h).1]; exact h
theorem Ext.set {R T : MH} (h : Ext R T) {p : Nat} (hp : R.length ≤ p) {o : MO} : Ext R (T.set p o) := fun i u hi => by
  have := (List.getElem?_eq_some_iff.mp hi).1
  rw [List.getElem?_set_ne (by omega)]; exact h i u hi
theorem Ext.len {R T : MH} (h : Ext R T) : R.length ≤ T.length := by
  rcases Nat.lt_or_ge T.length R.length with hl | hl
  · have := h T.length _ (List.getElem?_eq_getElem hl)
    have := (List.getElem?_eq_some_iff.mp this).1
    omega
  · exact hl
theorem app_run {e : Env2} {M M2 : MH} {n : Nat} {ds : List D} {y : D} {mo ma : EM} (h1 : mo e M = .ok (.ref n) M) (h2 : ∃ ds0, M[n]? = some (.lst ds0)) (h3 : ma e M = .ok y M2) (h4 : M2[n]? = some (.lst ds)) (h5 : ds.length < 1000) : eApp mo ma e M = .ok .non (M2.set n (MO.lst (ds ++ [y]))) := by
  obtain ⟨ds0, h2⟩ := h2
  unfold eApp
  rw [h1, Res.bind_ok]
  dsimp only
  rw [h2]
  dsimp only
  rw [h3, Res.bind_ok, h4]
  dsimp only
  rw [if_pos (by unfold big; omega)]
theorem nil_len : ("" : Str).length = 0 := by decide +kernel
def NmOk (z : Str) : Prop := Low z ∧ z.length ≤ 9
theorem free_le {z : Str} {zs : List Str} : (freeOf z zs).length ≤ 26 := by
  unfold freeOf
  refine Nat.le_trans (List.length_filter_le _ _) ?_
  rw [signs_len]
  decide +kernel
theorem cons_len {b : MO} {T : MH} : (b :: T).length = T.length + 1 := rfl
/-- the last part of a turn: a free sign is drawn, the name goes to the list -/
theorem last_run {s : Bx} {T : MH} {p : Nat} {z : Str} {zs : List Str} {a1 a4 a6 : Option D} (hs : BxOk s) (hT : T[p]? = some (MO.lst (zs.map D.str))) (hz : Low z) (hl : z.length ≤ 7) (hn : zs.length ≤ 10) :
    ∃ c s', 97 ≤ c ∧ c ≤ 122 ∧ BxOk s' ∧ namesL3 [some (.ref 0), a1, some (.str ("abcdefghijklmnopqrstuvwxyz" : Str)), some (.ref (p + 1)), a4, some (.str z), a6, some (.ref (T.length + 1)), none] (s.obj :: (T ++ [MO.lst (freeOf z zs)])) =
      .nx [some (.ref 0), a1, some (.str ("abcdefghijklmnopqrstuvwxyz" : Str)), some (.ref (p + 1)), a4, some (.str z), a6, some (.ref (T.length + 1)), none] (s'.obj :: (T ++ [MO.lst (freeOf z zs)]).set p (MO.lst (zs.map D.str ++ [D.str (z ++ ⟨#[c]⟩)]))) := by
  have hp : p < T.length := (List.getElem?_eq_some_iff.mp hT).1
  have hfr : 0 < (freeOf z zs).length := free_some (by omega)
  have hfl := free_le (z := z) (zs := zs)
  obtain ⟨q, s3, e4, q0, q1, h3⟩ := draw_at (R := T ++ [MO.lst (freeOf z zs)]) (n := (freeOf z zs).length) hs (by omega) (by omega)
  have hq : q.toNat < (freeOf z zs).length := by omega
  obtain ⟨c, hc, c1, c2⟩ := free_mem (List.getElem_mem hq)
  have hfM : ∀ s : Bx, SeqOf (s.obj :: (T ++ [MO.lst (freeOf z zs)])) "list" (.ref (T.length + 1)) (freeOf z zs) := fun s => ref_seq (by simp) s
  have e5 := (hfM s3).ix (List.getElem?_eq_getElem hq)
  rw [show ((q.toNat : Nat) : Int) = q by omega, hc] at e5
  have e6 := (hfM s).len
  have one : (⟨#[c]⟩ : Str).length = 1 := rfl
  have e7 := add_str (a := z) (b := ⟨#[c]⟩) (M := s3.obj :: (T ++ [MO.lst (freeOf z zs)])) (by omega)
  have hTp : ∀ s : Bx, (s.obj :: (T ++ [MO.lst (freeOf z zs)]))[p + 1]? = some (MO.lst (zs.map D.str)) := fun s => by
    rw [List.getElem?_cons_succ, List.getElem?_append_left hp]; exact hT
  refine ⟨c, s3, c1, c2, h3, ?_⟩
  rw [namesL3, z_do]
  have e8 := app_run (e := [some (.ref 0), a1, some (.str ("abcdefghijklmnopqrstuvwxyz" : Str)), some (.ref (p + 1)), a4, some (.str z), a6, some (.ref (T.length + 1)), none]) (M := s.obj :: (T ++ [MO.lst (freeOf z zs)])) (M2 := s3.obj :: (T ++ [MO.lst (freeOf z zs)])) (n := p + 1) (ds := zs.map D.str) (y := .str (z ++ ⟨#[c]⟩)) (mo := eVar 3) (ma := eBin dAdd (eVar 5) (eBin dIxA (eVar 7) (eCall 2 drawM (eCons (eVar 0) (eCons (eArgs dLen (eCons (eVar 7) (eNil))) (eNil)))))) rfl ⟨_, hTp s⟩ (by
    simp only [z_seq, z_seq_nx, z_seq_rt, z_seq_ex, z_seq_bk, z_seq_ct, z_if, z_if_t, z_if_f, z_if_x, z_set, z_set_ok, z_set_x, z_ret, z_ret_ok, z_ret_x, z_retN, z_do, z_do_ok, z_do_x, z_nil, z_raise0, z_raise, z_raise_ok, z_toR_rt, z_toR_nx, z_toR_ex, z_c, z_var, z_var_ok, z_un, z_un_ok, z_un_x, z_bin, z_bin_ok, z_bin_x, z_anil, z_cons, z_cons1, z_cons1x, z_cons2, z_cons2x, z_args, z_args_ok, z_args_x, z_tup, z_tup_ok, z_fro, z_fro_ok, z_lst, z_lst_ok, z_call, z_stat, z_call_ok, z_callk, z_callk1, z_callk2, z_mkF, z_mkF_ok, z_own1, z_own1_ok, z_prop, z_own2, z_own2_ok, z_val, z_val_ok, z_val_x, z_and, z_and_t, z_and_f, z_or, z_or_t, z_or_f, z_not, z_not_ok, z_yes, z_eand, z_eand_t, z_eand_f, z_eor, z_eor_t, z_eor_f, z_enot, z_enot_ok, z_eif, z_eif_t, z_eif_f, z_for, z_for_v, z_iseq, z_iseq_t, z_iseq_f, z_iseq_r, z_rng, z_rng_ok, z_env0, z_try, z_try_nx, z_try_rt, z_try0, z_try0_nx, z_try0_rt, z_for_l, z_fv0, z_fv_nx, z_fv_ct, z_fv_rt, z_lc, z_lc_v, z_step, z_step_ok, z_istr, z_istr_ok, z_env0, List.map_cons, List.map_nil, List.replicate, List.append_nil, Nat.reduceSub, List.cons_append, List.nil_append, List.length_cons, List.length_nil, Nat.reduceAdd, Nat.reduceLeDiff, List.getElem?_cons_zero, List.getElem?_cons_succ, List.set_cons_zero, List.set_cons_succ, Bool.not_true, Bool.not_false, e6, e4, e5, e7]) (hTp s3) (by rw [List.length_map]; omega)
  rw [e8, z_do_ok, List.set_cons_succ]
theorem turn_run {s : Bx} {T : MH} {p : Nat} {zs : List Str} {a1 a4 a5 a6 a7 : Option D} (hs : BxOk s) (hT : T[p]? = some (MO.lst (zs.map D.str))) (hn : zs.length ≤ 10) :
    ∃ z s' G a6' q, NmOk z ∧ BxOk s' ∧ namesL2 [some (.ref 0), a1, some (.str ("abcdefghijklmnopqrstuvwxyz" : Str)), some (.ref (p + 1)), a4, a5, a6, a7, none] (s.obj :: T) =
      .nx [some (.ref 0), a1, some (.str ("abcdefghijklmnopqrstuvwxyz" : Str)), some (.ref (p + 1)), a4, some (.str q), a6', some (.ref (T.length + 1)), none] (s'.obj :: (T ++ [G]).set p (MO.lst (zs.map D.str ++ [D.str z]))) := by
  obtain ⟨r, s1, e1, r0, r1, h1⟩ := draw_at (R := T) (n := 8) hs (by decide) (by decide)
  obtain ⟨s2, z, a62, e2, h2, hz2, hl2⟩ := stem_run (R := T) (a1 := a1) (a3 := some (.ref (p + 1))) (a4 := a4) (a7 := a7) (a8 := none) (rangeD 0 r.toNat) s1 "" a6 h1 low_nil (by rw [rangeD_len, nil_len]; omega)
  rw [rangeD_len, nil_len] at hl2
  have hlz : z.length ≤ 7 := by omega
  have hp : (s2.obj :: T)[p + 1]? = some (MO.lst (zs.map D.str)) := by rw [List.getElem?_cons_succ]; exact hT
  have e3 := free_run (M := s2.obj :: T) (n := p + 1) (z := z) (zs := zs) (a1 := a1) (a4 := a4) (a6 := a62) (a7 := a7) hp (by omega) (by omega)
  rw [cons_len, List.cons_append] at e3
  obtain ⟨c, s3, c1, c2, h3, e4⟩ := last_run (a1 := a1) (a4 := a4) (a6 := a62) h2 hT hz2 hlz hn
  have hr : qRng (.ok (.int r) (s1.obj :: T)) = .ok (.vals (rangeD 0 r.toNat)) (s1.obj :: T) := z_rng_ok r0 (by omega)
  have one : (⟨#[c]⟩ : Str).length = 1 := rfl
  have hlen := app_len z ⟨#[c]⟩
  refine ⟨z ++ ⟨#[c]⟩, s3, .lst (freeOf z zs), a62, z, ⟨hz2.app (low_one ⟨c1, c2⟩), by omega⟩, h3, ?_⟩
  rw [namesL2]
  simp only [z_seq, z_seq_nx, z_seq_rt, z_seq_ex, z_seq_bk, z_seq_ct, z_if, z_if_t, z_if_f, z_if_x, z_set, z_set_ok, z_set_x, z_ret, z_ret_ok, z_ret_x, z_retN, z_do, z_do_ok, z_do_x, z_nil, z_raise0, z_raise, z_raise_ok, z_toR_rt, z_toR_nx, z_toR_ex, z_c, z_var, z_var_ok, z_un, z_un_ok, z_un_x, z_bin, z_bin_ok, z_bin_x, z_anil, z_cons, z_cons1, z_cons1x, z_cons2, z_cons2x, z_args, z_args_ok, z_args_x, z_tup, z_tup_ok, z_fro, z_fro_ok, z_lst, z_lst_ok, z_call, z_stat, z_call_ok, z_callk, z_callk1, z_callk2, z_mkF, z_mkF_ok, z_own1, z_own1_ok, z_prop, z_own2, z_own2_ok, z_val, z_val_ok, z_val_x, z_and, z_and_t, z_and_f, z_or, z_or_t, z_or_f, z_not, z_not_ok, z_yes, z_eand, z_eand_t, z_eand_f, z_eor, z_eor_t, z_eor_f, z_enot, z_enot_ok, z_eif, z_eif_t, z_eif_f, z_for, z_for_v, z_iseq, z_iseq_t, z_iseq_f, z_iseq_r, z_rng, z_rng_ok, z_env0, z_try, z_try_nx, z_try_rt, z_try0, z_try0_nx, z_try0_rt, z_for_l, z_fv0, z_fv_nx, z_fv_ct, z_fv_rt, z_lc_v, z_step, z_step_ok, z_istr, z_istr_ok, z_env0, List.map_cons, List.map_nil, List.replicate, List.append_nil, Nat.reduceSub, List.cons_append, List.nil_append, List.length_cons, List.length_nil, Nat.reduceAdd, Nat.reduceLeDiff, List.getElem?_cons_zero, List.getElem?_cons_succ, List.set_cons_zero, List.set_cons_succ, Bool.not_true, Bool.not_false, e1, hr, e2, e3, e4]
theorem names_loop {s : Bx} {R : MH} {n : Nat} (hs : BxOk s) (hn : n ≤ 10) : ∃ (zs : List Str) (s' : Bx) (T : MH) (e' : Env2), forV (tgName 4) namesL2 (rangeD 0 n) [some (.ref 0), some (.int n), some (.str ("abcdefghijklmnopqrstuvwxyz" : Str)), some (.ref (R.length + 1)), none, none, none, none, none] (s.obj :: (R ++ [MO.lst []])) = .nx e' (s'.obj :: T) ∧ e'[3]? = some (some (.ref (R.length + 1))) ∧ Ext R T ∧ T[R.length]? = some (.lst (zs.map D.str)) ∧ BxOk s' ∧ zs.length = n ∧ ∀ z ∈ zs, NmOk z := by
  obtain ⟨e', M', e1, s', zs, T, a4, a5, a6, a7, rfl, rfl, hE, hT, h1, hl, hz⟩ := loop_inv (body := namesL2) (tg := tgName 4) (I := fun k e M => ∃ (s : Bx) (zs : List Str) (T : MH) (a4 a5 a6 a7 : Option D), e = [some (.ref 0), some (.int n), some (.str ("abcdefghijklmnopqrstuvwxyz" : Str)), some (.ref (R.length + 1)), a4, a5, a6, a7, none] ∧ M = s.obj :: T ∧ Ext R T ∧ T[R.length]? = some (MO.lst (zs.map D.str)) ∧ BxOk s ∧ zs.length = k ∧ ∀ z ∈ zs, NmOk z) (rangeD 0 n) 0
    [some (.ref 0), some (.int n), some (.str ("abcdefghijklmnopqrstuvwxyz" : Str)), some (.ref (R.length + 1)), none, none, none, none, none] (s.obj :: (R ++ [MO.lst []])) ⟨s, [], R ++ [MO.lst []], none, none, none, none, rfl, rfl, .app, by simp, hs, rfl, by simp⟩ (by
      rintro j hj e M ⟨s, zs, T, a4, a5, a6, a7, rfl, rfl, hE, hT, hs, hl, hz⟩
      rw [rangeD_len] at hj
      rw [Nat.zero_add] at hl
      obtain ⟨z, s', G, a6', q, hz', hs', e2⟩ := turn_run (a1 := some (.int n)) (a4 := some (rangeD 0 n)[j]) (a5 := a5) (a6 := a6) (a7 := a7) hs hT (by omega)
      have hlt : R.length < T.length := (List.getElem?_eq_some_iff.mp hT).1
      refine ⟨_, _, _, rfl, e2, s', zs ++ [z], _, _, _, _, _, rfl, rfl, (hE.trans .app).set (Nat.le_refl _), ?_, hs', by simp [hl], ?_⟩
      · rw [List.getElem?_set_self (by simp; omega)]
        simp
      · intro x hx
        rcases List.mem_append.mp hx with hx | hx
        · exact hz x hx
        · rcases List.mem_singleton.mp hx with rfl
          exact hz')
  rw [rangeD_len, Nat.zero_add] at hl
  exact ⟨zs, s', T, _, e1, rfl, hE, hT, h1, hl, hz⟩
theorem seq_run {a b : SM} {e e1 : Env2} {M M1 : MH} {r : SR} (h : a e M = .nx e1 M1) (h2 : b e1 M1 = r) : sSeq a b e M = r := by
  rw [z_seq, h, z_seq_nx, h2]
theorem set_nx {m : EM} {e : Env2} {M M1 : MH} {d : D} {i : Nat} (h : m e M = .ok d M1) : sSet i m e M = .nx (e.set i (some d)) M1 := by
  rw [z_set, h, z_set_ok]
theorem for_nx {it : Env2 → MH → Res IV} {tg : TgM} {b : SM} {e e1 : Env2} {M M0 M1 : MH} {ds : List D} (h : it e M = .ok (.vals ds) M0) (h2 : forV tg b ds e M0 = .nx e1 M1) : sForI it tg b e M = .nx e1 M1 := by
  rw [z_for, h, z_for_v, h2]
theorem ret_rt {m : EM} {e : Env2} {M M1 : MH} {d : D} (h : m e M = .ok d M1) : sRet m e M = .rt d M1 := by
  rw [z_ret, h, z_ret_ok]
theorem var_ok {e : Env2} {M : MH} {d : D} {i : Nat} (h : e[i]? = some (some d)) : eVar i e M = .ok d M := by
  rw [z_var, h, z_var_ok]
/-- names are drawn -/
theorem names_run {s : Bx} {R : MH} {n : Nat} (hs : BxOk s) (hn : n ≤ 10) : ∃ (zs : List Str) (s' : Bx) (T : MH), namesM [.ref 0, .int n] (s.obj :: R) = .ok (.ref (R.length + 1)) (s'.obj :: T) ∧ Ext R T ∧ T[R.length]? = some (.lst (zs.map D.str)) ∧ BxOk s' ∧ zs.length = n ∧ ∀ z ∈ zs, NmOk z := by
  obtain ⟨zs, s', T, e', e1, e3, hE, hT, h1, hl, hz⟩ := names_loop (R := R) hs hn
  refine ⟨zs, s', T, ?_, hE, hT, h1, hl, hz⟩
  have hr : qRng (.ok (.int n) (s.obj :: (R ++ [MO.lst []]))) = .ok (.vals (rangeD 0 n)) (s.obj :: (R ++ [MO.lst []])) := z_rng_ok (by omega) (by omega)
  have hl0 : fLst [] (s.obj :: R) = .ok (.ref (R.length + 1)) (s.obj :: (R ++ [MO.lst []])) := z_lst_ok (by decide)
  have h0 : sSet 2 (eC (D.str ("abcdefghijklmnopqrstuvwxyz" : Str))) (env0 9 [.ref 0, .int n]) (s.obj :: R) = .nx [some (.ref 0), some (.int n), some (.str ("abcdefghijklmnopqrstuvwxyz" : Str)), none, none, none, none, none, none] (s.obj :: R) := rfl
  have h2 : sSet 3 (eLst eNil) [some (.ref 0), some (.int n), some (.str ("abcdefghijklmnopqrstuvwxyz" : Str)), none, none, none, none, none, none] (s.obj :: R) = .nx [some (.ref 0), some (.int n), some (.str ("abcdefghijklmnopqrstuvwxyz" : Str)), some (.ref (R.length + 1)), none, none, none, none, none] (s.obj :: (R ++ [MO.lst []])) := set_nx hl0
  have h3 : sForI (iRange1 (eVar 1)) (tgName 4) namesL2 [some (.ref 0), some (.int n), some (.str ("abcdefghijklmnopqrstuvwxyz" : Str)), some (.ref (R.length + 1)), none, none, none, none, none] (s.obj :: (R ++ [MO.lst []])) = .nx e' (s'.obj :: T) := for_nx hr e1
  have h4 : sRet (eVar 3) e' (s'.obj :: T) = .rt (.ref (R.length + 1)) (s'.obj :: T) := ret_rt (var_ok e3)
  rw [namesM, z_fn]
  exact congrArg toR (seq_run h0 (seq_run h2 (seq_run h3 h4)))
end T2
namespace T2
open PySem L2
/-- v is a list of these items, behind the box -/
def Lv (T : MH) (v : D) (ds : List D) : Prop := v = .fro ds ∨ ∃ p, v = .ref (p + 1) ∧ T[p]? = some (.lst ds)
theorem Lv.ext {T T' : MH} {v : D} {ds : List D} (h : Lv T v ds) (x : Ext T T') : Lv T' v ds := by
  rcases h with h | ⟨p, e, h⟩
  · exact .inl h
  · exact .inr ⟨p, e, x _ _ h⟩
theorem Lv.items {T : MH} {v : D} {ds : List D} (h : Lv T v ds) (b : MO) : listItems (b :: T) v = some ds := by
  rcases h with rfl | ⟨p, rfl, h⟩
  · rfl
  · unfold listItems
    dsimp only
    rw [List.getElem?_cons_succ, h]
theorem Lv.seq {T : MH} {v : D} {ds : List D} (h : Lv T v ds) (b : MO) : SeqOf (b :: T) "list" v ds := .inr ⟨rfl, h.items b⟩
theorem Lv.all {T : MH} {v : D} {ds : List D} (h : Lv T v ds) (b : MO) : T2.items (b :: T) v = some ds := by
  rcases h with rfl | ⟨p, rfl, h⟩
  · rfl
  · unfold T2.items
    dsimp only
    rw [List.getElem?_cons_succ, h]
theorem lv_new {T : MH} {ds : List D} : Lv (T ++ [.lst ds]) (.ref (T.length + 1)) ds := .inr ⟨_, rfl, by simp⟩
theorem cat_F {M : MH} {x y : D} {xs ys : List D} (hx : listItems M x = some xs) (hy : listItems M y = some ys) (h : xs.length + ys.length ≤ 1000) : dCat mkF x y M = .ok (.fro (xs ++ ys)) M := by
  unfold dCat
  rw [hx, hy]
  dsimp only
  rw [if_pos (by unfold big; omega)]
  rfl
theorem cat_L {M : MH} {x y : D} {xs ys : List D} (hx : listItems M x = some xs) (hy : listItems M y = some ys) (h : xs.length + ys.length ≤ 1000) : dCat mkL x y M = .ok (.ref M.length) (M ++ [.lst (xs ++ ys)]) := by
  unfold dCat
  rw [hx, hy]
  dsimp only
  rw [if_pos (by unfold big; omega)]
  rfl
/-- [f(x) for x in l], where f makes nothing new -/
theorem lc_map {tg : TgM} {tt : BM} {m : EM} {e : Env2} {n : Nat} {f : D → D} : ∀ (xs acc : List D) (M : MH), M[n]? = some (.lst acc) → (∀ x ∈ xs, ∀ acc, lcStep tg tt m e x (M.set n (.lst acc)) = .ok (some (f x)) (M.set n (.lst acc))) → acc.length + xs.length ≤ 1000 →
    lcV tg tt m e n xs M = .ok (.ref n) (M.set n (.lst (acc ++ xs.map f)))
  | [], acc, M, hM, _, _ => by
    have hn : n < M.length := (List.getElem?_eq_some_iff.mp hM).1
    have : M.set n (.lst acc) = M := by
      rw [← (List.getElem?_eq_some_iff.mp hM).2, List.set_getElem_self]
    simp [lcV, this]
  | x :: xs, acc, M, hM, hs, hz => by
    have hn : n < M.length := (List.getElem?_eq_some_iff.mp hM).1
    have hMe : M.set n (.lst acc) = M := by
      rw [← (List.getElem?_eq_some_iff.mp hM).2, List.set_getElem_self]
    have h1 := hs x (by simp) acc
    rw [hMe] at h1
    have ih := lc_map (tg := tg) (tt := tt) (m := m) (e := e) (n := n) (f := f) xs (acc ++ [f x]) (M.set n (.lst (acc ++ [f x]))) (by rw [List.getElem?_set_self hn]) (fun y hy a => by
      rw [List.set_set]; exact hs y (by simp [hy]) a) (by simp at hz ⊢; omega)
    unfold lcV
    rw [h1, Res.bind_ok]
    have hp : pushAt n (some (f x)) M = some (M.set n (.lst (acc ++ [f x]))) := by
      unfold pushAt
      dsimp only
      rw [hM]
      dsimp only
      rw [if_pos (by simp at hz; unfold big; omega)]
    rw [hp]
    dsimp only
    rw [ih, List.set_set]
    simp
theorem set_self' {M : MH} {n : Nat} {o : MO} (hM : M[n]? = some o) : M.set n o = M := by
  rw [← (List.getElem?_eq_some_iff.mp hM).2, List.set_getElem_self]
theorem push_ok {M : MH} {n : Nat} {acc : List D} {y : D} (hM : M[n]? = some (.lst acc)) (hz : acc.length < 1000) : pushAt n (some y) M = some (M.set n (.lst (acc ++ [y]))) := by
  unfold pushAt
  dsimp only
  rw [hM]
  dsimp only
  rw [if_pos (by unfold big; omega)]
theorem lcL_map {tg : TgM} {tt : BM} {m : EM} {e : Env2} {n s : Nat} {f : D → D} {ds : List D} (hs : ∀ x ∈ ds, ∀ M, lcStep tg tt m e x M = .ok (some (f x)) M) (hn : s ≠ n) : ∀ (k i : Nat) (acc : List D) (M : MH), M[s]? = some (.lst ds) → M[n]? = some (.lst acc) → i + k = ds.length → acc.length + k ≤ 1000 →
    lcL tg tt m e n s k i M = .ok (.ref n) (M.set n (.lst (acc ++ (ds.drop i).map f)))
  | 0, i, acc, M, hS, hM, hi, hz => by
    unfold lcL
    rw [hS]
    dsimp only
    rw [if_pos (by omega), List.drop_eq_nil_of_le (by omega), List.map_nil, List.append_nil, set_self' hM]
  | k + 1, i, acc, M, hS, hM, hi, hz => by
    have hlt : i < ds.length := by omega
    have hl : n < M.length := (List.getElem?_eq_some_iff.mp hM).1
    unfold lcL
    rw [hS]
    dsimp only
    rw [List.getElem?_eq_getElem hlt]
    dsimp only
    rw [hs _ (List.getElem_mem hlt), Res.bind_ok, push_ok hM (by omega)]
    dsimp only
    rw [lcL_map hs hn k (i + 1) (acc ++ [f ds[i]]) _ (by rw [List.getElem?_set_ne (Ne.symm hn)]; exact hS) (by rw [List.getElem?_set_self hl]) (by omega) (by simp; omega), List.set_set, List.drop_eq_getElem_cons hlt, List.map_cons, List.append_assoc]
    rfl
/-- [f(x) for x in l], where l is any list -/
theorem lc_items {mo m : EM} {vs : List Nat} {e : Env2} {M : MH} {l : D} {ds : List D} {i : Nat} {f : D → D} (hm : mo e M = .ok l M) (hl : listItems M l = some ds) (hf : ∀ x ∈ ds, ∀ M', m ((wipe2 e vs).set i (some x)) M' = .ok (f x) M') (hz : ds.length ≤ 1000) : eLc (iSeq mo) (tgName i) bYes m vs e M = .ok (.ref M.length) (M ++ [.lst (ds.map f)]) := by
  have hst : ∀ x ∈ ds, ∀ M', lcStep (tgName i) bYes m (wipe2 e vs) x M' = .ok (some (f x)) M' := fun x hx M' => by
    rw [z_step, hf x hx, z_step_ok]
  have hn : (M ++ [MO.lst []])[M.length]? = some (.lst []) := by simp
  rw [z_lc, z_iseq, hm]
  rcases items_ref hl with rfl | ⟨n, rfl, hM⟩
  · rw [z_iseq_f, z_lc_v, lc_map ds [] _ hn (fun x hx acc => hst x hx _) (by simpa using hz)]
    simp
  · have hlt : n < M.length := (List.getElem?_eq_some_iff.mp hM).1
    have : qLc (tgName i) bYes m vs e (.ok (.live n) M) = lcL (tgName i) bYes m (wipe2 e vs) M.length n ds.length 0 (M ++ [.lst []]) := by
      unfold qLc
      dsimp only
      rw [hM]
    rw [z_iseq_r, this, lcL_map hst (by omega) ds.length 0 [] _ (by rw [List.getElem?_append_left hlt]; exact hM) hn (by omega) (by simpa using hz)]
    simp
/-- plain data: tuples, texts, numbers -/
def Pd : Nat → D → Prop
  | 0, _ => False
  | k + 1, x => x = .non ∨ (∃ b, x = .bl b) ∨ (∃ i, x = .int i) ∨ (∃ s, x = .str s ∧ PyData.strOk s = true) ∨ ∃ xs, x = .tup xs ∧ xs.length ≤ 1000 ∧ ∀ a ∈ xs, Pd k a
theorem Pd.up : ∀ {k : Nat} {x : D}, Pd k x → Pd (k + 1) x
  | 0, _, h => h.elim
  | k + 1, x, h => by
    rcases h with h | h | h | h | ⟨xs, h, hl, ha⟩
    · exact .inl h
    · exact .inr (.inl h)
    · exact .inr (.inr (.inl h))
    · exact .inr (.inr (.inr (.inl h)))
    · exact .inr (.inr (.inr (.inr ⟨xs, h, hl, fun a m => Pd.up (ha a m)⟩)))
theorem pd_str {k : Nat} {s : Str} (h : PyData.strOk s = true) : Pd (k + 1) (.str s) := .inr (.inr (.inr (.inl ⟨s, rfl, h⟩)))
theorem pd_int {k : Nat} {i : Int} : Pd (k + 1) (.int i) := .inr (.inr (.inl ⟨i, rfl⟩))
theorem pd_tup {k : Nat} {xs : List D} (hl : xs.length ≤ 1000) (h : ∀ a ∈ xs, Pd k a) : Pd (k + 1) (.tup xs) := .inr (.inr (.inr (.inr ⟨xs, rfl, hl, h⟩)))
theorem pd_2 {k : Nat} {x y : D} (hx : Pd k x) (hy : Pd k y) : Pd (k + 1) (.tup [x, y]) := pd_tup (by simp) (by simp [hx, hy])
theorem pd_1 {k : Nat} {x : D} (hx : Pd k x) : Pd (k + 1) (.tup [x]) := pd_tup (by simp) (by simp [hx])
theorem pd_3 {k : Nat} {x y z : D} (hx : Pd k x) (hy : Pd k y) (hz : Pd k z) : Pd (k + 1) (.tup [x, y, z]) := pd_tup (by simp) (by simp [hx, hy, hz])
theorem same_pd {M : MH} : ∀ {k : Nat} {x : D}, Pd k x → Same M k x x
  | 0, _, h => h.elim
  | k + 1, x, h => by
    rcases h with h | ⟨b, h⟩ | ⟨i, h⟩ | ⟨s, h, ho⟩ | ⟨xs, h, hl, ha⟩
    · exact .inl ⟨h, h⟩
    · exact .inr (.inl ⟨b, h, h⟩)
    · exact .inr (.inr (.inl ⟨i, h, h⟩))
    · exact .inr (.inr (.inr (.inl ⟨s, h, h, ho⟩)))
    · refine .inr (.inr (.inr (.inr ⟨"tuple", xs, xs, .inl ⟨rfl, h⟩, .inl ⟨rfl, h⟩, rfl, hl, fun i a c h1 h2 => ?_⟩)))
      rw [h1] at h2
      cases h2
      exact same_pd (ha a (List.mem_of_getElem? h1))
theorem same_list {M : MH} {k : Nat} {x y : D} {xs : List D} (hx : listItems M x = some xs) (hy : listItems M y = some xs) (hl : xs.length ≤ 1000) (h : ∀ a ∈ xs, Pd k a) : Same M (k + 1) x y := by
  refine .inr (.inr (.inr (.inr ⟨"list", xs, xs, .inr ⟨rfl, hx⟩, .inr ⟨rfl, hy⟩, rfl, hl, fun i a c h1 h2 => ?_⟩)))
  rw [h1] at h2
  cases h2
  exact same_pd (h a (List.mem_of_getElem? h1))
end T2
namespace T2
open PySem L2
theorem set_end' {T : MH} {x y : MO} : (T ++ [x]).set T.length y = T ++ [y] := by simp
def pkE (i : Nat) : EM := eCall 2 pickM (eCons (eVar 0) (eCons (eVar i) (eNil)))
theorem pick_step {s : Bx} {R : MH} {acc ds xs : List D} {e : Env2} {i : Nat} (h0 : e[0]? = some (some (.ref 0))) (hi : i < e.length) (hi0 : 0 < i) (hs : BxOk s) (hd : 0 < ds.length ∧ ds.length < 1000) (ha : acc.length < 1000) :
    ∃ d s', d ∈ ds ∧ BxOk s' ∧ lcV (tgName i) bYes (pkE i) e (R.length + 1) (.fro ds :: xs) (s.obj :: (R ++ [.lst acc])) = lcV (tgName i) bYes (pkE i) e (R.length + 1) xs (s'.obj :: (R ++ [.lst (acc ++ [d])])) := by
  obtain ⟨d, s', e1, hd', h'⟩ := pick_run (R := R ++ [.lst acc]) (t := "list") (l := .fro ds) hs (fun _ => .inr ⟨rfl, rfl⟩) hd.1 hd.2
  refine ⟨d, s', hd', h', ?_⟩
  have g0 : (e.set i (some (D.fro ds)))[0]? = some (some (.ref 0)) := by rw [List.getElem?_set_ne (by omega)]; exact h0
  have gi : (e.set i (some (D.fro ds)))[i]? = some (some (.fro ds)) := by rw [List.getElem?_set_self hi]
  have hst : lcStep (tgName i) bYes (pkE i) e (.fro ds) (s.obj :: (R ++ [.lst acc])) = .ok (some d) (s'.obj :: (R ++ [.lst acc])) := by
    rw [z_step, pkE]
    simp only [z_seq, z_seq_nx, z_seq_rt, z_seq_ex, z_seq_bk, z_seq_ct, z_if, z_if_t, z_if_f, z_if_x, z_set, z_set_ok, z_set_x, z_ret, z_ret_ok, z_ret_x, z_retN, z_do, z_do_ok, z_do_x, z_nil, z_raise0, z_raise, z_raise_ok, z_toR_rt, z_toR_nx, z_toR_ex, z_c, z_var, z_var_ok, z_un, z_un_ok, z_un_x, z_bin, z_bin_ok, z_bin_x, z_anil, z_cons, z_cons1, z_cons1x, z_cons2, z_cons2x, z_args, z_args_ok, z_args_x, z_tup, z_tup_ok, z_fro, z_fro_ok, z_lst, z_lst_ok, z_call, z_stat, z_call_ok, z_callk, z_callk1, z_callk2, z_mkF, z_mkF_ok, z_own1, z_own1_ok, z_prop, z_own2, z_own2_ok, z_val, z_val_ok, z_val_x, z_and, z_and_t, z_and_f, z_or, z_or_t, z_or_f, z_not, z_not_ok, z_yes, z_eand, z_eand_t, z_eand_f, z_eor, z_eor_t, z_eor_f, z_enot, z_enot_ok, z_eif, z_eif_t, z_eif_f, z_for, z_for_v, z_iseq, z_iseq_t, z_iseq_f, z_iseq_r, z_rng, z_rng_ok, z_env0, z_try, z_try_nx, z_try_rt, z_try0, z_try0_nx, z_try0_rt, z_for_l, z_fv0, z_fv_nx, z_fv_ct, z_fv_rt, z_lc_v, z_step, z_step_ok, z_istr, z_istr_ok, z_env0, List.map_cons, List.map_nil, List.replicate, List.append_nil, Nat.reduceSub, List.cons_append, List.nil_append, List.length_cons, List.length_nil, Nat.reduceAdd, Nat.reduceLeDiff, List.getElem?_cons_zero, List.getElem?_cons_succ, List.set_cons_zero, List.set_cons_succ, Bool.not_true, Bool.not_false, g0, gi, e1]
  rw [lcV, hst, Res.bind_ok, push_ok (acc := acc) (by rw [List.getElem?_cons_succ]; simp) ha, List.set_cons_succ, set_end']
/-- one of each menu -/
theorem picks_run {R : MH} {e : Env2} {i : Nat} (h0 : e[0]? = some (some (.ref 0))) (hi : i < e.length) (hi0 : 0 < i) : ∀ (ms : List (List D)) (acc : List D) (s : Bx), BxOk s → (∀ m ∈ ms, 0 < m.length ∧ m.length < 1000) → acc.length + ms.length ≤ 1000 →
    ∃ ds s', BxOk s' ∧ ds.length = ms.length ∧ (∀ (j : Nat) d m, ds[j]? = some d → ms[j]? = some m → d ∈ m) ∧ lcV (tgName i) bYes (pkE i) e (R.length + 1) (ms.map D.fro) (s.obj :: (R ++ [.lst acc])) = .ok (.ref (R.length + 1)) (s'.obj :: (R ++ [.lst (acc ++ ds)]))
  | [], acc, s, hs, _, _ => ⟨[], s, hs, rfl, fun j d m h => by simp at h, by simp [lcV]⟩
  | m :: ms, acc, s, hs, hm, hz => by
    obtain ⟨d, s1, hd, h1, e1⟩ := pick_step (R := R) (acc := acc) (xs := ms.map D.fro) h0 hi hi0 hs (hm m (by simp)) (by simp at hz; omega)
    obtain ⟨ds, s2, h2, hl, hmem, e2⟩ := picks_run h0 hi hi0 ms (acc ++ [d]) s1 h1 (fun m h => hm m (by simp [h])) (by simp at hz ⊢; omega)
    refine ⟨d :: ds, s2, h2, by simp [hl], ?_, ?_⟩
    · intro j d' m' hj hj'
      cases j with
      | zero => simp at hj hj'; rw [← hj, ← hj']; exact hd
      | succ j => exact hmem j d' m' (by simpa using hj) (by simpa using hj')
    · rw [List.map_cons, e1, e2]; simp
theorem len_cons {α : Type} {l : List α} {n : Nat} (h : l.length = n + 1) : ∃ a t, l = a :: t ∧ t.length = n := by
  cases l with
  | nil => simp at h
  | cons a t => exact ⟨a, t, rfl, by simpa using h⟩
theorem len_1 {α : Type} {l : List α} (h : l.length = 1) : ∃ a0, l = [a0] := by
  obtain ⟨a0, l0, rfl, h0⟩ := len_cons h
  cases List.eq_nil_of_length_eq_zero h0
  exact ⟨a0, rfl⟩
theorem len_2 {α : Type} {l : List α} (h : l.length = 2) : ∃ a0 a1, l = [a0, a1] := by
  obtain ⟨a0, l0, rfl, h0⟩ := len_cons h
  obtain ⟨a1, l1, rfl, h1⟩ := len_cons h0
  cases List.eq_nil_of_length_eq_zero h1
  exact ⟨a0, a1, rfl⟩
theorem len_3 {α : Type} {l : List α} (h : l.length = 3) : ∃ a0 a1 a2, l = [a0, a1, a2] := by
  obtain ⟨a0, l0, rfl, h0⟩ := len_cons h
  obtain ⟨a1, l1, rfl, h1⟩ := len_cons h0
  obtain ⟨a2, l2, rfl, h2⟩ := len_cons h1
  cases List.eq_nil_of_length_eq_zero h2
  exact ⟨a0, a1, a2, rfl⟩
theorem len_4 {α : Type} {l : List α} (h : l.length = 4) : ∃ a0 a1 a2 a3, l = [a0, a1, a2, a3] := by
  obtain ⟨a0, l0, rfl, h0⟩ := len_cons h
  obtain ⟨a1, l1, rfl, h1⟩ := len_cons h0
  obtain ⟨a2, l2, rfl, h2⟩ := len_cons h1
  obtain ⟨a3, l3, rfl, h3⟩ := len_cons h2
  cases List.eq_nil_of_length_eq_zero h3
  exact ⟨a0, a1, a2, a3, rfl⟩
theorem len_8 {α : Type} {l : List α} (h : l.length = 8) : ∃ a0 a1 a2 a3 a4 a5 a6 a7, l = [a0, a1, a2, a3, a4, a5, a6, a7] := by
  obtain ⟨a0, l0, rfl, h0⟩ := len_cons h
  obtain ⟨a1, l1, rfl, h1⟩ := len_cons h0
  obtain ⟨a2, l2, rfl, h2⟩ := len_cons h1
  obtain ⟨a3, l3, rfl, h3⟩ := len_cons h2
  obtain ⟨a4, l4, rfl, h4⟩ := len_cons h3
  obtain ⟨a5, l5, rfl, h5⟩ := len_cons h4
  obtain ⟨a6, l6, rfl, h6⟩ := len_cons h5
  obtain ⟨a7, l7, rfl, h7⟩ := len_cons h6
  cases List.eq_nil_of_length_eq_zero h7
  exact ⟨a0, a1, a2, a3, a4, a5, a6, a7, rfl⟩
/-! ### a law's body, statement by statement: it ends with True -/
def EndsT (r : SR) : Prop := ∃ M', toR r = .ok (.bl true) M'
theorem st_set {i : Nat} {m : EM} {b : SM} {e : Env2} {M M1 : MH} {d : D} (h : m e M = .ok d M1) (h2 : EndsT (b (e.set i (some d)) M1)) : EndsT (sSeq (sSet i m) b e M) := by
  rw [z_seq, z_set, h, z_set_ok, z_seq_nx]; exact h2
theorem st_do {m : EM} {b : SM} {e : Env2} {M M1 : MH} {d : D} (h : m e M = .ok d M1) (h2 : EndsT (b e M1)) : EndsT (sSeq (sDo m) b e M) := by
  rw [z_seq, z_do, h, z_do_ok, z_seq_nx]; exact h2
/-- `if not x: return False` where x is True -/
theorem st_ask {m : EM} {a b : SM} {e : Env2} {M M1 : MH} (h : m e M = .ok (.bl true) M1) (h2 : EndsT (b e M1)) : EndsT (sSeq (sIf (bNot (bVal m)) a sNil) b e M) := by
  rw [z_seq, z_if, z_not, z_val, h, z_val_ok, z_not_ok, Bool.not_true, z_if_f, z_nil, z_seq_nx]; exact h2
theorem st_for {it : Env2 → MH → Res IV} {tg : TgM} {c b : SM} {e e1 : Env2} {M M0 M1 : MH} {ds : List D} (h : it e M = .ok (.vals ds) M0) (h1 : forV tg c ds e M0 = .nx e1 M1) (h2 : EndsT (b e1 M1)) : EndsT (sSeq (sForI it tg c) b e M) := by
  rw [z_seq, for_nx h h1, z_seq_nx]; exact h2
theorem st_ret {m : EM} {e : Env2} {M M1 : MH} (h : m e M = .ok (.bl true) M1) : EndsT (sRet m e M) := ⟨M1, by rw [z_ret, h, z_ret_ok, z_toR_rt]⟩
/-! ### fields of an instance that is being made -/
theorem putf_run {cs : List Nat} {f : Str} {mo mv : EM} {e : Env2} {M M' : MH} {o v : D} (h1 : mv e M = .ok v M) (h2 : mo e M = .ok o M) (h3 : dPutF cs f o v M = some M') : sPutF cs f mo mv e M = .nx e M' := by
  unfold sPutF
  rw [h1]
  show Res.toS (mo e M) e _ = _
  rw [h2]
  show (match dPutF cs f o v M with | some M3 => SR.nx e M3 | none => SR.bad) = _
  rw [h3]
theorem putf_end {c : Nat} {f : Str} {b : MO} {T : MH} {ns : List Str} {ds : List D} {v : D} (h1 : ns.length < 100) (h2 : ns.length = ds.length) : dPutF [c] f (.ref (T.length + 1)) v (b :: (T ++ [.ob c ns ds])) = some (b :: (T ++ [.ob c (putN f v ns ds).1 (putN f v ns ds).2])) := by
  unfold dPutF
  dsimp only
  rw [List.getElem?_cons_succ, List.getElem?_append_right (Nat.le_refl _)]
  simp only [Nat.sub_self, List.getElem?_cons_zero]
  rw [if_pos ⟨by simp, h1, h2⟩, List.set_cons_succ, set_end']
theorem put_end {c i j : Nat} {f : Str} {e : Env2} {b : MO} {T : MH} {ns ns' : List Str} {ds ds' : List D} {v : D} (h1 : e[i]? = some (some (.ref (T.length + 1)))) (h2 : e[j]? = some (some v)) (h3 : ns.length < 100) (h4 : ns.length = ds.length) (h5 : putN f v ns ds = (ns', ds')) : sPutF [c] f (eVar i) (eVar j) e (b :: (T ++ [.ob c ns ds])) = .nx e (b :: (T ++ [.ob c ns' ds'])) :=
  putf_run (var_ok h2) (var_ok h1) (by rw [putf_end h3 h4, h5])
/-! ### plain data compared: a bool, whatever the memory -/
theorem pd_P : ∀ {k : Nat} {x : D}, Pd k x → ∃ p, (∀ rf, toPa rf x = some p) ∧ PyData.canLay0 p = true ∧ PyData.depth p ≤ k
  | 0, _, h => h.elim
  | k + 1, x, h => by
    rcases h with rfl | ⟨b, rfl⟩ | ⟨i, rfl⟩ | ⟨s, rfl, ho⟩ | ⟨xs, rfl, hl, ha⟩
    · exact ⟨.none, fun _ => rfl, rfl, by simp [PyData.depth]⟩
    · exact ⟨.bool b, fun _ => rfl, rfl, by simp [PyData.depth]⟩
    · exact ⟨.int i, fun _ => rfl, rfl, by simp [PyData.depth]⟩
    · exact ⟨.str s, fun _ => rfl, ho, by simp [PyData.depth]⟩
    · have key : ∀ ys : List D, (∀ a ∈ ys, Pd k a) → ∃ ps, (∀ rf, toPas rf ys = some ps) ∧ PyData.canLayAll0 ps = true ∧ PyData.depthAll ps ≤ k := by
        intro ys
        induction ys with
        | nil => exact fun _ => ⟨[], fun _ => rfl, rfl, by simp [PyData.depthAll]⟩
        | cons y ys ih =>
          intro h
          obtain ⟨p, h1, h2, h3⟩ := pd_P (h y (by simp))
          obtain ⟨ps, g1, g2, g3⟩ := ih fun a m => h a (by simp [m])
          refine ⟨p :: ps, fun rf => by rw [toPas, h1, g1], by rw [PyData.canLayAll0, h2, g2]; rfl, ?_⟩
          rw [PyData.depthAll]; omega
      obtain ⟨ps, g1, g2, g3⟩ := key xs ha
      refine ⟨.tuple ps, fun rf => by rw [toPa, g1]; rfl, by rw [PyData.canLay0]; exact g2, ?_⟩
      rw [PyData.depth]; omega
theorem eq_pd {k : Nat} {x y : D} (hk : k ≤ 64) (hx : Pd k x) (hy : Pd k y) : ∃ b, ∀ M, dEq x y M = .ok (.bl b) M := by
  obtain ⟨p, h1, h2, h3⟩ := pd_P hx
  obtain ⟨q, g1, g2, g3⟩ := pd_P hy
  refine ⟨PyData.eqv p q, fun M => ?_⟩
  unfold dEq toP
  rw [h1, g1]
  dsimp only
  rw [if_pos]
  unfold SeqAt.shaped
  rw [h2, g2]
  simp only [Bool.true_and, decide_eq_true_eq]
  exact ⟨by omega, by omega⟩
/-! ### a list that is walked, under an invariant of the names -/
theorem forL_forV_I {tg : TgM} {body : SM} {n : Nat} {ds : List D} {M : MH} {I : Env2 → Prop} (hM : M[n]? = some (.lst ds)) (hb : ∀ x ∈ ds, ∀ e e1, I e → tg x e = some e1 → ∀ e2 M2, (body e1 M = .nx e2 M2 ∨ body e1 M = .ct e2 M2) → M2 = M ∧ I e2) : ∀ (k i : Nat) (e : Env2), I e → i + k = ds.length → forL tg body n k i e M = forV tg body (ds.drop i) e M
  | 0, i, e, _, hk => by
    unfold forL
    rw [hM]
    dsimp only
    rw [if_pos (by omega), List.drop_eq_nil_of_le (by omega)]
    rfl
  | k + 1, i, e, hI, hk => by
    have hi : i < ds.length := by omega
    have hx := List.getElem?_eq_getElem hi
    unfold forL
    rw [hM]
    dsimp only
    rw [hx, drop_cons' hx]
    dsimp only
    conv => rhs; unfold forV
    cases ht : tg ds[i] e with
    | none => rfl
    | some e1 =>
      dsimp only
      cases hq : body e1 M with
      | nx e2 M2 =>
        obtain ⟨rfl, h2⟩ := hb _ (List.getElem_mem hi) e e1 hI ht e2 M2 (.inl hq)
        exact forL_forV_I hM hb k (i + 1) e2 h2 (by omega)
      | ct e2 M2 =>
        obtain ⟨rfl, h2⟩ := hb _ (List.getElem_mem hi) e e1 hI ht e2 M2 (.inr hq)
        exact forL_forV_I hM hb k (i + 1) e2 h2 (by omega)
      | _ => rfl
theorem for_items_I {tg : TgM} {body : SM} {m : EM} {e : Env2} {M : MH} {l : D} {ds : List D} (I : Env2 → Prop) (hm : m e M = .ok l M) (h : listItems M l = some ds) (hI : I e) (hb : ∀ x ∈ ds, ∀ e e1, I e → tg x e = some e1 → ∀ e2 M2, (body e1 M = .nx e2 M2 ∨ body e1 M = .ct e2 M2) → M2 = M ∧ I e2) : sForI (iSeq m) tg body e M = forV tg body ds e M := by
  rw [z_for, z_iseq, hm]
  rcases items_ref h with rfl | ⟨n, rfl, hn⟩
  · rfl
  · rw [z_iseq_r, z_for_l hn, forL_forV_I hn hb ds.length 0 e hI (by omega)]
    rfl
end T2
namespace T2
open PySem L2 PyProof.Rows

/-! ### o.f += e (ints) -/
def sIncF (cs : List Nat) (f : Str) (mo mv : EM) : SM := fun e M => (mo e M).toS e fun o M1 => match dFld cs f o M1 with
  | .ok (.int i) _ => (mv e M1).toS e fun y M2 => match y, instOf M1 o, instOf M2 o with
    | .int j, some (c, _, _), some (c', _, _) => if c = c' then (match dPutF cs f o (.int (i + j)) M2 with
      | some M3 => .nx e M3
      | none => .bad) else .bad
    | _, _, _ => .bad
  | _ => .bad
section
variable {X : Cx} {g : Wd} {W : WY} {a b o : Expr} {pos p apos : Pos} {m1 m2 m3 : EM} {ma : AM} {es : List Expr}
theorem ds_incF {cs : List Nat} {f : Str} (hC : ClsF X.K g.ca cs f) (ho : PE X o (tD g W m1)) (hv : PE X a (tD g W m2)) : PS X (.AugAssign (.Attribute o f apos) .Add a pos) (tS g W (sIncF cs f m1 m2)) :=
  ps_imp (ps_fldaug ho hv in_add) fun E σ H ⟨F, e, M, RS, q⟩ => by
    refine ⟨F, e, M, RS, q.step RS fun x M1 F1 H1 vx _ g1 R1 rx q1 => ?_⟩
    have RS1 := RS.up g1 R1
    cases hf : dFld cs f x M1 with
    | bad => rw [hf] at q1; exact q1.elim
    | exc c ns ds M' => rw [hf] at q1; exact q1.elim
    | ok z M1' =>
      rw [hf] at q1
      cases z with
      | int i =>
        dsimp only at q1
        unfold dFld at hf
        split at hf
        · rename_i c ns ds hi
          split at hf
          · rename_i hc
            split at hf
            · rename_i d hd
              cases hf
              obtain ⟨ad, dx, vs, rfl, ha, hl, r⟩ := inst_at R1 rx hi
              obtain ⟨u, hu, ru⟩ := field_rep r hd
              cases ru
              refine ⟨ad, _, dx, _, _, rfl, ha, hC.cl c hc, hC.na c hc, hu, F1, e, M1, RS1, q1.step RS1 fun y M2 F2 H2 vy _ g2 R2 ry q2 => ?_⟩
              have RS2 := RS1.up g2 R2
              cases y with
              | int j =>
                cases ry
                refine ⟨_, _, rfl, rfl, ?_⟩
                rw [hi] at q2
                split at q2
                · rename_i j' cc nn dd c' nn' dd' hy h1 h2
                  cases hy
                  cases h1
                  split at q2
                  · rename_i hcc
                    subst hcc
                    split at q2
                    · rename_i M4 h4
                      unfold dPutF at h4
                      split at h4
                      · rename_i n
                        cases rx with | ref hn =>
                        have hn2 := pre_get g2.pre hn
                        split at h4
                        · rename_i c2 ns2 ds2 hd2
                          split at h4
                          · rename_i hc2
                            cases h4
                            have e2 : c2 = c := by
                              unfold instOf at h2
                              dsimp only at h2
                              rw [hd2] at h2
                              cases h2; rfl
                            subst e2
                            obtain ⟨oo, e1, r1⟩ := R2.obj _ _ _ hn2 hd2
                            cases r1 with | ob hl1 r1 =>
                            rename_i dx1 vs1
                            refine ⟨dx1, _, e1, ?_, ?_⟩
                            · have h3 := hc2.2.1
                              rw [List.length_zip]
                              omega
                            · obtain ⟨us, h5, h6, h7⟩ := putN_rep (f := f) (Rep.int (g := g) (F := F2) (H := H2) (i + j)) hl1 r1
                              rw [h5]
                              obtain ⟨g3, R3⟩ := R2.put (o := .ins (g.ca c2) dx1 ((putN f (.int (i + j)) ns2 ds2).1.zip us)) (m := .ob c2 (putN f (.int (i + j)) ns2 ds2).1 (putN f (.int (i + j)) ns2 ds2).2) hn2 trivial fun H' gr => .ob h6 (h7.mono gr R2.good)
                              exact q2 F2 _ _ g3 R3 (RS2.up g3 R3).e (RS2.up g3 R3).x
                          · cases h4
                        · cases h4
                      · cases h4
                    · exact q2.elim
                  · exact q2.elim
                · exact q2.elim
              | _ => exact q2.elim
            · cases hf
          · cases hf
        · cases hf
      | _ => exact q1.elim

/-! ### a, b, .. = a list -/
def sUnpL (is : List Nat) (m : EM) : SM := fun e M => (m e M).toS e fun d M1 => match listItems M1 d with
  | some ds => if ds.length = is.length then .nx (setAll e is ds) M1 else .bad
  | none => .bad
theorem ds_unpL {tgE : Expr} {is : List Nat} (hK : g.K = X.K) (hg : PG X tgE (gLst X.K is.length (gNs is))) (hv : PE X a (tD g W m1)) (px : W.p.xs = []) (hs : swapsWithSole [tgE] a pos.line X.env = pure false := by rfl) (hw : swappedStores [tgE] a X.env = pure none := by rfl) (h1 : (assignEach [tgE] X.env).map (·.2) = [assign tgE X.env] := by rfl) :
    PS X (.Assign [tgE] a pos) (tS g W (sUnpL is m1)) :=
  ps_imp (ps_asg hv hg hs hw h1) fun E σ H ⟨F, e, M, RS, q⟩ => by
    refine ⟨F, e, M, RS, q.step RS fun x M1 F1 H1 vx _ g1 R1 rx q1 => ?_⟩
    cases ht : listItems M1 x with
    | none => rw [ht] at q1; exact q1.elim
    | some ds =>
      rw [ht] at q1
      dsimp only at q1
      split at q1
      · rename_i hl
        obtain ⟨ad, vs, rfl, hs, rs⟩ := listItems_at R1 rx ht
        exact ⟨ad, vs, rfl, by rw [← hK]; exact hs, by rw [← rs.length]; exact hl, gNs_run R1 is e σ ds vs _ hl (RS.e.mono g1 RS.m.good) rs fun σ1 E1 => q1 F1 H1 σ1 .same R1 E1 (by rw [px]; exact pin_nil)⟩
      · exact q1.elim
end

/-! ### dict comprehensions (one clause, over values) -/
def dcStep (tg : TgM) (tt : BM) (mk mv : EM) (e : Env2) (x : D) (M : MH) : Res (Option (Key × D)) := match tg x e with
  | none => .bad
  | some e1 => (noX (tt e1 M)).bind fun b M1 => if b = true then (noX (mk e1 M1)).bind fun y M2 => (noX (mv e1 M2)).bind fun z M3 => match keyOf y with
      | some k => .ok (some (k, z)) M3
      | none => .bad
    else .ok none M1
def putAt (n : Nat) (o : Option (Key × D)) (M : MH) : Option MH := match o with
  | none => some M
  | some (k, y) => match M[n]? with
    | some (.dk ks ds) => if ds.length ≤ 1000 then some (M.set n (.dk (kPutD k y ks ds).1 (kPutD k y ks ds).2)) else none
    | _ => none
def dcV (tg : TgM) (tt : BM) (mk mv : EM) (e : Env2) (n : Nat) : List D → MH → Res D
  | [], M => .ok (.ref n) M
  | x :: xs, M => (dcStep tg tt mk mv e x M).bind fun o M1 => match putAt n o M1 with
    | some M2 => dcV tg tt mk mv e n xs M2
    | none => .bad
def eDc (it : Env2 → MH → Res IV) (tg : TgM) (tt : BM) (mk mv : EM) (vs : List Nat) : EM := fun e M => match it e M with
  | .ok (.vals ds) M1 => dcV tg tt mk mv (wipe2 e vs) M1.length ds (M1 ++ [.dk [] []])
  | .exc c ns ds M1 => .exc c ns ds M1
  | _ => .bad
section
variable {X : Cx} {g : Wd} {W : WY} {pos : Pos} {mk mv : EM} {tt : BM}
theorem dcStep_run {F : List Addr} {e : Env2} {M : MH} {σ : L2.St} {H : Hp} {x : D} {v : V} {tg : TgM} {gt : TG} {vs : List Nat} {n : Nat} {ad : Addr} {k : MH → Res D} {Q : VK} {Nx : Hp → Prop} {τ : L2.St}
    (RS : RelS g ⟨[], []⟩ F (wipe2 e vs) M (wipe σ vs) H) (ts : TgSim g tg gt) (ow : TgOwn tg gt vs) (r : Rep g F H x v) (hn : F[n]? = some ad)
    (q : post g rD W.w F τ H ((dcStep tg tt mk mv (wipe2 e vs) x M).bind fun o M1 => match putAt n o M1 with | some M2 => k M2 | none => .bad) Q)
    (f : ∀ M1 F1 H1, Grow F H F1 H1 → RelM g F1 M1 H1 → post g rD W.w F1 τ H1 (k M1) Q → Nx H1) :
    gt v (wipe σ vs) H fun σ2 H2 => wipe σ2 vs = wipe σ vs ∧ tB2 g W0 tt σ2 H2 fun b H3 => if b = true then tD g W0 mk σ2 H3 fun y H4 => tD g W0 mv σ2 H4 fun z H5 => ∃ kvs k, y = kV k ∧ H5 ad = some (.dK kvs) ∧ kvs.length < sizeLine ∧ Nx (upd H5 ad (.dK (putK kvs k z))) else Nx H3 := by
  unfold dcStep at q
  cases ht : tg x (wipe2 e vs) with
  | none => rw [ht] at q; exact q.elim
  | some e1 =>
    rw [ht] at q
    dsimp only at q
    refine ow v σ H _ (ts F M _ e1 _ H x v _ RS.m RS.e r ht fun σ2 E2 => ?_)
    refine ⟨F, e1, M, ⟨RS.m, E2, pin_nil, xrs_nil⟩, ?_⟩
    cases hb : tt e1 M with
    | bad => rw [hb] at q; exact q.elim
    | exc c ns ds M1 => rw [hb] at q; exact q.elim
    | ok b M1 =>
      rw [hb] at q
      intro F1 H1 b' g1 R1 eb
      cases eb
      dsimp only [Res.bind, noX] at q
      have RS1 : RelS g ⟨[], []⟩ F1 e1 M1 σ2 H1 := RelS.up ⟨RS.m, E2, pin_nil, xrs_nil⟩ g1 R1
      cases b with
      | false => exact f M1 F1 H1 g1 R1 (q.up g1)
      | true =>
        refine ⟨F1, e1, M1, RS1, ?_⟩
        rw [if_pos rfl] at q
        cases hm : mk e1 M1 with
        | bad => rw [hm] at q; exact q.elim
        | exc c ns ds M2 => rw [hm] at q; exact q.elim
        | ok y M2 =>
          rw [hm] at q
          intro F2 H2 u g2 R2 ru
          dsimp only [Res.bind, noX] at q
          refine ⟨F2, e1, M2, RS1.up g2 R2, ?_⟩
          cases hm3 : mv e1 M2 with
          | bad => rw [hm3] at q; exact q.elim
          | exc c ns ds M2 => rw [hm3] at q; exact q.elim
          | ok z M3 =>
            rw [hm3] at q
            intro F3 H3 w g3 R3 rw'
            have hn3 : F3[n]? = some ad := pre_get g3.pre (pre_get g2.pre (pre_get g1.pre hn))
            have g123 := (g1.trans g2).trans g3
            dsimp only [Res.bind, noX] at q
            cases hk : keyOf y with
            | none => rw [hk] at q; exact q.elim
            | some ky =>
              rw [hk] at q
              dsimp only [Res.bind, putAt] at q
              cases hM : M3[n]? with
              | none => rw [hM] at q; exact q.elim
              | some o =>
                rw [hM] at q
                cases o with
                | dk ks ds =>
                  dsimp only at q
                  by_cases hl : ds.length ≤ 1000
                  · rw [if_pos hl] at q
                    have ev := key_rep ru hk
                    subst ev
                    obtain ⟨us, hu, hlk, ra⟩ := dk_at R3 hn3 hM
                    refine ⟨_, ky, rfl, hu, by rw [List.length_zip]; have := ra.length; exact Nat.lt_of_lt_of_le (by omega : _ < 1002) (by decide), ?_⟩
                    have e2 := kPutD_len (x := ky) (d := z) (v := w) (ks := ks) ra.length
                    rw [putK_zip hlk]
                    obtain ⟨g4, R4⟩ := R3.put (o := .dK ((kPutD ky w ks us).1.zip (kPutD ky w ks us).2)) (m := .dk (kPutD ky z ks ds).1 (kPutD ky z ks ds).2) hn3 trivial fun H' gr => by
                      rw [e2.1]
                      exact .dk (kPutD_one hlk) (kPutD_rep (rw'.mono gr R3.good) (ra.mono gr R3.good))
                    exact f _ F3 _ (g123.trans g4) R4 (q.up (g123.trans g4))
                  · rw [if_neg hl] at q; exact q.elim
                | _ => exact q.elim
theorem eDc_imp {it : Env2 → MH → Res IV} {wi : TI} {tg : TgM} {gt : TG} {vs : List Nat} (hsim : ItSim g W it wi) (ts : TgSim g tg gt) (ow : TgOwn tg gt vs) {σ : L2.St} {H : Hp} {Q : VK} (q : tD g W (eDc it tg tt mk mv vs) σ H Q) : tDc wi gt (tB2 g W0 tt) (tD g W0 mk) (tD g W0 mv) vs σ H Q := by
  obtain ⟨F, e, M, RS, q⟩ := q
  refine hsim σ H F e M _ RS ?_
  unfold eDc at q
  cases hi : it e M with
  | bad => rw [hi] at q; exact q
  | exc c ns ds M1 => rw [hi] at q; exact q
  | ok iv M1 =>
    rw [hi] at q
    cases iv with
    | vals ds =>
      intro F1 H1 J g1 R1 itv ad had
      obtain ⟨g2, R2⟩ := R1.laid (m := .dk [] []) (o := .dK []) had fun F' H' gr => .dk rfl .nil
      have RS2 : RelS g W.p (F1 ++ [ad]) e (M1 ++ [.dk [] []]) σ (upd H1 ad (.dK [])) := (RS.up g1 R1).up g2 R2
      have hn0 : (F1 ++ [ad])[M1.length]? = some ad := by rw [← R1.len]; simp
      refine ⟨fun i k H' => i + k = ds.length ∧ ∃ F' M', Grow (F1 ++ [ad]) (upd H1 ad (.dK [])) F' H' ∧ RelM g F' M' H' ∧ post g rD W.w F' σ H' (dcV tg tt mk mv (wipe2 e vs) M1.length (ds.drop i) M') Q, ⟨ds.length, by simp, F1 ++ [ad], M1 ++ [.dk [] []], .same, R2, by simpa using q.up (g1.trans g2)⟩, ?_⟩
      rintro i k H3 ⟨hk, F3, M3, g3, R3, q3⟩
      have hn3 : F3[M1.length]? = some ad := pre_get g3.pre hn0
      by_cases hlt : i < ds.length
      · refine .inr ⟨itv.go F3 H3 i (g2.trans g3) hlt, fun H' => ∃ F' M', Grow (F1 ++ [ad]) (upd H1 ad (.dK [])) F' H' ∧ RelM g F' M' H' ∧ post g rD W.w F' σ H' (dcV tg tt mk mv (wipe2 e vs) M1.length (ds.drop (i + 1)) M') Q, fun H' z => ⟨k - 1, by omega, by omega, z⟩, fun x H4 hy => ?_⟩
        obtain ⟨hk4, d, hd, rd⟩ := itv.yld F3 H3 i x H4 (g2.trans g3) hlt hy
        obtain ⟨gk, Rk⟩ := R3.keep hk4
        replace q3 := q3.up gk
        replace g3 := g3.trans gk
        replace R3 := Rk
        rw [drop_cons' hd] at q3
        unfold dcV at q3
        have RS3 : RelS g ⟨[], []⟩ F3 (wipe2 e vs) M3 (wipe σ vs) H4 := ⟨R3, wipe_rep (RS2.up g3 R3).e vs, pin_nil, xrs_nil⟩
        exact dcStep_run RS3 ts ow rd hn3 q3 fun M5 F5 H5 g5 R5 q5 => ⟨F5, M5, g3.trans g5, R5, q5⟩
      · have hge : ds.length ≤ i := Nat.le_of_not_lt hlt
        rw [List.drop_eq_nil_of_le hge] at q3
        exact .inl ⟨itv.stop F3 H3 i (g2.trans g3) hge, q3.here R3 (.ref hn3)⟩
    | live sr => exact q.elim
variable {kx vx tgE iter : Expr} {ifs : List Expr} {scope : Scope} {own : List (Str × Nat)}
theorem de_dc {it : Env2 → MH → Res IV} {wi : TI} {tg : TgM} {gt : TG} (hN : X.N.Nodup) (hi : PI X tgE iter wi) (hsim : ItSim g W it wi) (ok : BlkOk X.N X.env.scope scope own) (ts : TgSim g tg gt) (ow : TgOwn tg gt (own.map (·.2)))
    (hg : ∀ (s : Shared) (H : Hp) (C : Addr) (cl : List (Str × Addr)) (fp : List Addr), PG (X.blk s H scope (compEnvC scope cl C X.env) fp) tgE gt) (ht : ∀ (s : Shared) (H : Hp) (C : Addr) (cl : List (Str × Addr)) (fp : List Addr), PTs (X.blk s H scope (compEnvC scope cl C X.env) fp) ifs (tB2 g W0 tt))
    (hk : ∀ (s : Shared) (H : Hp) (C : Addr) (cl : List (Str × Addr)) (fp : List Addr), PE (X.blk s H scope (compEnvC scope cl C X.env) fp) kx (tD g W0 mk))
    (he : ∀ (s : Shared) (H : Hp) (C : Addr) (cl : List (Str × Addr)) (fp : List Addr), PE (X.blk s H scope (compEnvC scope cl C X.env) fp) vx (tD g W0 mv)) (hc : X.calm = true := by rfl) (hs : ∀ x, foldedSetIterable iter X.env x = pure x := by intro _; rfl) :
    PE X (.DictComp kx vx [⟨tgE, iter, ifs, 0⟩] scope pos) (tD g W (eDc it tg tt mk mv (own.map (·.2)))) := pe_imp (pe_dc hc hN hi ok hg ht hk he hs) fun σ H Q q => eDc_imp hsim ts ow q
end
end T2
namespace T2
open PySem L2
/-! ### functions changed at one place; three in a row -/
def up1 {α : Type} (f : Nat → α) (i : Nat) (v : α) : Nat → α := fun j => if j = i then v else f j
theorem up1_same {α : Type} {f : Nat → α} {i : Nat} {v : α} : up1 f i v i = v := if_pos rfl
theorem up1_ne {α : Type} {f : Nat → α} {i j : Nat} {v : α} (h : j ≠ i) : up1 f i v j = f j := if_neg h
def r3 {α : Type} (f : Nat → α) : List α := [f 0, f 1, f 2]
theorem r3_get {α : Type} {f : Nat → α} {u : Nat} (h : u < 3) : (r3 f)[u]? = some (f u) := by
  have : u = 0 ∨ u = 1 ∨ u = 2 := by omega
  rcases this with rfl | rfl | rfl <;> rfl
theorem r3_set {α : Type} {f : Nat → α} {u : Nat} {v : α} (h : u < 3) : (r3 f).set u v = r3 (up1 f u v) := by
  have : u = 0 ∨ u = 1 ∨ u = 2 := by omega
  rcases this with rfl | rfl | rfl <;> rfl
theorem r3_len {α : Type} {f : Nat → α} : (r3 f).length = 3 := rfl
theorem r3_eq {α : Type} {f g : Nat → α} (h : ∀ u, u < 3 → f u = g u) : r3 f = r3 g := by
  unfold r3; rw [h 0 (by omega), h 1 (by omega), h 2 (by omega)]
def k3 : List Key := [.inl 0, .inl 1, .inl 2]
theorem k3_get {α : Type} {f : Nat → α} {u : Nat} (h : u < 3) : kGet k3 (r3 f) (.inl (u : Int)) = some (f u) := by
  have : u = 0 ∨ u = 1 ∨ u = 2 := by omega
  rcases this with rfl | rfl | rfl <;> rfl
theorem k3_put {α : Type} {f : Nat → α} {u : Nat} {v : α} (h : u < 3) : kPutD (.inl (u : Int)) v k3 (r3 f) = (k3, r3 (up1 f u v)) := by
  have : u = 0 ∨ u = 1 ∨ u = 2 := by omega
  rcases this with rfl | rfl | rfl <;> rfl
/-! ### slots: slot i stands at the place π i behind the box and holds c i -/
structure Sl (N : Nat) (T : MH) (π : Nat → Nat) (c : Nat → MO) : Prop where
  at_ : ∀ i, i < N → T[π i]? = some (c i)
  inj : ∀ i j, i < N → j < N → π i = π j → i = j
section
variable {N : Nat} {T T' : MH} {π : Nat → Nat} {c : Nat → MO} {i : Nat} {o : MO}
theorem Sl.lt (h : Sl N T π c) (hi : i < N) : π i < T.length := (List.getElem?_eq_some_iff.mp (h.at_ i hi)).1
theorem Sl.set (h : Sl N T π c) (hi : i < N) : Sl N (T.set (π i) o) π (up1 c i o) := by
  refine ⟨fun j hj => ?_, h.inj⟩
  by_cases e : j = i
  · subst e; rw [List.getElem?_set_self (h.lt hi), up1_same]
  · rw [List.getElem?_set_ne (fun z => e (h.inj j i hj hi z.symm)), up1_ne e]; exact h.at_ j hj
theorem Sl.ext (h : Sl N T π c) (x : Ext T T') : Sl N T' π c := ⟨fun j hj => x _ _ (h.at_ j hj), h.inj⟩
theorem Sl.fresh (h : Sl N T π c) (hi : i < N) : Sl N (T ++ [o]) (up1 π i T.length) (up1 c i o) := by
  refine ⟨fun j hj => ?_, fun a b ha hb e => ?_⟩
  · by_cases e : j = i
    · subst e; rw [up1_same, up1_same]; simp
    · rw [up1_ne e, up1_ne e, List.getElem?_append_left (h.lt hj)]; exact h.at_ j hj
  · by_cases ea : a = i
    · by_cases eb : b = i
      · rw [ea, eb]
      · rw [ea, up1_same, up1_ne eb] at e
        have := h.lt hb; omega
    · by_cases eb : b = i
      · rw [eb, up1_same, up1_ne ea] at e
        have := h.lt ha; omega
      · rw [up1_ne ea, up1_ne eb] at e; exact h.inj a b ha hb e
/-- one slot more -/
theorem Sl.more (h : Sl N T π c) (hN : π N = T.length) (hc : c N = o) : Sl (N + 1) (T ++ [o]) π c := by
  refine ⟨fun j hj => ?_, fun a b ha hb e => ?_⟩
  · by_cases e : j = N
    · subst e; rw [hN, hc]; simp
    · rw [List.getElem?_append_left (h.lt (by omega))]; exact h.at_ j (by omega)
  · by_cases ea : a = N
    · by_cases eb : b = N
      · rw [ea, eb]
      · have := h.lt (i := b) (by omega); rw [ea, hN] at e; omega
    · by_cases eb : b = N
      · have := h.lt (i := a) (by omega); rw [eb, hN] at e; omega
      · exact h.inj a b (by omega) (by omega) e
end
abbrev rf (π : Nat → Nat) (i : Nat) : D := .ref (π i + 1)
section
variable {T : MH} {p : Nat} {b : MO} {u : Nat} {v d : D} {ds : List D} {M M1 M2 : MH} {e e1 : Env2}
theorem at1 {o : MO} (h : T[p]? = some o) : (b :: T)[p + 1]? = some o := by rw [List.getElem?_cons_succ]; exact h
theorem li_at (h : T[p]? = some (.lst ds)) : listItems (b :: T) (.ref (p + 1)) = some ds := by
  unfold listItems; dsimp only; rw [at1 h]
theorem it_at (h : T[p]? = some (.lst ds)) : T2.items (b :: T) (.ref (p + 1)) = some ds := by
  unfold T2.items; dsimp only; rw [at1 h]
theorem ob_at {c : Nat} {ns : List Str} (h : T[p]? = some (.ob c ns ds)) : instOf (b :: T) (.ref (p + 1)) = some (c, ns, ds) := by
  unfold instOf; dsimp only; rw [at1 h]
theorem fld_at {c : Nat} {cs : List Nat} {ns : List Str} {f : Str} (h : T[p]? = some (.ob c ns ds)) (hc : cs.contains c = true) (hf : fieldOf f ns ds = some d) : dFld cs f (.ref (p + 1)) (b :: T) = .ok d (b :: T) := by
  unfold dFld; rw [ob_at h]; dsimp only; rw [if_pos hc, hf]
theorem ix_at {j : Nat} (h : T[p]? = some (.lst ds)) (hj : ds[j]? = some d) : dIxA (.ref (p + 1)) (.int (j : Nat)) (b :: T) = .ok d (b :: T) :=
  SeqOf.ix (t := "list") (.inr ⟨rfl, li_at h⟩) hj
theorem ixk_at {ks : List Key} {k : Int} (h : T[p]? = some (.dk ks ds)) (hk : kGet ks ds (.inl k) = some d) : dIxA (.ref (p + 1)) (.int k) (b :: T) = .ok d (b :: T) := by
  unfold dIxA; dsimp only; rw [at1 h]; dsimp only [keyOf]; rw [hk]
theorem setl_at {j : Nat} (h : T[p]? = some (.lst ds)) (hj : j < ds.length) : dSetIx (.ref (p + 1)) (.int (j : Nat)) v (b :: T) = some (b :: T.set p (.lst (ds.set j v))) := by
  unfold dSetIx; dsimp only; rw [at1 h]; dsimp only
  have : ixN ds.length (j : Int) = some j := by unfold ixN; simp; omega
  rw [this]; dsimp only; rw [List.set_cons_succ]
theorem setk_at {ks : List Key} {k : Int} (h : T[p]? = some (.dk ks ds)) (hl : ds.length ≤ 1000) : dSetD (.ref (p + 1)) (.int k) v (b :: T) = some (b :: T.set p (.dk (kPutD (.inl k) v ks ds).1 (kPutD (.inl k) v ks ds).2)) := by
  unfold dSetD; dsimp only; rw [at1 h]; dsimp only [keyOf]; rw [if_pos hl, List.set_cons_succ]
theorem put_at {c : Nat} {cs : List Nat} {ns : List Str} {f : Str} (h : T[p]? = some (.ob c ns ds)) (hc : cs.contains c = true) (h1 : ns.length < 100) (h2 : ns.length = ds.length) : dPutF cs f (.ref (p + 1)) v (b :: T) = some (b :: T.set p (.ob c (putN f v ns ds).1 (putN f v ns ds).2)) := by
  unfold dPutF; dsimp only; rw [at1 h]; dsimp only; rw [if_pos ⟨hc, h1, h2⟩, List.set_cons_succ]
theorem setix_run {f : D → D → D → MH → Option MH} {mo mi mv : EM} {M4 : MH} {o i : D} (hv : mv e M = .ok v M1) (ho : mo e M1 = .ok o M1) (hi : mi e M1 = .ok i M1) (hs : f o i v M1 = some M4) : sSetIx f mo mi mv e M = .nx e M4 := by
  unfold sSetIx
  rw [hv]
  show Res.toS (mo e M1) e _ = _
  rw [ho]
  show Res.toS (mi e M1) e _ = _
  rw [hi]
  show (match f o i v M1 with | some M4 => SR.nx e M4 | none => SR.bad) = _
  rw [hs]
theorem meth_run {c n : Nat} {m : Str} {f : List D → MH → Res D} {mo : EM} {ma : AM} {o : D} {ns : List Str} {xs : List D} {r : Res D} (ho : mo e M = .ok o M) (hi : instOf M o = some (c, ns, ds)) (hm : m ∉ ns) (ha : ma e M = .ok xs M2) (hn : xs.length + 1 = n) (hf : f (o :: xs) M2 = r) : eMeth c m n f mo ma e M = r := by
  unfold eMeth
  rw [ho, Res.bind_ok, hi]
  dsimp only
  rw [if_pos ⟨rfl, hm⟩, ha, Res.bind_ok, if_pos hn, hf]
theorem do_nx {m : EM} (h : m e M = .ok d M1) : sDo m e M = .nx e M1 := by rw [z_do, h, z_do_ok]
theorem tup_of (h : T2.items M v = some ds) : dTupF [v] M = .ok (.tup ds) M := by unfold dTupF; dsimp only; rw [h]
/-! ### loops over lists that stay, while other things change -/
theorem forL_inv {tg : TgM} {body : SM} {n : Nat} {ds : List D} {I : Nat → Env2 → MH → Prop} (hk : ∀ i e M, I i e M → M[n]? = some (.lst ds)) (step : ∀ (i : Nat) x e M, ds[i]? = some x → I i e M → ∃ e1 e2 M2, tg x e = some e1 ∧ body e1 M = .nx e2 M2 ∧ I (i + 1) e2 M2) :
    ∀ (k i : Nat) (e : Env2) (M : MH), i + k = ds.length → I i e M → ∃ e' M', forL tg body n k i e M = .nx e' M' ∧ I ds.length e' M'
  | 0, i, e, M, hi, h => by
    refine ⟨e, M, ?_, by rw [← hi]; exact h⟩
    unfold forL; rw [hk _ _ _ h]; dsimp only; rw [if_pos (by omega)]
  | k + 1, i, e, M, hi, h => by
    have hlt : i < ds.length := by omega
    have hx := List.getElem?_eq_getElem hlt
    obtain ⟨e1, e2, M2, ht, hb, h2⟩ := step i _ e M hx h
    obtain ⟨e', M', he, h3⟩ := forL_inv hk step k (i + 1) e2 M2 (by omega) h2
    refine ⟨e', M', ?_, h3⟩
    unfold forL; rw [hk _ _ _ h]; dsimp only; rw [hx]; dsimp only; rw [ht]; dsimp only; rw [hb]; exact he
theorem for_list_inv {tg : TgM} {body : SM} {m : EM} {l : D} {ds : List D} {I : Nat → Env2 → MH → Prop} (hm : m e M = .ok l M) (hk : ∀ i e M, I i e M → listItems M l = some ds) (h0 : I 0 e M) (step : ∀ (i : Nat) x e M, ds[i]? = some x → I i e M → ∃ e1 e2 M2, tg x e = some e1 ∧ body e1 M = .nx e2 M2 ∧ I (i + 1) e2 M2) :
    ∃ e' M', sForI (iSeq m) tg body e M = .nx e' M' ∧ I ds.length e' M' := by
  rcases items_ref (hk 0 e M h0) with rfl | ⟨n, rfl, hn⟩
  · obtain ⟨e', M', e1, h1⟩ := loop_inv (body := body) (tg := tg) (I := I) ds 0 e M h0 fun j hj e M h => by
      rw [Nat.zero_add] at h ⊢
      exact step j _ e M (List.getElem?_eq_getElem hj) h
    refine ⟨e', M', ?_, by rw [Nat.zero_add] at h1; exact h1⟩
    rw [z_for, z_iseq, hm, z_iseq_f, z_for_v, e1]
  · obtain ⟨e', M', e1, h1⟩ := forL_inv (n := n) (tg := tg) (body := body) (ds := ds) (I := I) (fun i e M h => by
      rcases items_ref (hk i e M h) with q | ⟨n', q, hn'⟩
      · cases q
      · cases q; exact hn') step ds.length 0 e M (by omega) h0
    refine ⟨e', M', ?_, h1⟩
    rw [z_for, z_iseq, hm, z_iseq_r, z_for_l hn, e1]
/-! ### comprehensions with a test, nothing new but the list -/
theorem step_if {i : Nat} {tt : BM} {m : EM} {x y : D} {k : Bool} (h1 : tt (e.set i (some x)) M = .ok k M) (h2 : k = true → m (e.set i (some x)) M = .ok y M) : lcStep (tgName i) tt m e x M = .ok (if k = true then some y else none) M := by
  unfold lcStep tgName
  dsimp only
  rw [h1]
  dsimp only [noX, Res.bind]
  cases k with
  | false => rfl
  | true => rw [if_pos rfl, h2 rfl]; rfl
theorem lc_if {it : Env2 → MH → Res IV} {i : Nat} {tt : BM} {m : EM} {vs : List Nat} {p : D → Bool} {g : D → D} (hi : it e M = .ok (.vals ds) M) (h1 : ∀ x ∈ ds, ∀ acc, tt ((wipe2 e vs).set i (some x)) (M ++ [.lst acc]) = .ok (p x) (M ++ [.lst acc])) (h2 : ∀ x ∈ ds, p x = true → ∀ acc, m ((wipe2 e vs).set i (some x)) (M ++ [.lst acc]) = .ok (g x) (M ++ [.lst acc])) (hz : ds.length ≤ 1000) :
    eLc it (tgName i) tt m vs e M = .ok (.ref M.length) (M ++ [.lst ((ds.filter p).map g)]) := by
  rw [z_lc, hi, z_lc_v, lc_filter ds (p := p) (g := g) (fun x hx acc => step_if (h1 x hx acc) fun hp => h2 x hx hp acc) [] (by simpa using hz)]
  simp
theorem tupc_if {it : Env2 → MH → Res IV} {i : Nat} {tt : BM} {m : EM} {vs : List Nat} {p : D → Bool} {g : D → D} (hi : it e M = .ok (.vals ds) M) (h1 : ∀ x ∈ ds, ∀ acc, tt ((wipe2 e vs).set i (some x)) (M ++ [.lst acc]) = .ok (p x) (M ++ [.lst acc])) (h2 : ∀ x ∈ ds, p x = true → ∀ acc, m ((wipe2 e vs).set i (some x)) (M ++ [.lst acc]) = .ok (g x) (M ++ [.lst acc])) (hz : ds.length ≤ 1000) :
    eArgs dTupF (eCons (eLc it (tgName i) tt m vs) eNil) e M = .ok (.tup ((ds.filter p).map g)) (M ++ [.lst ((ds.filter p).map g)]) := by
  rw [z_args, z_cons, lc_if hi h1 h2 hz, z_cons1, z_anil, z_cons2, z_args_ok]
  exact tup_of (by unfold T2.items; dsimp only; simp)
end
end T2
namespace T2
open PySem L2

/-! ### what a call hands back is frozen, what it has made beside it is forgotten -/
mutual
def fzA (rf : Nat → Option D) : D → Option D
  | .ref n => rf n
  | .tup ds => (fzAs rf ds).map .tup
  | .fro ds => (fzAs rf ds).map .fro
  | .ins c ns ds => (fzAs rf ds).map (.ins c ns)
  | .non => some .non
  | .bl b => some (.bl b)
  | .int i => some (.int i)
  | .str x => some (.str x)
  | .ty n => some (.ty n)
  | .cls c => some (.cls c)
  | .obj a => some (.obj a)
  | .tk ks => some (.tk ks)
def fzAs (rf : Nat → Option D) : List D → Option (List D)
  | [] => some []
  | d :: ds => match fzA rf d, fzAs rf ds with
    | some x, some xs => some (x :: xs)
    | _, _ => none
end
def rfz (M : MH) (k : Nat) : Nat → Nat → Option D
  | 0, n => if n < k then some (.ref n) else none
  | f + 1, n => if n < k then some (.ref n) else match M[n]? with
    | some (.lst ds) => (fzAs (rfz M k f) ds).map .fro
    | _ => none
section
variable {g : Wd} {F : List Addr} {H : Hp} {M : MH} {k : Nat}
mutual
theorem fzA_rep {rf : Nat → Option D} (hrf : ∀ n d' a, F[n]? = some a → rf n = some d' → Rep g (F.take k) H d' (.ref a)) : ∀ {d : D} {v : V} {d' : D}, Rep g F H d v → fzA rf d = some d' → Rep g (F.take k) H d' v
  | _, _, _, .non, h => by cases h; exact .non
  | _, _, _, .bl b, h => by cases h; exact .bl b
  | _, _, _, .int i, h => by cases h; exact .int i
  | _, _, _, .str x, h => by cases h; exact .str x
  | _, _, _, .ty n, h => by cases h; exact .ty n
  | _, _, _, .cls c, h => by cases h; exact .cls c
  | _, _, _, .obj a, h => by cases h; exact .obj a
  | _, _, _, .tk h0, h => by cases h; exact .tk h0
  | _, _, _, .ref hn, h => hrf _ _ _ hn h
  | _, _, _, .tup h0 r, h => by
    obtain ⟨xs, h1, rfl⟩ := Option.map_eq_some_iff.mp h
    exact .tup h0 (fzAs_rep hrf r h1)
  | _, _, _, .fro h0 r, h => by
    obtain ⟨xs, h1, rfl⟩ := Option.map_eq_some_iff.mp h
    exact .fro h0.cut (fzAs_rep hrf r h1)
  | _, _, _, .ins h0 hn hl r, h => by
    obtain ⟨xs, h1, rfl⟩ := Option.map_eq_some_iff.mp h
    exact .ins h0 (fun z => hn (List.mem_of_mem_take z)) hl (fzAs_rep hrf r h1)
theorem fzAs_rep {rf : Nat → Option D} (hrf : ∀ n d' a, F[n]? = some a → rf n = some d' → Rep g (F.take k) H d' (.ref a)) : ∀ {ds : List D} {vs : List V} {ds' : List D}, Reps g F H ds vs → fzAs rf ds = some ds' → Reps g (F.take k) H ds' vs
  | _, _, _, .nil, h => by cases h; exact .nil
  | _, _, _, .cons (d := d) (ds := ds) r t, h => by
    unfold fzAs at h
    cases h1 : fzA rf d with
    | none => rw [h1] at h; cases h
    | some x =>
      cases h2 : fzAs rf ds with
      | none => rw [h1, h2] at h; cases h
      | some xs =>
        rw [h1, h2] at h
        cases h
        exact .cons (fzA_rep hrf r h1) (fzAs_rep hrf t h2)
end
theorem notin_take {n : Nat} {a : Addr} (nd : F.Nodup) (hn : F[n]? = some a) (hk : k ≤ n) : a ∉ F.take k := fun z => by
  obtain ⟨i, hi⟩ := List.getElem?_of_mem z
  have hik : i < k := by
    have := (List.getElem?_eq_some_iff.mp hi).1
    rw [List.length_take] at this
    omega
  rw [List.getElem?_take_of_lt hik] at hi
  have := (List.getElem?_inj (List.getElem?_eq_some_iff.mp hi).1 nd).mp (hi.trans hn.symm)
  omega
theorem rfz_rep (R : RelM g F M H) : ∀ (f n : Nat) (d' : D) (a : Addr), F[n]? = some a → rfz M k f n = some d' → Rep g (F.take k) H d' (.ref a)
  | 0, n, d', a, hn, h => by
    unfold rfz at h
    split at h
    · rename_i hk
      cases h
      exact .ref (by rw [List.getElem?_take_of_lt hk]; exact hn)
    · cases h
  | f + 1, n, d', a, hn, h => by
    unfold rfz at h
    split at h
    · rename_i hk
      cases h
      exact .ref (by rw [List.getElem?_take_of_lt hk]; exact hn)
    · rename_i hk
      split at h
      · rename_i ds hM
        obtain ⟨xs, h1, rfl⟩ := Option.map_eq_some_iff.mp h
        obtain ⟨o, ho, r⟩ := R.obj n a _ hn hM
        cases r with | lst r =>
        exact .fro (.inl ⟨ho, notin_take R.nd hn (by omega)⟩) (fzAs_rep (rfz_rep R f) r h1)
      · cases h
end
mutual
theorem D.low_up {k m : Nat} (h : k ≤ m) : ∀ {d : D}, D.low k d → D.low m d
  | .ref n, l => by unfold D.low at l ⊢; omega
  | .tup ds, l => by unfold D.low at l ⊢; exact D.lows_up h l
  | .fro ds, l => by unfold D.low at l ⊢; exact D.lows_up h l
  | .ins _ _ ds, l => by unfold D.low at l ⊢; exact D.lows_up h l
  | .non, _ => trivial
  | .bl _, _ => trivial
  | .int _, _ => trivial
  | .str _, _ => trivial
  | .ty _, _ => trivial
  | .cls _, _ => trivial
  | .obj _, _ => trivial
  | .tk _, _ => trivial
theorem D.lows_up {k m : Nat} (h : k ≤ m) : ∀ {ds : List D}, D.lows k ds → D.lows m ds
  | [], _ => trivial
  | d :: ds, l => ⟨D.low_up h l.1, D.lows_up h l.2⟩
end
theorem MO.low_up {k m : Nat} (h : k ≤ m) : ∀ {o : MO}, MO.low k o → MO.low m o
  | .lst _, l => D.lows_up h l
  | .dk _ _, l => D.lows_up h l
  | .dt _ _, l => D.lows_up h l
  | .ob _ _ _, l => D.lows_up h l
  | .lk _ _, l => D.lows_up h l
  | .lt _ _, l => D.lows_up h l
open Classical in
/-- the first thing alone may have changed, and refers to nothing -/
noncomputable def frzB (f : List D → MH → Res D) : List D → MH → Res D := fun ds M => match M, f ds M with
  | _ :: T, .ok d (b' :: T') => if T'.take T.length = T ∧ MO.low 0 b' then (match fzA (rfz (b' :: T') (T.length + 1) 4) d with
    | some d' => .ok d' (b' :: T)
    | none => .bad) else .bad
  | _, _ => .bad
theorem frz_ok {f : List D → MH → Res D} {ds : List D} {b b' : MO} {T G : MH} {d d' : D} (h : f ds (b :: T) = .ok d (b' :: (T ++ G))) (hb : MO.low 0 b') (hd : fzA (rfz (b' :: (T ++ G)) (T.length + 1) 4) d = some d') : frzB f ds (b :: T) = .ok d' (b' :: T) := by
  unfold frzB
  rw [h]
  dsimp only
  rw [if_pos ⟨by simp, hb⟩, hd]
theorem fn_frz {P : Program} {w : World} {K : PySem.W.Frag} {mg : Str → Option Value} {base : Heap} {CX : CXT} {g : Wd} {f : Addr} {fd : FuncData} {ps : List Str} {k n : Nat} {m : List D → MH → Res D} (F : FnOk P w K mg base CX k f fd ps (spD g n m)) : FnOk P w K mg base CX k f fd ps (spD g n (frzB m)) :=
  F.imp fun vs H Q E ⟨hl, F, M, ds, R, r, q⟩ => ⟨hl, F, M, ds, R, r, by
    unfold frzB at q
    split at q
    · rename_i b T d b' T' hm
      split at q
      · rename_i hc
        split at q
        · rename_i d' hd
          rw [hm]
          intro F1 H1 v g1 R1 rv
          have e : b' :: T' = (b' :: T) ++ T'.drop T.length := by
            rw [List.cons_append]
            congr 1
            conv => lhs; rw [← List.take_append_drop T.length T', hc.1]
          have lm : MLow (b' :: T) := fun o ho => by
            rcases List.mem_cons.mp ho with rfl | ho
            · exact MO.low_up (Nat.zero_le _) hc.2
            · have := R.low o (List.mem_cons_of_mem _ ho)
              exact this
          have R1' : RelM g F1 ((b' :: T) ++ T'.drop T.length) H1 := by rw [← e]; exact R1
          exact q _ H1 v (g1.cut (by rw [R.len]; simp)) (R1'.cut lm) (fzA_rep (rfz_rep R1 4) rv hd)
        · exact q.elim
      · exact q.elim
    · exact q.elim⟩
/-- data without places stay as they are -/
theorem fz_pd {rf : Nat → Option D} : ∀ {k : Nat} {x : D}, Pd k x → fzA rf x = some x
  | 0, _, h => h.elim
  | k + 1, x, h => by
    rcases h with rfl | ⟨b, rfl⟩ | ⟨i, rfl⟩ | ⟨s, rfl, ho⟩ | ⟨xs, rfl, hl, ha⟩
    · rfl
    · rfl
    · rfl
    · rfl
    · have key : ∀ ys : List D, (∀ a ∈ ys, Pd k a) → fzAs rf ys = some ys := by
        intro ys
        induction ys with
        | nil => exact fun _ => rfl
        | cons y ys ih =>
          intro h
          unfold fzAs
          rw [fz_pd (h y (by simp)), ih fun a m => h a (by simp [m])]
      unfold fzA
      rw [key xs ha]
      rfl
theorem fzs_pd {rf : Nat → Option D} {k : Nat} : ∀ {ys : List D}, (∀ a ∈ ys, Pd k a) → fzAs rf ys = some ys
  | [], _ => rfl
  | y :: ys, h => by
    unfold fzAs
    rw [fz_pd (h y (by simp)), fzs_pd fun a m => h a (by simp [m])]
theorem low_ints {k : Nat} : ∀ ns : List Int, D.lows k (ns.map D.int)
  | [] => trivial
  | _ :: ns => ⟨trivial, low_ints ns⟩
theorem box_low {s : Bx} : MO.low 0 s.obj := by
  unfold Bx.obj MO.low
  refine ⟨?_, trivial, trivial, trivial, trivial, trivial⟩
  unfold D.low
  exact low_ints _
/-- a new list of plain data, frozen -/
theorem fz_new {s : Bx} {T G : MH} {p k : Nat} {xs : List D} (hp : T.length < p) (hG : (s.obj :: (T ++ G))[p]? = some (.lst xs)) (hx : ∀ a ∈ xs, Pd k a) : fzA (rfz (s.obj :: (T ++ G)) (T.length + 1) 4) (.ref p) = some (.fro xs) := by
  show rfz (s.obj :: (T ++ G)) (T.length + 1) 4 p = _
  unfold rfz
  rw [if_neg (by omega), hG]
  dsimp only
  rw [fzs_pd hx]
  rfl

/-! ### min of a list of numbers -/
def intsOf : List D → Option (List Int)
  | [] => some []
  | .int i :: ds => (intsOf ds).map (i :: ·)
  | _ => none
def minI (i : Int) (is : List Int) : Int := is.foldl (fun a b => if b < a then b else a) i
theorem minI_spec : ∀ (is : List Int) (i : Int), minI i is ∈ i :: is ∧ ∀ y ∈ i :: is, minI i is ≤ y
  | [], i => ⟨by simp [minI], by simp [minI]⟩
  | j :: is, i => by
    have h : minI i (j :: is) = minI (if j < i then j else i) is := rfl
    obtain ⟨h1, h2⟩ := minI_spec is (if j < i then j else i)
    rw [h]
    constructor
    · rcases List.mem_cons.mp h1 with h3 | h3
      · rw [h3]; split <;> simp
      · simp [h3]
    · intro y hy
      have h0 := h2 _ (List.mem_cons_self)
      have h3 : (if j < i then j else i) ≤ i ∧ (if j < i then j else i) ≤ j := by split <;> omega
      rcases List.mem_cons.mp hy with rfl | hy
      · exact Int.le_trans h0 h3.1
      · rcases List.mem_cons.mp hy with rfl | hy
        · exact Int.le_trans h0 h3.2
        · exact h2 y (List.mem_cons_of_mem _ hy)
def dMinL (ds : List D) (M : MH) : Res D := match ds with
  | [x] => match listItems M x with
    | some ys => match intsOf ys with
      | some (i :: is) => .ok (.int (minI i is)) M
      | _ => .bad
    | none => .bad
  | _ => .bad
theorem ints_rep {g : Wd} {F : List Addr} {H : Hp} : ∀ {ds : List D} {vs : List V} {is : List Int}, Reps g F H ds vs → intsOf ds = some is → vs = is.map V.int
  | _, _, is, .nil, h => by cases h; rfl
  | _, _, is, .cons r t, h => by
    cases r with
    | int i =>
      unfold intsOf at h
      obtain ⟨cs, h1, rfl⟩ := Option.map_eq_some_iff.mp h
      rw [ints_rep t h1]; rfl
    | _ => cases h
theorem sim_minL {g : Wd} {X : Cx} (hK : g.K = X.K) : SimA g dMinL (rMin X.K) := fun F M σ H W ds vs Q R r q => by
  unfold dMinL at q
  split at q
  · rename_i x
    cases r with | cons rx rr =>
    cases rr
    split at q
    · rename_i ys hy
      split at q
      · rename_i i is hi
        obtain ⟨a, us, rfl, hs, rs⟩ := listItems_at R rx hy
        have := ints_rep rs hi
        subst this
        obtain ⟨m1, m2⟩ := minI_spec is i
        refine ⟨a, i :: is, rfl, by rw [← hK]; exact hs, by simp, fun m hm hle => ?_⟩
        have e : m = minI i is := Int.le_antisymm (hle _ m1) (m2 _ hm)
        rw [e]
        exact q.here R (.int _)
      · exact q.elim
    · exact q.elim
  · exact q.elim
section
variable {X : Cx} {g : Wd} {W : WY} {a : Expr} {pos p : Pos} {ma : AM} {es : List Expr}
theorem de_minL (hK : g.K = X.K) (ha : PA X (a :: es) (tA g W ma)) (hm : X.mg "min" = none) (hc : X.calm = true := by rfl) (hg : Gl X "min" := by rfl) (he : starEach (a :: es) X.env = (false, eval a X.env) :: starEach es X.env := by rfl) (hpl : (backTo pos (starEach es X.env)).any (·.1) = false := by rfl) :
    PE X (.Call (.Name "min" p) (a :: es) [] pos) (tD g W (eArgs dMinL ma)) := de_callB (cr_min hc) (sim_minL hK) hm (by decide +kernel) ha hg (by decide) (by decide) he hpl
end
end T2
namespace T2
open PySem L2

/-! ### dicts whose keys are tuples -/
def keysOf : List D → Option (List Key)
  | [] => some []
  | d :: ds => match keyOf d, keysOf ds with
    | some k, some ks => some (k :: ks)
    | _, _ => none
theorem keys_rep {g : Wd} {F : List Addr} {H : Hp} : ∀ {ds : List D} {vs : List V} {ks : List Key}, Reps g F H ds vs → keysOf ds = some ks → vs = ks.map kV
  | _, _, _, .nil, h => by cases h; rfl
  | _, _, _, .cons (d := d) (ds := ds) r t, h => by
    unfold keysOf at h
    cases h1 : keyOf d with
    | none => rw [h1] at h; cases h
    | some k =>
      cases h2 : keysOf ds with
      | none => rw [h1, h2] at h; cases h
      | some ks =>
        rw [h1, h2] at h
        cases h
        rw [List.map_cons, key_rep r h1, keys_rep t h2]
/-- (a, b): a key -/
def fTk (ds : List D) (M : MH) : Res D := match keysOf ds with
  | some ks => if ds.length ≤ 1000 then .ok (.tk ks) M else .bad
  | none => .bad
def eTk (a : AM) : EM := eArgs fTk a
/-- d[k] -/
def dIxT (x y : D) (M : MH) : Res D := match x, y with
  | .ref n, .tk k => match M[n]? with
    | some (.dt ks ds) => (match kGet ks ds k with
      | some d => .ok d M
      | none => .bad)
    | some (.lt ks ds) => (match kGet ks ds k with
      | some d => .ok d M
      | none => .bad)
    | _ => .bad
  | _, _ => .bad
/-- d.get(k, x) -/
def eDGetT (mo mk mx : EM) : EM := fun e M => (mo e M).bind fun x M1 => match x with
  | .ref n => match M1[n]? with
    | some (.dt _ _) => (mk e M1).bind fun y M2 => (mx e M2).bind fun z M3 => match M3[n]?, y with
      | some (.dt ks ds), .tk k => .ok ((kGet ks ds k).getD z) M3
      | _, _ => .bad
    | _ => .bad
  | _ => .bad
def dSetT (o i x : D) (M : MH) : Option MH := match o, i with
  | .ref n, .tk k => match M[n]? with
    | some (.dt ks ds) => if ds.length ≤ 1000 then some (M.set n (.dt (kPutD k x ks ds).1 (kPutD k x ks ds).2)) else none
    | _ => none
  | _, _ => none
def eDNewT : EM := fun _ M => .ok (.ref M.length) (M ++ [.dt [] []])
section
variable {X : Cx} {g : Wd} {W : WY} {a b o : Expr} {pos p apos : Pos} {m1 m2 m3 : EM} {ma : AM} {es : List Expr}
theorem de_tk {x1} (h : PA X es (tA g W ma)) : PE X (.Tuple es x1 pos) (tD g W (eTk ma)) :=
  pe_imp (pe_tup h) fun σ H Q q => args_imp (r := fun xs H1 Q => xs.length ≤ sizeLine ∧ ∀ p, H1 p = none → Q (.ref p) (upd H1 p (.tup xs))) (fun F M σ H W ds vs Q R r q => by
    unfold fTk at q
    split at q
    · rename_i ks hk
      split at q
      · rename_i hl
        refine ⟨small (by rw [← r.length]; exact hl), fun p hp => ?_⟩
        have := keys_rep r hk
        subst this
        obtain ⟨g1, R1⟩ := R.still (o := .tup (ks.map kV)) hp
        exact q.ok g1 R1 (.tk upd_same)
      · exact q.elim
    · exact q.elim) q
theorem dt_at {F : List Addr} {M : MH} {H : Hp} {n : Nat} {ad : Addr} {ks : List (List Key)} {ds : List D} (R : RelM g F M H) (hn : F[n]? = some ad) (hm : M[n]? = some (.dt ks ds)) : ∃ vs, H ad = some (.dT (ks.zip vs)) ∧ ks.length = vs.length ∧ Reps g F H ds vs := by
  obtain ⟨h, e, r⟩ := R.obj n ad _ hn hm
  cases r with | dt hl r => exact ⟨_, e, hl, r⟩
theorem lt_at {F : List Addr} {M : MH} {H : Hp} {n : Nat} {ad : Addr} {ks : List (List Key)} {ds : List D} (R : RelM g F M H) (hn : F[n]? = some ad) (hm : M[n]? = some (.lt ks ds)) : ∃ o vs, H ad = some (.frz o (.dT (ks.zip vs))) ∧ ks.length = vs.length ∧ Reps g F H ds vs := by
  obtain ⟨h, e, r⟩ := R.obj n ad _ hn hm
  cases r with | lt hl r => exact ⟨_, _, e, hl, r⟩
theorem de_ixT (hu : X.A.units + 1 < cLine) (ha : PE X a (tD g W m1)) (hb : PE X b (tD g W m2)) (hs2 : NoSl b := by intro _ _; rfl) : PE X (.Subscript a b pos) (tD g W (eBin dIxT m1 m2)) :=
  pe_imp (pe_dget hu ha hb hs2) fun σ H Q q => by
    obtain ⟨F, e, M, RS, q⟩ := q
    refine ⟨F, e, M, RS, q.bind fun x M1 F1 H1 v e1 g1 R1 rx q1 => ?_⟩
    refine ⟨F1, e, M1, RS.up g1 R1, q1.bind fun y M2 F2 H2 w e2 g2 R2 ry q2 => ?_⟩
    have rx2 := rx.mono g2 R1.good
    unfold dIxT at q2
    split at q2
    · rename_i n k
      cases rx2 with | ref hn =>
      cases ry with | tk hk =>
      split at q2
      · rename_i ks ds hm
        obtain ⟨vs, hv, hl, r⟩ := dt_at R2 hn hm
        have kg := kGet_rep (x := k) (ks := ks) r
        cases hg : kGet ks ds k with
        | none => rw [hg] at q2; exact q2.elim
        | some d =>
          rw [hg] at q2 kg
          obtain ⟨u, hu2, ru⟩ := kg
          exact ⟨_, u, rfl, .inr ⟨_, k, _, .inl hv, rfl, hk, hu2.symm⟩, q2.here R2 ru⟩
      · rename_i ks ds hm
        obtain ⟨oo, vs, hv, hl, r⟩ := lt_at R2 hn hm
        have kg := kGet_rep (x := k) (ks := ks) r
        cases hg : kGet ks ds k with
        | none => rw [hg] at q2; exact q2.elim
        | some d =>
          rw [hg] at q2 kg
          obtain ⟨u, hu2, ru⟩ := kg
          exact ⟨_, u, rfl, .inr ⟨_, k, _, .inr ⟨oo, hv⟩, rfl, hk, hu2.symm⟩, q2.here R2 ru⟩
      · exact q2.elim
    · exact q2.elim
theorem de_dgetT {f : Expr} (hu : X.A.units + 1 < cLine) (ho : PE X o (tD g W m1)) (hk : PE X a (tD g W m2)) (hf : PE X f (tD g W m3)) (m : M2 X o "get" apos a f pos := by exact ⟨rfl, rfl, rfl, rfl⟩) : PE X (.Call (.Attribute o "get" apos) [a, f] [] pos) (tD g W (eDGetT m1 m2 m3)) :=
  pe_imp (pe_dget2 hu ho hk hf m) fun σ H Q ⟨F, e, M, RS, q⟩ => ⟨F, e, M, RS, q.bind fun x M1 F1 H1 v e1 g1 R1 rx q1 => by
    cases x with
    | ref n =>
      cases rx with | ref hn =>
      dsimp only at q1
      split at q1
      · rename_i ks0 ds0 hm0
        obtain ⟨vs0, hv0, _, _⟩ := dt_at R1 hn hm0
        refine ⟨_, rfl, .inr ⟨_, .inl hv0⟩, F1, e, M1, RS.up g1 R1, q1.bind fun y M2 F2 H2 u e2 g2 R2 ry q2 => ?_⟩
        refine ⟨F2, e, M2, (RS.up g1 R1).up g2 R2, q2.bind fun z M3 F3 H3 w e3 g3 R3 rz q3 => ?_⟩
        have hn3 := pre_get g3.pre (pre_get g2.pre hn)
        have ry3 := ry.mono g3 R2.good
        split at q3
        · rename_i ks ds k hm
          obtain ⟨vs, hv, _, r⟩ := dt_at R3 hn3 hm
          cases ry3 with | tk hk2 =>
          exact ⟨_, DGet.t hv hk2, q3.here R3 (kGet_opt r rz)⟩
        · exact q3.elim
      · exact q1.elim
    | _ => exact q1.elim⟩
theorem sim_setT : Sim3 g dSetT rSetD := fun F M M' H o i x vo vi vx Q R ro ri rx h k => by
  unfold dSetT at h
  split at h
  · rename_i n ky
    cases ro with | ref hn =>
    rename_i ad
    cases ri with | tk hk =>
    split at h
    · rename_i ks ds hm
      obtain ⟨vs, hv, hl, r⟩ := dt_at R hn hm
      split at h
      · rename_i hz
        cases h
        have e2 := kPutD_len (x := ky) (d := x) (v := vx) (ks := ks) r.length
        refine ⟨ad, _, rfl, DPut.t hv hk (by rw [List.length_zip]; have := r.length; exact Nat.lt_of_lt_of_le (by omega : _ < 1002) (by decide)), ?_⟩
        rw [putK_zip hl]
        obtain ⟨g1, R1⟩ := R.put (o := .dT ((kPutD ky vx ks vs).1.zip (kPutD ky vx ks vs).2)) (m := .dt (kPutD ky x ks ds).1 (kPutD ky x ks ds).2) hn trivial fun H' gr => by
          rw [e2.1]
          exact .dt (kPutD_one hl) (kPutD_rep (rx.mono gr R.good) (r.mono gr R.good))
        exact k _ g1 R1
      · cases h
    · cases h
  · cases h
theorem ds_setT {i : Expr} {pos' : Pos} (hu : X.A.units + 1 < cLine) (ho : PE X o (tD g W m1)) (hi : PE X i (tD g W m2)) (hv : PE X a (tD g W m3))
    (hass : ∀ v, assign (.Subscript o i pos') X.env v = (do
      let ov ← holding [v] (eval o X.env)
      let iv ← holding [v, ov] (eval i X.env)
      standAt pos'
      holding [v, ov, iv] (setItem ov iv v)
      release [v, ov, iv] []) := by intro _; rfl)
    (hs : swapsWithSole [.Subscript o i pos'] a pos.line X.env = pure false := by rfl) (hw : swappedStores [.Subscript o i pos'] a X.env = pure none := by rfl) (h1 : (assignEach [.Subscript o i pos'] X.env).map (·.2) = [assign (.Subscript o i pos') X.env] := by rfl) :
    PS X (.Assign [.Subscript o i pos'] a pos) (tS g W (sSetIx dSetT m1 m2 m3)) := ds_setIx (set_dict hu) sim_setT ho hi hv hass hs hw h1
theorem de_dnewT : PE X (.Dict [] [] pos) (tD g W eDNewT) := pe_imp pe_dnewT fun σ H Q ⟨F, e, M, RS, q⟩ ad had => by
  obtain ⟨g1, R1⟩ := RS.m.laid (m := .dt [] []) (o := .dT []) had fun F' H' gr => .dt (ks := []) (vs := []) rfl .nil
  exact q.ok g1 R1 (.ref (by rw [← RS.m.len]; simp))
end
/-! ### for k in d: the dict is locked as long as the loop goes -/
section
variable {g : Wd} {F F' : List Addr} {H H' : Hp}
mutual
theorem Rep.mono0 (kp : ∀ b o, H b = some o → b ∉ F → H' b = some o) (G : Good F H) : ∀ {d : D} {v : V}, Rep g F H d v → Rep g F H' d v
  | _, _, .non => .non
  | _, _, .bl b => .bl b
  | _, _, .int i => .int i
  | _, _, .str x => .str x
  | _, _, .ty n => .ty n
  | _, _, .cls c => .cls c
  | _, _, .obj a => .obj a
  | _, _, .tk h => .tk (kp _ _ h (G.notin h (by intro z; exact z)))
  | _, _, .ref h => .ref h
  | _, _, .tup h r => .tup (by
      rcases h with (h | ⟨o, h⟩) | h
      · exact .inl (.inl (kp _ _ h (G.notin h (by intro z; exact z))))
      · exact .inl (.inr ⟨o, kp _ _ h (G.notin h (by intro z; exact z))⟩)
      · exact .inr h) (Reps.mono0 kp G r)
  | _, _, .fro h r => .fro (by
      rcases h with ⟨h, n⟩ | ⟨o, h⟩ | h
      · exact .inl ⟨kp _ _ h n, n⟩
      · exact .inr (.inl ⟨o, kp _ _ h (G.notin h (by intro z; exact z))⟩)
      · exact .inr (.inr h)) (Reps.mono0 kp G r)
  | _, _, .ins h hn hl r => .ins (kp _ _ h hn) hn hl (Reps.mono0 kp G r)
theorem Reps.mono0 (kp : ∀ b o, H b = some o → b ∉ F → H' b = some o) (G : Good F H) : ∀ {ds : List D} {vs : List V}, Reps g F H ds vs → Reps g F H' ds vs
  | _, _, .nil => .nil
  | _, _, .cons h t => .cons (Rep.mono0 kp G h) (Reps.mono0 kp G t)
end
theorem ObjR.mono0 (kp : ∀ b o, H b = some o → b ∉ F → H' b = some o) (G : Good F H) {o : MO} {h : HO} (r : ObjR g F H o h) : ObjR g F H' o h := by
  cases r with
  | lst r => exact .lst (r.mono0 kp G)
  | dk hl r => exact .dk hl (r.mono0 kp G)
  | dt hl r => exact .dt hl (r.mono0 kp G)
  | ob hl r => exact .ob hl (r.mono0 kp G)
  | lk hl r => exact .lk hl (r.mono0 kp G)
  | lt hl r => exact .lt hl (r.mono0 kp G)
theorem EnvR.mono0 (kp : ∀ b o, H b = some o → b ∉ F → H' b = some o) (G : Good F H) : ∀ {e : Env2} {s : L2.St}, EnvR g F H e s → EnvR g F H' e s
  | _, _, .nil => .nil
  | _, _, .cons .none t => .cons .none (EnvR.mono0 kp G t)
  | _, _, .cons (.some r) t => .cons (.some (r.mono0 kp G)) (EnvR.mono0 kp G t)
theorem kp_upd {d : Addr} {u : HO} (hd : d ∈ F) : ∀ b o, H b = some o → b ∉ F → upd H d u b = some o := fun b o e n => by rw [upd_ne (fun z => n (by rw [z]; exact hd))]; exact e
theorem RelM.unlock {M : MH} {n : Nat} {d : Addr} {o : HO} {m : MO} (R : RelM g F M H) (hn : F[n]? = some d) (ho : ObjR g F H m o) : RelM g F (M.set n m) (upd H d o) := by
  have ha : d ∈ F := List.mem_of_getElem? hn
  have kp := kp_upd (H := H) (u := o) ha
  refine ⟨by simp [R.len], R.nd, fun k b u e m2 => ?_⟩
  by_cases hk : n = k
  · subst hk
    rw [hn] at e; cases e
    have hl : n < M.length := by have := (List.getElem?_eq_some_iff.mp hn).1; rw [R.len] at this; exact this
    rw [List.getElem?_set_self hl] at m2
    cases m2
    exact ⟨o, upd_same, ho.mono0 kp R.good⟩
  · rw [List.getElem?_set_ne hk] at m2
    obtain ⟨h, e2, r⟩ := R.obj k b u e m2
    refine ⟨h, ?_, r.mono0 kp R.good⟩
    rw [upd_ne]
    · exact e2
    · intro z
      subst z
      exact hk ((List.getElem?_inj (List.getElem?_eq_some_iff.mp hn).1 R.nd).mp (hn.trans e.symm))
theorem Grow.unlock {d : Addr} {od : Obj} {u : HO} (gr : Grow F (upd H d (.frz od u)) F' H') (hd : d ∈ F) (hH : H d = some u) (hu : NoLk (some u)) : Grow F H F' (upd H' d u) := by
  refine ⟨gr.pre, fun b o e n => ?_, fun b hb => ?_, fun b o e n => ?_⟩
  · have hbd : b ≠ d := fun z => n (by rw [z]; exact hd)
    rw [upd_ne hbd]
    exact gr.keep b o (by rw [upd_ne hbd]; exact e) n
  · rcases gr.new b hb with q | q
    · exact .inl q
    · by_cases hbd : b = d
      · exact .inl (by rw [hbd]; exact hd)
      · rw [upd_ne hbd] at q; exact .inr q
  · have hbd : b ≠ d := fun z => by rw [z, hH] at e; cases e; exact n hu
    rw [upd_ne hbd]
    exact gr.lock b o (by rw [upd_ne hbd]; exact e) n
end
def unlk (n : Nat) (r : SR) : SR := match r with
  | .nx e M => (match M[n]? with
    | some (.lt ks ds) => .nx e (M.set n (.dt ks ds))
    | _ => .bad)
  | .rt d M => (match M[n]? with
    | some (.lt ks ds) => .rt d (M.set n (.dt ks ds))
    | _ => .bad)
  | _ => .bad
def sForK (i : Nat) (tg : TgM) (body : SM) : SM := fun e M => match e[i]? with
  | some (some (.ref n)) => (match M[n]? with
    | some (.dt ks ds) => unlk n (forV tg body (ks.map .tk) e (M.set n (.lt ks ds)))
    | _ => .bad)
  | _ => .bad
theorem itV_keys {g : Wd} {F : List Addr} {H : Hp} {d : Addr} {od : Obj} {ks : List (List Key)} {vs : List V} (hd : H d = some (.frz od (.dT (ks.zip vs)))) (hl : ks.length = vs.length) : ItV g (Itkt d od (ks.zip vs)) F H (ks.map .tk) where
  go := fun F' H' i gr hi => ⟨gr.lock d _ hd (by intro z; exact z), by rw [List.length_zip]; rw [List.length_map] at hi; omega⟩
  yld := fun F' H' i x H2 gr hi hy => by
    obtain ⟨rfl, k, v, q, hk, rfl, hq⟩ := hy
    refine ⟨fun _ _ z => z, .tk k, ?_, .tk hq⟩
    rw [List.getElem?_map]
    have : ks[i]? = some k := by
      rw [List.getElem?_zip_eq_some] at hk
      exact hk.1
    rw [this]; rfl
  stop := fun F' H' i gr hi => ⟨gr.lock d _ hd (by intro z; exact z), by rw [List.length_zip]; rw [List.length_map] at hi; omega⟩
section
variable {X : Cx} {g : Wd} {W : WY} {sts : List Stmt} {s1 : SM} {pos p : Pos}
theorem ds_forK (i : Nat) {x : Str} {tgE : Expr} {gt : TG} {tg : TgM} (px : ∀ σ, Pin W.p.xs σ) (po : PassesOwn (model X.prog X.w) X.A X.env X.xe) (hc : X.calm = true) (hv : PE X (.Name x p) (tVar i)) (hg : PG X tgE gt) (ts : TgSim g tg gt) (hb : PSs X sts (tS g W s1))
    (hs : ∀ z, foldedSetIterable (.Name x p) X.env z = pure z := by intro _; rfl) : PS X (.For tgE (.Name x p) sts [] pos) (tS g W (sForK i tg s1)) :=
  ps_imp (ps_lock (ps_for po hc (pi_keys hv) hg hb hs)) fun E σ H ⟨F, e, M, RS, q⟩ => by
    unfold sForK at q
    split at q
    · rename_i n he
      obtain ⟨v, hσ, rv⟩ := RS.e.get he
      cases rv with | ref hn =>
      rename_i d
      split at q
      · rename_i ks ds hm
        obtain ⟨vs, hH, hl, r⟩ := dt_at RS.m hn hm
        have hdF : d ∈ F := List.mem_of_getElem? hn
        refine ⟨d, .dT (ks.zip vs), hH, trivial, fun od => ⟨.ref d, hσ, d, od, rfl, .inr ⟨ks.zip vs, upd_same, ?_⟩⟩⟩
        obtain ⟨g1, R1⟩ := RS.m.put (o := .frz od (.dT (ks.zip vs))) (m := .lt ks ds) hn trivial (fun H' gr => .lt hl (r.mono gr RS.m.good))
        refine forV_run px (RS.up g1 R1) (itV_keys upd_same hl) ts ?_
        have key : ∀ (F3 : List Addr) (H3 : Hp) (M2 : MH) (ks' : List (List Key)) (ds' : List D), Grow F (upd H d (.frz od (.dT (ks.zip vs)))) F3 H3 → RelM g F3 M2 H3 → M2[n]? = some (.lt ks' ds') → H3 d = some (.frz od (.dT (ks.zip vs))) ∧ Grow F H F3 (upd H3 d (.dT (ks.zip vs))) ∧ RelM g F3 (M2.set n (.dt ks' ds')) (upd H3 d (.dT (ks.zip vs))) ∧ (∀ b o, H3 b = some o → b ∉ F3 → upd H3 d (.dT (ks.zip vs)) b = some o) := by
          intro F3 H3 M2 ks' ds' g3 R3 hM2
          have hn3 := pre_get g3.pre hn
          have h3 : H3 d = some (.frz od (.dT (ks.zip vs))) := g3.lock d _ upd_same (by intro z; exact z)
          obtain ⟨o', vs', h4, hl', r'⟩ := lt_at R3 hn3 hM2
          rw [h3] at h4
          have e4 := Option.some.inj h4
          injection e4 with _ e5
          injection e5 with e6
          refine ⟨h3, g3.unlock hdF hH trivial, R3.unlock hn3 (by rw [e6]; exact .dt hl' r'), kp_upd (List.mem_of_getElem? hn3)⟩
        cases hr : forV tg s1 (ks.map .tk) e (M.set n (.lt ks ds)) with
        | nx e2 M2 =>
          rw [hr] at q
          unfold unlk at q
          dsimp only at q
          split at q
          · rename_i ks' ds' hM2
            intro F3 H3 σ3 g3 R3 E3 X3
            obtain ⟨k1, k2, k3, k4⟩ := key F3 H3 M2 ks' ds' g3 R3 hM2
            exact ⟨k1, q F3 _ σ3 k2 k3 (E3.mono0 k4 R3.good) X3⟩
          · exact q.elim
        | rt d2 M2 =>
          rw [hr] at q
          unfold unlk at q
          dsimp only at q
          split at q
          · rename_i ks' ds' hM2
            intro F3 H3 v3 g3 R3 r3
            obtain ⟨k1, k2, k3, k4⟩ := key F3 H3 M2 ks' ds' g3 R3 hM2
            exact ⟨k1, q F3 _ v3 k2 k3 (r3.mono0 k4 R3.good)⟩
          · exact q.elim
        | bk e2 M2 => rw [hr] at q; exact q.elim
        | ct e2 M2 => rw [hr] at q; exact q.elim
        | ex c ns xs e2 M2 => rw [hr] at q; exact q.elim
        | bad => rw [hr] at q; exact q.elim
      · exact q.elim
    · exact q.elim
end
section
variable {X : Cx} {g : Wd} {W : WY} {pos p : Pos} {x : Str} {c : Nat}
/-- C.f, a tuple of the class -/
theorem de_cval {fn : Str} {d : D} {a : Addr} {u : Value} {mc : Value} (gC : X.mg x = some (.ref (g.ca c))) (r : ClX.CRead X.K (g.ca c) mc) (cv : ClX.CVal X.K (g.ca c) mc fn (.ref a) u ∧ ∀ F H, Rep g F H d (.ref a)) (hgx : Gl X x := by rfl) (hdx : (x == ("__debug__" : Str)) = false := by decide)
    (hab : attributeBase (.Name x p) fn X.env (eval (.Name x p) X.env) = eval (.Name x p) X.env := by rfl) : PE X (.Attribute (.Name x p) fn pos) (tD g W (eC d)) :=
  pe_imp (ClX.pe_cval (pe_glob (v := .ref (g.ca c)) hgx gC rfl hdx) hab) fun σ H Q ⟨F, e, M, RS, q⟩ => ⟨_, mc, _, u, rfl, r, cv.1, q.here RS.m (cv.2 _ _)⟩
end
end T2
namespace K48
open PySem L2 T2
def top (i : Nat) : Stmt := PySem.Challenge.pw_bookstogether_k48_sessions_at_copies.main.body.getD i (.Pass ⟨0, 0, 0, 0⟩)
abbrev s_law_box : Stmt := top 12
theorem sc_law_box : FnScope ["_law_script"] ["_law_script"] (defScope s_law_box) := ⟨rfl, rfl, rfl, by decide +kernel, rfl, by decide +kernel, by decide +kernel⟩
abbrev s_law_draw : Stmt := top 13
theorem sc_law_draw : FnScope ["_law_box_here", "_law_size", "_law_drawn", "_law_mixed"] ["_law_box_here", "_law_size"] (defScope s_law_draw) := ⟨rfl, rfl, rfl, by decide +kernel, rfl, by decide +kernel, by decide +kernel⟩
abbrev s_law_pick : Stmt := top 14
theorem sc_law_pick : FnScope ["_law_box_here", "_law_menu"] ["_law_box_here", "_law_menu"] (defScope s_law_pick) := ⟨rfl, rfl, rfl, by decide +kernel, rfl, by decide +kernel, by decide +kernel⟩
abbrev s_law_choice : Stmt := top 16
theorem sc_law_choice : FnScope ["_law_box_here", "_law_whole"] ["_law_box_here"] (defScope s_law_choice) := ⟨rfl, rfl, rfl, by decide +kernel, rfl, by decide +kernel, by decide +kernel⟩
abbrev s_InvalidBook___init__ : Stmt := inClass (top 5) 0
theorem sc_InvalidBook___init__ : ScopeS ["self", "part"] ["self", "part"] (defScope s_InvalidBook___init__) := ⟨rfl, rfl, rfl, by decide +kernel, rfl, by decide +kernel, by decide +kernel, rfl, rfl, by decide +kernel⟩
def xv_InvalidBook : List D → List D := fun ds => [dAt ds 0]
abbrev s_check_word : Stmt := top 7
theorem sc_check_word : FnScope ["part", "word", "words"] ["part", "word", "words"] (defScope s_check_word) := ⟨rfl, rfl, rfl, by decide +kernel, rfl, by decide +kernel, by decide +kernel⟩
abbrev s_CopyBook___init__ : Stmt := inClass (top 10) 2
theorem sc_CopyBook___init__ : FnScope ["self", "served", "marks", "promises", "hides", "indexes", "summaries", "choice"] ["self", "served", "marks", "promises", "hides", "indexes", "summaries"] (defScope s_CopyBook___init__) := ⟨rfl, rfl, rfl, by decide +kernel, rfl, by decide +kernel, by decide +kernel⟩
abbrev s_Sessions___init__ : Stmt := inClass (top 2) 0
theorem sc_Sessions___init__ : FnScope ["self", "book"] ["self", "book"] (defScope s_Sessions___init__) := ⟨rfl, rfl, rfl, by decide +kernel, rfl, by decide +kernel, by decide +kernel⟩
abbrev s_law_alike : Stmt := top 15
theorem sc_law_alike : FnScope ["_law_actual", "_law_due", "_law_k"] ["_law_actual", "_law_due"] (defScope s_law_alike) := ⟨rfl, rfl, rfl, by decide +kernel, rfl, by decide +kernel, by decide +kernel⟩
abbrev s_Sessions_mark : Stmt := inClass (top 2) 1
theorem sc_Sessions_mark : FnScope ["self", "user", "word"] ["self", "user", "word"] (defScope s_Sessions_mark) := ⟨rfl, rfl, rfl, by decide +kernel, rfl, by decide +kernel, by decide +kernel⟩
abbrev s_law_mark : Stmt := top 17
theorem sc_law_mark : FnScope ["_law_marks", "_law_user", "_law_word"] ["_law_marks", "_law_user", "_law_word"] (defScope s_law_mark) := ⟨rfl, rfl, rfl, by decide +kernel, rfl, by decide +kernel, by decide +kernel⟩
abbrev s_Sessions_broken : Stmt := inClass (top 2) 6
theorem sc_Sessions_broken : FnScope ["self", "user", "position", "word"] ["self", "user", "position"] (defScope s_Sessions_broken) := ⟨rfl, rfl, rfl, by decide +kernel, rfl, by decide +kernel, by decide +kernel⟩
abbrev s_law_above : Stmt := top 19
theorem sc_law_above : FnScope ["_law_marks", "_law_user", "_law_words", "_law_position_here", "_law_word"] ["_law_marks", "_law_user", "_law_words", "_law_position_here"] (defScope s_law_above) := ⟨rfl, rfl, rfl, by decide +kernel, rfl, by decide +kernel, by decide +kernel⟩
abbrev s_Sessions_lets : Stmt := inClass (top 2) 5
theorem sc_Sessions_lets : FnScope ["self", "user", "position", "word"] ["self", "user", "position"] (defScope s_Sessions_lets) := ⟨rfl, rfl, rfl, by decide +kernel, rfl, by decide +kernel, by decide +kernel⟩
abbrev s_law_all_fit : Stmt := top 21
theorem sc_law_all_fit : FnScope ["_law_sessions", "_law_marks", "_law_promised", "_law_named", "_law_positions", "_law_user", "_law_word", "_law_position_here"] ["_law_sessions", "_law_marks", "_law_promised", "_law_named", "_law_positions"] (defScope s_law_all_fit) := ⟨rfl, rfl, rfl, by decide +kernel, rfl, by decide +kernel, by decide +kernel⟩
abbrev s_law_position : Stmt := top 20
theorem sc_law_position : FnScope ["_law_box_here", "_law_position_here"] ["_law_box_here"] (defScope s_law_position) := ⟨rfl, rfl, rfl, by decide +kernel, rfl, by decide +kernel, by decide +kernel⟩
abbrev s_Sessions_raise_mark : Stmt := inClass (top 2) 2
theorem sc_Sessions_raise_mark : FnScope ["self", "user", "word", "position"] ["self", "user", "word", "position"] (defScope s_Sessions_raise_mark) := ⟨rfl, rfl, rfl, by decide +kernel, rfl, by decide +kernel, by decide +kernel⟩
abbrev s_Sessions_ended : Stmt := inClass (top 2) 3
theorem sc_Sessions_ended : FnScope ["self", "user", "position", "wrote"] ["self", "user", "position", "wrote"] (defScope s_Sessions_ended) := ⟨rfl, rfl, rfl, by decide +kernel, rfl, by decide +kernel, by decide +kernel⟩
abbrev s_law_rise : Stmt := top 18
theorem sc_law_rise : FnScope ["_law_marks", "_law_user", "_law_word", "_law_position_here"] ["_law_marks", "_law_user", "_law_word", "_law_position_here"] (defScope s_law_rise) := ⟨rfl, rfl, rfl, by decide +kernel, rfl, by decide +kernel, by decide +kernel⟩
abbrev s_Sessions_answered : Stmt := inClass (top 2) 4
theorem sc_Sessions_answered : FnScope ["self", "user", "position"] ["self", "user", "position"] (defScope s_Sessions_answered) := ⟨rfl, rfl, rfl, by decide +kernel, rfl, by decide +kernel, by decide +kernel⟩
abbrev s_law_edges : Stmt := top 22
theorem sc_law_edges : FnScope ["_law_marks", "_law_found", "_law_place"] ["_law_marks"] (defScope s_law_edges) := ⟨rfl, rfl, rfl, by decide +kernel, rfl, by decide +kernel, by decide +kernel⟩
abbrev s_law : Stmt := top 23
theorem sc_law : FnScope ["_law_script", "_law_box_here", "_law_named", "_law_promised", "_law_served", "_law_book", "_law_sessions", "_law_other", "_law_marks", "_law_k", "_law_user", "_law_position_here", "_law_kind", "_law_wrote"] ["_law_script"] (defScope s_law) := ⟨rfl, rfl, rfl, by decide +kernel, rfl, by decide +kernel, by decide +kernel⟩
def c_CHOICES : D := .tup [(.tup []), (.tup [(.str "own")]), (.tup [(.str "seen")]), (.tup [(.str "main")]), (.tup [(.str "own"), (.str "seen")]), (.tup [(.str "own"), (.str "main")]), (.tup [(.str "seen"), (.str "main")]), (.tup [(.str "own"), (.str "seen"), (.str "main")])]
def cc_CopyBook_INDEXES : D := .tup [(.str "own"), (.str "start")]
def cc_CopyBook_SUMMARIES : D := .tup [(.str "own"), (.str "main")]
def isiTab : IsiTab := bltTab
def isi : Tg → Tg → Option Bool := isiOf isiTab
def gd_CopyBook___init___1_served_marks_promises : List D → List D → List D := fun ds zs => pick [0, 4, 5, 6, 1, 2, 3] (ds ++ [(.bl true : D), (.str "own" : D), (.str "own" : D)] ++ zs)
abbrev gv_CopyBook___init___1_served_marks_promises : List V → List V → List V := fun vs zs => pick [0, 4, 5, 6, 1, 2, 3] (vs ++ [(.bl true : V), (.str "own" : V), (.str "own" : V)] ++ zs)
theorem gd_CopyBook___init___1_served_marks_promises_rep {g : Wd} : ∀ (F : List Addr) (H : Hp) (ds : List D) (vs : List V) (zs : List D) (ws : List V), ds.length = 1 → zs.length = 3 → Reps g F H ds vs → Reps g F H zs ws → Reps g F H (gd_CopyBook___init___1_served_marks_promises ds zs) (gv_CopyBook___init___1_served_marks_promises vs ws) := fun F H ds vs zs ws _ _ r1 r2 => pick_reps ((r1.append (.cons (.bl _) (.cons (.str _) (.cons (.str _) (.nil))))).append r2) _
theorem gd_CopyBook___init___1_served_marks_promises_len : ∀ (vs zs : List V), vs.length = 1 → zs.length = 3 → (gv_CopyBook___init___1_served_marks_promises vs zs).length = 7 := fun vs zs h1 h2 => pick_len _ (by simp [h1, h2])
structure Txt (P : Program) (w : World) (K : PySem.W.Frag) (mg : Str → Option Value) (ad : Nat → Addr) (fd : Nat → FuncData) : Prop where
  g20 : mg "_law_box" = some (.ref (ad 20))
  g24 : mg "_law_choice" = some (.ref (ad 24))
  g21 : mg "_law_draw" = some (.ref (ad 21))
  g14 : mg "CopyBook" = some (.ref (ad 14))
  g1 : mg "Sessions" = some (.ref (ad 1))
  g29 : mg "_law_all_fit" = some (.ref (ad 29))
  g28 : mg "_law_position" = some (.ref (ad 28))
  g26 : mg "_law_rise" = some (.ref (ad 26))
  g30 : mg "_law_edges" = some (.ref (ad 30))
  g23 : mg "_law_alike" = some (.ref (ad 23))
  g25 : mg "_law_mark" = some (.ref (ad 25))
  g27 : mg "_law_above" = some (.ref (ad 27))
  g13 : mg "CHOICES" = some (.ref (ad 13))
  g10 : mg "InvalidBook" = some (.ref (ad 10))
  g12 : mg "check_word" = some (.ref (ad 12))
  g22 : mg "_law_pick" = some (.ref (ad 22))
  F20 : Fun K "_law_box" "_law_box" s_law_box (ad 20) (fd 20)
  b20 : Binds K (fd 20) ["_law_script"] []
  F21 : Fun K "_law_draw" "_law_draw" s_law_draw (ad 21) (fd 21)
  b21 : Binds K (fd 21) ["_law_box_here", "_law_size"] []
  F22 : Fun K "_law_pick" "_law_pick" s_law_pick (ad 22) (fd 22)
  b22 : Binds K (fd 22) ["_law_box_here", "_law_menu"] []
  F24 : Fun K "_law_choice" "_law_choice" s_law_choice (ad 24) (fd 24)
  b24 : Binds K (fd 24) ["_law_box_here"] []
  O11 : OIn P K mg (ad 10) "__init__" "InvalidBook.__init__" s_InvalidBook___init__ (ad 11) (fd 11)
  b11 : Binds K (fd 11) ["self", "part"] []
  ox10 : OexC K (ad 10)
  oi10 : PySem.W.findIn K (.ref (ad 10)) "__init__" = some (some (.ref (ad 11)))
  ot10 : PySem.W.typeIn K (.ref (ad 11)) = some (.type "function")
  ofl10_part : PySem.W.findIn K (.ref (ad 10)) "part" = some none
  F12 : Fun K "check_word" "check_word" s_check_word (ad 12) (fd 12)
  vb12 : ∀ us rest : List Value, us.length = 2 → bindArgs (fd 12) ⟨us ++ rest, []⟩ = (newTuple rest >>= fun t => pure ((["part", "word"] : List Str).zip us ++ [(("words" : Str), t)]))
  F15 : FunD K "__init__" "CopyBook.__init__" (defArgs s_CopyBook___init__) (defBody s_CopyBook___init__) (defScope s_CopyBook___init__) [] [("served", (.bl false : V)), ("hides", (.bl true : V)), ("indexes", (.str "own" : V)), ("summaries", (.str "own" : V))] (ad 15) (fd 15)
  F2 : Fun K "__init__" "Sessions.__init__" s_Sessions___init__ (ad 2) (fd 2)
  b2 : Binds K (fd 2) ["self", "book"] []
  F23 : Fun K "_law_alike" "_law_alike" s_law_alike (ad 23) (fd 23)
  b23 : Binds K (fd 23) ["_law_actual", "_law_due"] []
  F3 : Fun K "mark" "Sessions.mark" s_Sessions_mark (ad 3) (fd 3)
  b3 : Binds K (fd 3) ["self", "user", "word"] []
  F25 : Fun K "_law_mark" "_law_mark" s_law_mark (ad 25) (fd 25)
  b25 : Binds K (fd 25) ["_law_marks", "_law_user", "_law_word"] []
  F8 : Fun K "broken" "Sessions.broken" s_Sessions_broken (ad 8) (fd 8)
  b8 : Binds K (fd 8) ["self", "user", "position"] []
  F27 : Fun K "_law_above" "_law_above" s_law_above (ad 27) (fd 27)
  b27 : Binds K (fd 27) ["_law_marks", "_law_user", "_law_words", "_law_position_here"] []
  F7 : Fun K "lets" "Sessions.lets" s_Sessions_lets (ad 7) (fd 7)
  b7 : Binds K (fd 7) ["self", "user", "position"] []
  F29 : Fun K "_law_all_fit" "_law_all_fit" s_law_all_fit (ad 29) (fd 29)
  b29 : Binds K (fd 29) ["_law_sessions", "_law_marks", "_law_promised", "_law_named", "_law_positions"] []
  F28 : Fun K "_law_position" "_law_position" s_law_position (ad 28) (fd 28)
  b28 : Binds K (fd 28) ["_law_box_here"] []
  F4 : Fun K "raise_mark" "Sessions.raise_mark" s_Sessions_raise_mark (ad 4) (fd 4)
  b4 : Binds K (fd 4) ["self", "user", "word", "position"] []
  F5 : Fun K "ended" "Sessions.ended" s_Sessions_ended (ad 5) (fd 5)
  b5 : Binds K (fd 5) ["self", "user", "position", "wrote"] []
  F26 : Fun K "_law_rise" "_law_rise" s_law_rise (ad 26) (fd 26)
  b26 : Binds K (fd 26) ["_law_marks", "_law_user", "_law_word", "_law_position_here"] []
  F6 : Fun K "answered" "Sessions.answered" s_Sessions_answered (ad 6) (fd 6)
  b6 : Binds K (fd 6) ["self", "user", "position"] []
  F30 : Fun K "_law_edges" "_law_edges" s_law_edges (ad 30) (fd 30)
  b30 : Binds K (fd 30) ["_law_marks"] []
  F31 : Fun K "law" "law" s_law (ad 31) (fd 31)
  b31 : Binds K (fd 31) ["_law_script"] []
  kb_CopyBook___init___1_served_marks_promises : ∃ mv : List Value, KBn K (fd 15) ["self", "served", "marks", "promises", "hides", "indexes", "summaries"] 1 ["served", "marks", "promises"] (fun us ws => pick [0, 4, 5, 6, 1, 2, 3] (us ++ mv ++ ws)) gv_CopyBook___init___1_served_marks_promises
  mk14 : Mk K (ad 14) (ad 15)
  mk1 : Mk K (ad 1) (ad 2)
  n_range : mg "range" = none
  cl1 : Cls K (ad 1)
  me5 : Meth K (ad 1) "ended" (ad 5)
  me6 : Meth K (ad 1) "answered" (ad 6)
  me3 : Meth K (ad 1) "mark" (ad 3)
  me8 : Meth K (ad 1) "broken" (ad 8)
  me7 : Meth K (ad 1) "lets" (ad 7)
  n_tuple : mg "tuple" = none
  n_all : mg "all" = none
  cf_book : ClsF K ad [1] "book"
  cf_marks : ClsF K ad [14] "marks"
  cf_heights : ClsF K ad [1] "heights"
  n_isinstance : mg "isinstance" = none
  isi : IsiOk ⟨K, ad⟩ isi
  n_bool : mg "bool" = none
  n_int : mg "int" = none
  n_str : mg "str" = none
  n_len : mg "len" = none
  n_list : mg "list" = none
  cf_promises : ClsF K ad [14] "promises"
  n_max : mg "max" = none
  n_abs : mg "abs" = none
  me4 : Meth K (ad 1) "raise_mark" (ad 4)
  r13 : ∀ F H, Rep ⟨K, ad⟩ F H c_CHOICES (.ref (ad 13))
  cr14 : ClX.CRead K (ad 14) (.type "type")
  ct14_INDEXES : ∃ a u, ClX.CVal K (ad 14) (.type "type") "INDEXES" (.ref a) u ∧ ∀ F H, Rep ⟨K, ad⟩ F H cc_CopyBook_INDEXES (.ref a)
  ct14_SUMMARIES : ∃ a u, ClX.CVal K (ad 14) (.type "type") "SUMMARIES" (.ref a) u ∧ ∀ F H, Rep ⟨K, ad⟩ F H cc_CopyBook_SUMMARIES (.ref a)
  cf_served : ClsF K ad [14] "served"
  cf_hides : ClsF K ad [14] "hides"
  cf_indexes : ClsF K ad [14] "indexes"
  cf_summaries : ClsF K ad [14] "summaries"
end K48
namespace K48
open PySem L2 T2
noncomputable section
section
variable {P : Program} {w : World} {K : PySem.W.Frag} {mg : Str → Option Value} {base : Heap} {ad : Nat → Addr} {fd : Nat → FuncData}
def b_law_box : SM :=
    sRet (eLst (eCons (eArgs dListF (eCons (eVar 0) (eNil))) (eCons (eC (.int 0)) (eCons (eC (.int 0)) (eCons (eC (.int 0)) (eCons (eC (.int 0)) (eNil)))))))
def m_law_box : List D → MH → Res D := fnB 1 b_law_box
theorem ok_law_box (T : Txt P w K mg ad fd) : FnOk P w K mg base (L2N.CX P w) 3 (ad 20) (fd 20) ["_law_script"] (spD ⟨K, ad⟩ 1 m_law_box) := by
  refine fn_ok2 T.F20 sc_law_box fun cdv A outer s H E hr tk po => ?_
  have hu := hr.units
  have hu1 := hu_of hr
  exact ds_one (ds_ret (de_lst (de_cons (de_listF (de_cons (de_v 0) (de_nil)) (hK := rfl) (hm := T.n_list)) (de_cons (de_int) (de_cons (de_int) (de_cons (de_int) (de_cons (de_int) (de_nil))))))))
end
section
variable {P : Program} {w : World} {K : PySem.W.Frag} {mg : Str → Option Value} {base : Heap} {ad : Nat → Addr} {fd : Nat → FuncData}
def b_law_draw : SM :=
    sSeq (sIf (bVal (eBin dEq (eBin dIxA (eVar 0) (eC (.int 3))) (eC (.int 0))))
    (sSeq (sIf (bVal (eBin dGe (eBin dIxA (eVar 0) (eC (.int 1))) (eArgs dLen (eCons (eBin dIxA (eVar 0) (eC (.int 0))) (eNil)))))
    (sRet (eC (.int 0)))
    (sNil))
    (sSeq (sSetIx dSetIx (eVar 0) (eC (.int 2)) (eArgs dAbs (eCons (eArgs dInt (eCons (eBin dIxA (eBin dIxA (eVar 0) (eC (.int 0))) (eBin dIxA (eVar 0) (eC (.int 1)))) (eNil))) (eNil))))
    (sSeq (sSetIx dSetIx (eVar 0) (eC (.int 1)) (eBin dAdd (eBin dIxA (eVar 0) (eC (.int 1))) (eC (.int 1))))
    (sSeq (sSetIx dSetIx (eVar 0) (eC (.int 4)) (eArgs dInt (eCons (eBin dGe (eBin dIxA (eVar 0) (eC (.int 2))) (eBin dPow (eC (.int 10)) (eC (.int 18)))) (eNil))))
    (sSetIx dSetIx (eVar 0) (eC (.int 3)) (eBin dAdd (eC (.int 12)) (eBin dMul (eC (.int 48)) (eBin dIxA (eVar 0) (eC (.int 4))))))))))
    (sNil))
    (sSeq (sSetIx dSetIx (eVar 0) (eC (.int 3)) (eBin dSub (eBin dIxA (eVar 0) (eC (.int 3))) (eC (.int 1))))
    (sSeq (sIf (bVal (eBin dEq (eBin dIxA (eVar 0) (eC (.int 4))) (eC (.int 1))))
    (sSeq (sSet 2 (eBin dMod (eArgs dInt (eCons (eBin dIxA (eVar 0) (eC (.int 2))) (eNil))) (eVar 1)))
    (sSeq (sSetIx dSetIx (eVar 0) (eC (.int 2)) (eBin dDiv (eArgs dInt (eCons (eBin dIxA (eVar 0) (eC (.int 2))) (eNil))) (eVar 1)))
    (sSeq (sIf (bVal (eBin dEq (eBin dIxA (eVar 0) (eC (.int 2))) (eC (.int 0))))
    (sSetIx dSetIx (eVar 0) (eC (.int 3)) (eC (.int 0)))
    (sNil))
    (sRet (eVar 2)))))
    (sNil))
    (sSeq (sSet 3 (eBin dMod (eArgs dInt (eCons (eBin dAdd (eBin dAdd (eBin dMul (eArgs dInt (eCons (eBin dIxA (eVar 0) (eC (.int 2))) (eNil))) (eC (.int 48271))) (eBin dMul (eBin dIxA (eVar 0) (eC (.int 3))) (eC (.int 69621)))) (eC (.int 13))) (eNil))) (eC (.int 2147483647))))
    (sSeq (sSet 3 (eBin dMod (eArgs dInt (eCons (eBin dAdd (eBin dAdd (eBin dMul (eVar 3) (eC (.int 16807))) (eBin dMul (eBin dIxA (eVar 0) (eC (.int 3))) (eC (.int 40692)))) (eC (.int 7))) (eNil))) (eC (.int 2147483629))))
    (sRet (eBin dMod (eArgs dInt (eCons (eVar 3) (eNil))) (eVar 1)))))))
def m_law_draw : List D → MH → Res D := fnB 4 b_law_draw
theorem ok_law_draw (T : Txt P w K mg ad fd) : FnOk P w K mg base (L2N.CX P w) 3 (ad 21) (fd 21) ["_law_box_here", "_law_size"] (spD ⟨K, ad⟩ 2 m_law_draw) := by
  refine fn_ok2 T.F21 sc_law_draw fun cdv A outer s H E hr tk po => ?_
  have hu := hr.units
  have hu1 := hu_of hr
  exact ds_cons (ds_if (dt_eq rfl hu (de_ixA rfl hu1 (de_v 0) (de_int)) (de_int))
    (ds_cons (ds_if (dt_ge (de_ixA rfl hu1 (de_v 0) (de_int)) (de_len (de_cons (de_ixA rfl hu1 (de_v 0) (de_int)) (de_nil)) (hK := rfl) (hm := T.n_len)))
    (ds_one (ds_ret (de_int)))
    (ds_nil))
    (ds_cons (ds_setL (de_v 0) (de_int) (de_abs (de_cons (de_intc (de_cons (de_ixA rfl hu1 (de_ixA rfl hu1 (de_v 0) (de_int)) (de_ixA rfl hu1 (de_v 0) (de_int))) (de_nil)) (hm := T.n_int)) (de_nil)) (hm := T.n_abs)))
    (ds_cons (ds_setL (de_v 0) (de_int) (de_add rfl (de_ixA rfl hu1 (de_v 0) (de_int)) (de_int)))
    (ds_cons (ds_setL (de_v 0) (de_int) (de_intc (de_cons (de_ge (de_ixA rfl hu1 (de_v 0) (de_int)) (de_pow (de_int) (de_int))) (de_nil)) (hm := T.n_int)))
    (ds_one (ds_setL (de_v 0) (de_int) (de_add rfl (de_int) (de_mul (de_int) (de_ixA rfl hu1 (de_v 0) (de_int))))))))))
    (ds_nil))
    (ds_cons (ds_setL (de_v 0) (de_int) (de_sub (de_ixA rfl hu1 (de_v 0) (de_int)) (de_int)))
    (ds_cons (ds_if (dt_eq rfl hu (de_ixA rfl hu1 (de_v 0) (de_int)) (de_int))
    (ds_cons (ds_set (i := 2) sc_law_draw.nd (de_mod (de_intc (de_cons (de_ixA rfl hu1 (de_v 0) (de_int)) (de_nil)) (hm := T.n_int)) (de_v 1)))
    (ds_cons (ds_setL (de_v 0) (de_int) (de_div (de_intc (de_cons (de_ixA rfl hu1 (de_v 0) (de_int)) (de_nil)) (hm := T.n_int)) (de_v 1)))
    (ds_cons (ds_if (dt_eq rfl hu (de_ixA rfl hu1 (de_v 0) (de_int)) (de_int))
    (ds_one (ds_setL (de_v 0) (de_int) (de_int)))
    (ds_nil))
    (ds_one (ds_ret (de_v 2))))))
    (ds_nil))
    (ds_cons (ds_set (i := 3) sc_law_draw.nd (de_mod (de_intc (de_cons (de_add rfl (de_add rfl (de_mul (de_intc (de_cons (de_ixA rfl hu1 (de_v 0) (de_int)) (de_nil)) (hm := T.n_int)) (de_int)) (de_mul (de_ixA rfl hu1 (de_v 0) (de_int)) (de_int))) (de_int)) (de_nil)) (hm := T.n_int)) (de_int)))
    (ds_cons (ds_set (i := 3) sc_law_draw.nd (de_mod (de_intc (de_cons (de_add rfl (de_add rfl (de_mul (de_v 3) (de_int)) (de_mul (de_ixA rfl hu1 (de_v 0) (de_int)) (de_int))) (de_int)) (de_nil)) (hm := T.n_int)) (de_int)))
    (ds_one (ds_ret (de_mod (de_intc (de_cons (de_v 3) (de_nil)) (hm := T.n_int)) (de_v 1))))))))
end
section
variable {P : Program} {w : World} {K : PySem.W.Frag} {mg : Str → Option Value} {base : Heap} {ad : Nat → Addr} {fd : Nat → FuncData}
def b_law_pick : SM :=
    sRet (eBin dIxA (eVar 1) (eCall 2 m_law_draw (eCons (eVar 0) (eCons (eArgs dLen (eCons (eVar 1) (eNil))) (eNil)))))
def m_law_pick : List D → MH → Res D := fnB 2 b_law_pick
theorem ok_law_pick (T : Txt P w K mg ad fd) : FnOk P w K mg base (L2N.CX P w) 6 (ad 22) (fd 22) ["_law_box_here", "_law_menu"] (spD ⟨K, ad⟩ 2 m_law_pick) := by
  refine fn_ok2 T.F22 sc_law_pick fun cdv A outer s H E hr tk po => ?_
  have hu := hr.units
  have hu1 := hu_of hr
  exact ds_one (ds_ret (de_ixA rfl hu1 (de_v 1) (de_call (ok_law_draw T) (hr.mono (by decide)) tk T.g21 T.F21.kp T.b21 (de_cons (de_v 0) (de_cons (de_len (de_cons (de_v 1) (de_nil)) (hK := rfl) (hm := T.n_len)) (de_nil))))))
end
section
variable {P : Program} {w : World} {K : PySem.W.Frag} {mg : Str → Option Value} {base : Heap} {ad : Nat → Addr} {fd : Nat → FuncData}
def b_law_choice : SM :=
    sSeq (sSet 1 (eFro (eCons (eTup (eCons (eC (.str "own")) (eNil))) (eCons (eTup (eCons (eC (.str "seen")) (eNil))) (eCons (eTup (eCons (eC (.str "main")) (eNil))) (eCons (eTup (eCons (eC (.str "own")) (eCons (eC (.str "seen")) (eNil)))) (eCons (eTup (eCons (eC (.str "own")) (eCons (eC (.str "main")) (eNil)))) (eCons (eTup (eCons (eC (.str "seen")) (eCons (eC (.str "main")) (eNil)))) (eCons (eTup (eCons (eC (.str "own")) (eCons (eC (.str "seen")) (eCons (eC (.str "main")) (eNil))))) (eCons (eTup (eNil)) (eNil)))))))))))
    (sRet (eCall 2 m_law_pick (eCons (eVar 0) (eCons (eVar 1) (eNil)))))
def m_law_choice : List D → MH → Res D := fnB 2 b_law_choice
theorem ok_law_choice (T : Txt P w K mg ad fd) : FnOk P w K mg base (L2N.CX P w) 9 (ad 24) (fd 24) ["_law_box_here"] (spD ⟨K, ad⟩ 1 m_law_choice) := by
  refine fn_ok2 T.F24 sc_law_choice fun cdv A outer s H E hr tk po => ?_
  have hu := hr.units
  have hu1 := hu_of hr
  exact ds_cons (ds_set (i := 1) sc_law_choice.nd (de_fro (de_cons (de_tup (de_cons (de_str) (de_nil))) (de_cons (de_tup (de_cons (de_str) (de_nil))) (de_cons (de_tup (de_cons (de_str) (de_nil))) (de_cons (de_tup (de_cons (de_str) (de_cons (de_str) (de_nil)))) (de_cons (de_tup (de_cons (de_str) (de_cons (de_str) (de_nil)))) (de_cons (de_tup (de_cons (de_str) (de_cons (de_str) (de_nil)))) (de_cons (de_tup (de_cons (de_str) (de_cons (de_str) (de_cons (de_str) (de_nil))))) (de_cons (de_tup (de_nil)) (de_nil)))))))))))
    (ds_one (ds_ret (de_call (ok_law_pick T) (hr.mono (by decide)) tk T.g22 T.F22.kp T.b22 (de_cons (de_v 0) (de_cons (de_v 1) (de_nil))))))
end
section
variable {P : Program} {w : World} {K : PySem.W.Frag} {mg : Str → Option Value} {base : Heap} {ad : Nat → Addr} {fd : Nat → FuncData}
theorem ok_InvalidBook___init__ (T : Txt P w K mg ad fd) : FnOk P w K mg base (L2N.CX P w) 3 (ad 11) (fd 11) ["self", "part"] (spX ⟨K, ad⟩ 10 1 ["part"] xv_InvalidBook) := by
  exact initX_ok (g := ⟨K, ad⟩) (c := 10) (l := [("part", eVar 1)]) (acc := fun ds => [("part", dAt ds 0)]) T.O11 sc_InvalidBook___init__ T.ox10 rfl rfl (fun _ _ _ _ => rfl) (fun _ _ _ _ => rfl) (fun _ _ _ _ _ _ _ => .cons (pe_var (i := 0) rfl (.inl rfl) (by decide) (by decide)) (de_v 1) T.ofl10_part rfl (.nil)) (fun a ds M hl => match ds, hl with | [_], _ => ⟨_, _, rfl, rfl, rfl⟩) (fun _ => rfl) (fun _ => rfl) (by decide) (by decide)
end
section
variable {P : Program} {w : World} {K : PySem.W.Frag} {mg : Str → Option Value} {base : Heap} {ad : Nat → Addr} {fd : Nat → FuncData}
def b_check_word : SM :=
    sIf (bVal (eBin dNotInA (eVar 1) (eVar 2)))
    (sRaiseX 10 1 ["part"] xv_InvalidBook (eCons (eVar 0) (eNil)))
    (sNil)
def m_check_word : List D → MH → Res D := fnB 3 b_check_word
theorem ok_check_word (T : Txt P w K mg ad fd) : FnR P w K mg base (L2N.CX P w) 6 (ad 12) (spR ⟨K, ad⟩ 2 m_check_word) := by
  refine fnR_ok (ps := ["part", "word"]) (pv := "words") T.F12 sc_check_word T.vb12 fun cdv A outer s H E hr tk po => ?_
  have hu := hr.units
  have hu1 := hu_of hr
  exact ds_one (ds_if (dt_notinA rfl hu1 (de_v 1) (de_v 2))
    (ds_one (ds_raiseX T.ox10 T.oi10 T.ot10 (ok_InvalidBook___init__ T) (hr.mono (by decide)) tk T.b11 T.g10 (de_cons (de_v 0) (de_nil))))
    (ds_nil))
end
section
variable {P : Program} {w : World} {K : PySem.W.Frag} {mg : Str → Option Value} {base : Heap} {ad : Nat → Addr} {fd : Nat → FuncData}
def lp_CopyBook___init___1 : SM :=
    sIf (bVal (eBin (dInD true) (eArgs dTupF (eCons (eVar 7) (eNil))) (eC c_CHOICES)))
    (sRaiseX 10 1 ["part"] xv_InvalidBook (eCons (eC (.str "copies")) (eNil)))
    (sNil)
def b_CopyBook___init__ : SM :=
    sSeq (sForI (iSeq (eTup (eCons (eVar 2) (eCons (eVar 3) (eNil))))) (tgName 7) lp_CopyBook___init___1)
    (sSeq (sDo (eCallR 2 m_check_word (eCons (eC (.str "copies")) (eCons (eVar 5) (eStar (eC cc_CopyBook_INDEXES) (eNil))))))
    (sSeq (sDo (eCallR 2 m_check_word (eCons (eC (.str "copies")) (eCons (eVar 6) (eStar (eC cc_CopyBook_SUMMARIES) (eNil))))))
    (sSeq (sPutF [14] "served" (eVar 0) (eVar 1))
    (sSeq (sPutF [14] "marks" (eVar 0) (eArgs dTupF (eCons (eVar 2) (eNil))))
    (sSeq (sPutF [14] "promises" (eVar 0) (eArgs dTupF (eCons (eVar 3) (eNil))))
    (sSeq (sPutF [14] "hides" (eVar 0) (eVar 4))
    (sSeq (sPutF [14] "indexes" (eVar 0) (eVar 5))
    (sPutF [14] "summaries" (eVar 0) (eVar 6)))))))))
def m_CopyBook___init__ : List D → MH → Res D := fnB 8 b_CopyBook___init__
theorem ok_CopyBook___init__ (T : Txt P w K mg ad fd) : FnOk P w K mg base (L2N.CX P w) 9 (ad 15) (fd 15) ["self", "served", "marks", "promises", "hides", "indexes", "summaries"] (spD ⟨K, ad⟩ 7 m_CopyBook___init__) := by
  refine fnD_ok2 T.F15 sc_CopyBook___init__ fun cdv A outer s H E hr tk po => ?_
  have hu := hr.units
  have hu1 := hu_of hr
  exact ds_cons (ds_for (fun _ => pin_nil) po rfl (pi_or (pi_list (de_tup (de_cons (de_v 2) (de_cons (de_v 3) (de_nil))))) (pi_tup (de_tup (de_cons (de_v 2) (de_cons (de_v 3) (de_nil)))))) (itSim_seq rfl) (pg_name (i := 7) sc_CopyBook___init__.nd rfl (by first | exact Or.inl rfl | exact Or.inr rfl)) (tgName_sim 7)
    (ds_one (ds_if (dt_notinD rfl (hu65 hr) (de_tupc (de_cons (de_v 7) (de_nil)) (hK := rfl) (hm := T.n_tuple)) (de_c (pe_glob (v := .ref (ad 13)) rfl T.g13 rfl) T.r13))
    (ds_one (ds_raiseX T.ox10 T.oi10 T.ot10 (ok_InvalidBook___init__ T) (hr.mono (by decide)) tk T.b11 T.g10 (de_cons (de_str) (de_nil))))
    (ds_nil))))
    (ds_cons (ds_do (de_callR (ok_check_word T) (hr.mono (by decide)) tk T.g12 T.F12.kp (de_cons (de_str) (de_cons (de_v 5) (da_star (de_cval (c := 14) T.g14 T.cr14 T.ct14_INDEXES.choose_spec.choose_spec) (de_nil) rfl)))))
    (ds_cons (ds_do (de_callR (ok_check_word T) (hr.mono (by decide)) tk T.g12 T.F12.kp (de_cons (de_str) (de_cons (de_v 6) (da_star (de_cval (c := 14) T.g14 T.cr14 T.ct14_SUMMARIES.choose_spec.choose_spec) (de_nil) rfl)))))
    (ds_cons (ds_putF T.cf_served (de_v 0) (de_v 1))
    (ds_cons (ds_putF T.cf_marks (de_v 0) (de_tupc (de_cons (de_v 2) (de_nil)) (hK := rfl) (hm := T.n_tuple)))
    (ds_cons (ds_putF T.cf_promises (de_v 0) (de_tupc (de_cons (de_v 3) (de_nil)) (hK := rfl) (hm := T.n_tuple)))
    (ds_cons (ds_putF T.cf_hides (de_v 0) (de_v 4))
    (ds_cons (ds_putF T.cf_indexes (de_v 0) (de_v 5))
    (ds_one (ds_putF T.cf_summaries (de_v 0) (de_v 6))))))))))
end
section
variable {P : Program} {w : World} {K : PySem.W.Frag} {mg : Str → Option Value} {base : Heap} {ad : Nat → Addr} {fd : Nat → FuncData}
def b_Sessions___init__ : SM :=
    sSeq (sPutF [1] "book" (eVar 0) (eVar 1))
    (sPutF [1] "heights" (eVar 0) (eDNewT))
def m_Sessions___init__ : List D → MH → Res D := fnB 2 b_Sessions___init__
theorem ok_Sessions___init__ (T : Txt P w K mg ad fd) : FnOk P w K mg base (L2N.CX P w) 3 (ad 2) (fd 2) ["self", "book"] (spD ⟨K, ad⟩ 2 m_Sessions___init__) := by
  refine fn_ok2 T.F2 sc_Sessions___init__ fun cdv A outer s H E hr tk po => ?_
  have hu := hr.units
  have hu1 := hu_of hr
  exact ds_cons (ds_putF T.cf_book (de_v 0) (de_v 1))
    (ds_one (ds_putF T.cf_heights (de_v 0) (de_dnewT)))
end
section
variable {P : Program} {w : World} {K : PySem.W.Frag} {mg : Str → Option Value} {base : Heap} {ad : Nat → Addr} {fd : Nat → FuncData}
def lp_law_alike_1 (self : List D → MH → Res D) : SM :=
    sIf (bNot (bVal (eCall 2 self (eCons (eBin dIxA (eVar 0) (eVar 2)) (eCons (eBin dIxA (eVar 1) (eVar 2)) (eNil))))))
    (sRet (eC (.bl false)))
    (sNil)
def b_law_alike (self : List D → MH → Res D) : SM :=
    sSeq (sIf (bVal (eBin dIs (eVar 1) (eC .non)))
    (sRet (eBin dIs (eVar 0) (eC .non)))
    (sNil))
    (sSeq (sIf (bOr (bVal (eBin dIs (eVar 1) (eC (.bl true)))) (bVal (eBin dIs (eVar 1) (eC (.bl false)))))
    (sRet (eAnd (eArgs (dIsi isi) (eCons (eVar 0) (eCons (eC (.ty "bool")) (eNil)))) (eBin dEq (eVar 0) (eVar 1))))
    (sNil))
    (sSeq (sIf (bVal (eArgs (dIsi isi) (eCons (eVar 1) (eCons (eC (.ty "int")) (eNil)))))
    (sRet (eAnd (eArgs (dIsi isi) (eCons (eVar 0) (eCons (eC (.ty "int")) (eNil)))) (eAnd (eNot (eArgs (dIsi isi) (eCons (eVar 0) (eCons (eC (.ty "bool")) (eNil))))) (eBin dEq (eVar 0) (eVar 1)))))
    (sNil))
    (sSeq (sIf (bVal (eArgs (dIsi isi) (eCons (eVar 1) (eCons (eC (.ty "str")) (eNil)))))
    (sRet (eAnd (eArgs (dIsi isi) (eCons (eVar 0) (eCons (eC (.ty "str")) (eNil)))) (eBin dEq (eVar 0) (eVar 1))))
    (sNil))
    (sSeq (sIf (bVal (eArgs (dIsi isi) (eCons (eVar 1) (eCons (eC (.ty "tuple")) (eNil)))))
    (sIf (bOr (bNot (bVal (eArgs (dIsi isi) (eCons (eVar 0) (eCons (eC (.ty "tuple")) (eNil)))))) (bVal (eBin dNe (eArgs dLen (eCons (eVar 0) (eNil))) (eArgs dLen (eCons (eVar 1) (eNil))))))
    (sRet (eC (.bl false)))
    (sNil))
    (sIf (bOr (bNot (bVal (eArgs (dIsi isi) (eCons (eVar 0) (eCons (eC (.ty "list")) (eNil)))))) (bVal (eBin dNe (eArgs dLen (eCons (eVar 0) (eNil))) (eArgs dLen (eCons (eVar 1) (eNil))))))
    (sRet (eC (.bl false)))
    (sNil)))
    (sSeq (sForI (iRange1 (eArgs dLen (eCons (eVar 1) (eNil)))) (tgName 2) (lp_law_alike_1 self))
    (sRet (eC (.bl true))))))))
def m_law_alike : Nat → List D → MH → Res D
  | 0 => fun _ _ => .bad
  | n + 1 => fnB 3 (b_law_alike (m_law_alike n))
theorem ok_law_alike (T : Txt P w K mg ad fd) : ∀ n : Nat, FnOk P w K mg base (L2N.CX P w) (3 + n) (ad 23) (fd 23) ["_law_actual", "_law_due"] (spD ⟨K, ad⟩ 2 (m_law_alike n))
  | 0 => fn_bad _
  | n + 1 => by
    have ih := ok_law_alike T n
    refine fn_ok2 T.F23 sc_law_alike fun cdv A outer s H E hr tk po => ?_
    have hu := hr.units
    have hu1 := hu_of hr
    exact ds_cons (ds_if (dt_is (de_v 1) (de_non))
        (ds_one (ds_ret (de_is (de_v 0) (de_non))))
        (ds_nil))
        (ds_cons (ds_if (dt_w (dw_or (dt_is (de_v 1) (de_bl)) (dw_or1 (dt_is (de_v 1) (de_bl)))))
        (ds_one (ds_ret (de_and (de_isi T.isi rfl (de_cons (de_v 0) (de_cons (de_c (pe_bltn (v := .ty "bool") rfl T.n_bool (by decide +kernel) rfl) fun _ _ => .ty "bool") (de_nil))) T.n_isinstance) (de_one (de_eq rfl hu (de_v 0) (de_v 1))))))
        (ds_nil))
        (ds_cons (ds_if (dt_val (de_isi T.isi rfl (de_cons (de_v 1) (de_cons (de_c (pe_bltn (v := .ty "int") rfl T.n_int (by decide +kernel) rfl) fun _ _ => .ty "int") (de_nil))) T.n_isinstance))
        (ds_one (ds_ret (de_and (de_isi T.isi rfl (de_cons (de_v 0) (de_cons (de_c (pe_bltn (v := .ty "int") rfl T.n_int (by decide +kernel) rfl) fun _ _ => .ty "int") (de_nil))) T.n_isinstance) (de_and (de_not (de_isi T.isi rfl (de_cons (de_v 0) (de_cons (de_c (pe_bltn (v := .ty "bool") rfl T.n_bool (by decide +kernel) rfl) fun _ _ => .ty "bool") (de_nil))) T.n_isinstance)) (de_one (de_eq rfl hu (de_v 0) (de_v 1)))))))
        (ds_nil))
        (ds_cons (ds_if (dt_val (de_isi T.isi rfl (de_cons (de_v 1) (de_cons (de_c (pe_bltn (v := .ty "str") rfl T.n_str (by decide +kernel) rfl) fun _ _ => .ty "str") (de_nil))) T.n_isinstance))
        (ds_one (ds_ret (de_and (de_isi T.isi rfl (de_cons (de_v 0) (de_cons (de_c (pe_bltn (v := .ty "str") rfl T.n_str (by decide +kernel) rfl) fun _ _ => .ty "str") (de_nil))) T.n_isinstance) (de_one (de_eq rfl hu (de_v 0) (de_v 1))))))
        (ds_nil))
        (ds_cons (ds_if (dt_val (de_isi T.isi rfl (de_cons (de_v 1) (de_cons (de_c (pe_bltn (v := .ty "tuple") rfl T.n_tuple (by decide +kernel) rfl) fun _ _ => .ty "tuple") (de_nil))) T.n_isinstance))
        (ds_one (ds_if (dt_w (dw_or (dt_not (dt_val (de_isi T.isi rfl (de_cons (de_v 0) (de_cons (de_c (pe_bltn (v := .ty "tuple") rfl T.n_tuple (by decide +kernel) rfl) fun _ _ => .ty "tuple") (de_nil))) T.n_isinstance))) (dw_or1 (dt_ne rfl hu (de_len (de_cons (de_v 0) (de_nil)) (hK := rfl) (hm := T.n_len)) (de_len (de_cons (de_v 1) (de_nil)) (hK := rfl) (hm := T.n_len))))))
        (ds_one (ds_ret (de_bl)))
        (ds_nil)))
        (ds_one (ds_if (dt_w (dw_or (dt_not (dt_val (de_isi T.isi rfl (de_cons (de_v 0) (de_cons (de_c (pe_bltn (v := .ty "list") rfl T.n_list (by decide +kernel) rfl) fun _ _ => .ty "list") (de_nil))) T.n_isinstance))) (dw_or1 (dt_ne rfl hu (de_len (de_cons (de_v 0) (de_nil)) (hK := rfl) (hm := T.n_len)) (de_len (de_cons (de_v 1) (de_nil)) (hK := rfl) (hm := T.n_len))))))
        (ds_one (ds_ret (de_bl)))
        (ds_nil))))
        (ds_cons (ds_for (fun _ => pin_nil) po rfl (pi_range1 rfl T.n_range (de_cons (de_len (de_cons (de_v 1) (de_nil)) (hK := rfl) (hm := T.n_len)) de_nil)) (itSim_range1) (pg_name (i := 2) sc_law_alike.nd rfl (by first | exact Or.inl rfl | exact Or.inr rfl)) (tgName_sim 2)
        (ds_one (ds_if (dt_not (dt_val (de_call (ih) (hr.mono (by (try simp only [Nat.add_eq]); omega)) tk T.g23 T.F23.kp T.b23 (de_cons (de_ixA rfl hu1 (de_v 0) (de_v 2)) (de_cons (de_ixA rfl hu1 (de_v 1) (de_v 2)) (de_nil))))))
        (ds_one (ds_ret (de_bl)))
        (ds_nil))))
        (ds_one (ds_ret (de_bl))))))))
end
section
variable {P : Program} {w : World} {K : PySem.W.Frag} {mg : Str → Option Value} {base : Heap} {ad : Nat → Addr} {fd : Nat → FuncData}
def b_Sessions_mark : SM :=
    sRet (eDGetT (eUn (dFld [1] "heights") (eVar 0)) (eTk (eCons (eVar 1) (eCons (eVar 2) (eNil)))) (eC (.int 0)))
def m_Sessions_mark : List D → MH → Res D := fnB 3 b_Sessions_mark
theorem ok_Sessions_mark (T : Txt P w K mg ad fd) : FnOk P w K mg base (L2N.CX P w) 3 (ad 3) (fd 3) ["self", "user", "word"] (spD ⟨K, ad⟩ 3 m_Sessions_mark) := by
  refine fn_ok2 T.F3 sc_Sessions_mark fun cdv A outer s H E hr tk po => ?_
  have hu := hr.units
  have hu1 := hu_of hr
  exact ds_one (ds_ret (de_dgetT hu1 (de_fld (g := ⟨K, ad⟩) T.cf_heights (de_v 0)) (de_tk (de_cons (de_v 1) (de_cons (de_v 2) (de_nil)))) (de_int)))
end
section
variable {P : Program} {w : World} {K : PySem.W.Frag} {mg : Str → Option Value} {base : Heap} {ad : Nat → Addr} {fd : Nat → FuncData}
def b_law_mark : SM :=
    sRet (eDGetT (eVar 0) (eTk (eCons (eVar 1) (eCons (eVar 2) (eNil)))) (eC (.int 0)))
def m_law_mark : List D → MH → Res D := fnB 3 b_law_mark
theorem ok_law_mark (T : Txt P w K mg ad fd) : FnOk P w K mg base (L2N.CX P w) 3 (ad 25) (fd 25) ["_law_marks", "_law_user", "_law_word"] (spD ⟨K, ad⟩ 3 m_law_mark) := by
  refine fn_ok2 T.F25 sc_law_mark fun cdv A outer s H E hr tk po => ?_
  have hu := hr.units
  have hu1 := hu_of hr
  exact ds_one (ds_ret (de_dgetT hu1 (de_v 0) (de_tk (de_cons (de_v 1) (de_cons (de_v 2) (de_nil)))) (de_int)))
end
section
variable {P : Program} {w : World} {K : PySem.W.Frag} {mg : Str → Option Value} {base : Heap} {ad : Nat → Addr} {fd : Nat → FuncData}
def b_Sessions_broken : SM :=
    sRet (eArgs dTupF (eCons (eLc (iSeq (eUn (dFld [14] "promises") (eUn (dFld [1] "book") (eVar 0)))) (tgName 3) (bVal (eBin dGt (eMeth 1 "mark" 3 m_Sessions_mark (eVar 0) (eCons (eVar 1) (eCons (eVar 3) (eNil)))) (eVar 2))) (eVar 3) [3]) (eNil)))
def m_Sessions_broken : List D → MH → Res D := fnB 4 b_Sessions_broken
theorem ok_Sessions_broken (T : Txt P w K mg ad fd) : FnOk P w K mg base (L2N.CX P w) 6 (ad 8) (fd 8) ["self", "user", "position"] (spD ⟨K, ad⟩ 3 m_Sessions_broken) := by
  refine fn_ok2 T.F8 sc_Sessions_broken fun cdv A outer s H E hr tk po => ?_
  have hu := hr.units
  have hu1 := hu_of hr
  exact ds_one (ds_ret (de_tupc (de_cons (de_lc (own := [("word", 3)]) sc_Sessions_broken.nd (pi_or (pi_list (de_fld (g := ⟨K, ad⟩) T.cf_promises (de_fld (g := ⟨K, ad⟩) T.cf_book (de_v 0)))) (pi_tup (de_fld (g := ⟨K, ad⟩) T.cf_promises (de_fld (g := ⟨K, ad⟩) T.cf_book (de_v 0))))) (itSim_seq rfl) (blkOk_by (N := ["self", "user", "position", "word"]) (sc := defScope s_Sessions_broken) (by decide +kernel)) (tgName_sim 3) (tgName_own 3 (by decide)) (fun _ _ _ _ _ => pg_name (i := 3) sc_Sessions_broken.nd rfl (by first | exact Or.inl rfl | exact Or.inr rfl)) (fun _ _ _ _ _ => dts_one (dt_gt (de_meth (c := 1) (de_v 0) T.cl1 T.me3 (ok_Sessions_mark T) (hr.mono (by decide)) takesN0 T.b3 (de_cons (de_v 1) (de_cons (de_v 3) (de_nil)))) (de_v 2))) (fun _ _ _ _ _ => de_v 3)) (de_nil)) (hK := rfl) (hm := T.n_tuple)))
end
section
variable {P : Program} {w : World} {K : PySem.W.Frag} {mg : Str → Option Value} {base : Heap} {ad : Nat → Addr} {fd : Nat → FuncData}
def b_law_above : SM :=
    sRet (eArgs dTupF (eCons (eLc (iSeq (eVar 2)) (tgName 4) (bVal (eBin dGt (eCall 3 m_law_mark (eCons (eVar 0) (eCons (eVar 1) (eCons (eVar 4) (eNil))))) (eVar 3))) (eVar 4) [4]) (eNil)))
def m_law_above : List D → MH → Res D := fnB 5 b_law_above
theorem ok_law_above (T : Txt P w K mg ad fd) : FnOk P w K mg base (L2N.CX P w) 6 (ad 27) (fd 27) ["_law_marks", "_law_user", "_law_words", "_law_position_here"] (spD ⟨K, ad⟩ 4 m_law_above) := by
  refine fn_ok2 T.F27 sc_law_above fun cdv A outer s H E hr tk po => ?_
  have hu := hr.units
  have hu1 := hu_of hr
  exact ds_one (ds_ret (de_tupc (de_cons (de_lc (own := [("_law_word", 4)]) sc_law_above.nd (pi_or (pi_list (de_v 2)) (pi_tup (de_v 2))) (itSim_seq rfl) (blkOk_by (N := ["_law_marks", "_law_user", "_law_words", "_law_position_here", "_law_word"]) (sc := defScope s_law_above) (by decide +kernel)) (tgName_sim 4) (tgName_own 4 (by decide)) (fun _ _ _ _ _ => pg_name (i := 4) sc_law_above.nd rfl (by first | exact Or.inl rfl | exact Or.inr rfl)) (fun _ _ _ _ _ => dts_one (dt_gt (de_call (ok_law_mark T) (hr.mono (by decide)) takesN0 T.g25 T.F25.kp T.b25 (de_cons (de_v 0) (de_cons (de_v 1) (de_cons (de_v 4) (de_nil))))) (de_v 3))) (fun _ _ _ _ _ => de_v 4)) (de_nil)) (hK := rfl) (hm := T.n_tuple)))
end
section
variable {P : Program} {w : World} {K : PySem.W.Frag} {mg : Str → Option Value} {base : Heap} {ad : Nat → Addr} {fd : Nat → FuncData}
def b_Sessions_lets : SM :=
    sRet (eArgs (dAllB fun bs => bs.all id) (eCons (eLc (iSeq (eUn (dFld [14] "marks") (eUn (dFld [1] "book") (eVar 0)))) (tgName 3) (bYes) (eBin dLe (eMeth 1 "mark" 3 m_Sessions_mark (eVar 0) (eCons (eVar 1) (eCons (eVar 3) (eNil)))) (eVar 2)) [3]) (eNil)))
def m_Sessions_lets : List D → MH → Res D := fnB 4 b_Sessions_lets
theorem ok_Sessions_lets (T : Txt P w K mg ad fd) : FnOk P w K mg base (L2N.CX P w) 6 (ad 7) (fd 7) ["self", "user", "position"] (spD ⟨K, ad⟩ 3 m_Sessions_lets) := by
  refine fn_ok2 T.F7 sc_Sessions_lets fun cdv A outer s H E hr tk po => ?_
  have hu := hr.units
  have hu1 := hu_of hr
  exact ds_one (ds_ret (de_all rfl (de_cons (de_lc (own := [("word", 3)]) sc_Sessions_lets.nd (pi_or (pi_list (de_fld (g := ⟨K, ad⟩) T.cf_marks (de_fld (g := ⟨K, ad⟩) T.cf_book (de_v 0)))) (pi_tup (de_fld (g := ⟨K, ad⟩) T.cf_marks (de_fld (g := ⟨K, ad⟩) T.cf_book (de_v 0))))) (itSim_seq rfl) (blkOk_by (N := ["self", "user", "position", "word"]) (sc := defScope s_Sessions_lets) (by decide +kernel)) (tgName_sim 3) (tgName_own 3 (by decide)) (fun _ _ _ _ _ => pg_name (i := 3) sc_Sessions_lets.nd rfl (by first | exact Or.inl rfl | exact Or.inr rfl)) (fun _ _ _ _ _ => dts_nil) (fun _ _ _ _ _ => de_le (de_meth (c := 1) (de_v 0) T.cl1 T.me3 (ok_Sessions_mark T) (hr.mono (by decide)) takesN0 T.b3 (de_cons (de_v 1) (de_cons (de_v 3) (de_nil)))) (de_v 2))) (de_nil)) T.n_all))
end
section
variable {P : Program} {w : World} {K : PySem.W.Frag} {mg : Str → Option Value} {base : Heap} {ad : Nat → Addr} {fd : Nat → FuncData}
def lp_law_all_fit_1 : SM :=
    sIf (bNot (bVal (eCall 2 (m_law_alike 6) (eCons (eMeth 1 "mark" 3 m_Sessions_mark (eVar 0) (eCons (eVar 5) (eCons (eVar 6) (eNil)))) (eCons (eCall 3 m_law_mark (eCons (eVar 1) (eCons (eVar 5) (eCons (eVar 6) (eNil))))) (eNil))))))
    (sRet (eC (.bl false)))
    (sNil)
def lp_law_all_fit_2 : SM :=
    sSeq (sIf (bNot (bVal (eCall 2 (m_law_alike 6) (eCons (eMeth 1 "broken" 3 m_Sessions_broken (eVar 0) (eCons (eVar 5) (eCons (eVar 7) (eNil)))) (eCons (eCall 4 m_law_above (eCons (eVar 1) (eCons (eVar 5) (eCons (eVar 2) (eCons (eVar 7) (eNil)))))) (eNil))))))
    (sRet (eC (.bl false)))
    (sNil))
    (sIf (bNot (bVal (eCall 2 (m_law_alike 6) (eCons (eMeth 1 "lets" 3 m_Sessions_lets (eVar 0) (eCons (eVar 5) (eCons (eVar 7) (eNil)))) (eCons (eBin dEq (eCall 4 m_law_above (eCons (eVar 1) (eCons (eVar 5) (eCons (eVar 3) (eCons (eVar 7) (eNil)))))) (eTup (eNil))) (eNil))))))
    (sRet (eC (.bl false)))
    (sNil))
def lp_law_all_fit_3 : SM :=
    sSeq (sForI (iSeq (eFro (eCons (eC (.str "own")) (eCons (eC (.str "seen")) (eCons (eC (.str "main")) (eNil)))))) (tgName 6) lp_law_all_fit_1)
    (sForI (iSeq (eVar 4)) (tgName 7) lp_law_all_fit_2)
def b_law_all_fit : SM :=
    sSeq (sForI (iRange1 (eC (.int 3))) (tgName 5) lp_law_all_fit_3)
    (sRet (eC (.bl true)))
def m_law_all_fit : List D → MH → Res D := fnB 8 b_law_all_fit
theorem ok_law_all_fit (T : Txt P w K mg ad fd) : FnOk P w K mg base (L2N.CX P w) 12 (ad 29) (fd 29) ["_law_sessions", "_law_marks", "_law_promised", "_law_named", "_law_positions"] (spD ⟨K, ad⟩ 5 m_law_all_fit) := by
  refine fn_ok2 T.F29 sc_law_all_fit fun cdv A outer s H E hr tk po => ?_
  have hu := hr.units
  have hu1 := hu_of hr
  exact ds_cons (ds_for (fun _ => pin_nil) po rfl (pi_range1 rfl T.n_range (de_cons (de_int) de_nil)) (itSim_range1) (pg_name (i := 5) sc_law_all_fit.nd rfl (by first | exact Or.inl rfl | exact Or.inr rfl)) (tgName_sim 5)
    (ds_cons (ds_for (fun _ => pin_nil) po rfl (pi_or (pi_list (de_fro (de_cons (de_str) (de_cons (de_str) (de_cons (de_str) (de_nil)))))) (pi_tup (de_fro (de_cons (de_str) (de_cons (de_str) (de_cons (de_str) (de_nil))))))) (itSim_seq rfl) (pg_name (i := 6) sc_law_all_fit.nd rfl (by first | exact Or.inl rfl | exact Or.inr rfl)) (tgName_sim 6)
    (ds_one (ds_if (dt_not (dt_val (de_call (ok_law_alike T 6) (hr.mono (by decide)) tk T.g23 T.F23.kp T.b23 (de_cons (de_meth (c := 1) (de_v 0) T.cl1 T.me3 (ok_Sessions_mark T) (hr.mono (by decide)) tk T.b3 (de_cons (de_v 5) (de_cons (de_v 6) (de_nil)))) (de_cons (de_call (ok_law_mark T) (hr.mono (by decide)) tk T.g25 T.F25.kp T.b25 (de_cons (de_v 1) (de_cons (de_v 5) (de_cons (de_v 6) (de_nil))))) (de_nil))))))
    (ds_one (ds_ret (de_bl)))
    (ds_nil))))
    (ds_one (ds_for (fun _ => pin_nil) po rfl (pi_or (pi_list (de_v 4)) (pi_tup (de_v 4))) (itSim_seq rfl) (pg_name (i := 7) sc_law_all_fit.nd rfl (by first | exact Or.inl rfl | exact Or.inr rfl)) (tgName_sim 7)
    (ds_cons (ds_if (dt_not (dt_val (de_call (ok_law_alike T 6) (hr.mono (by decide)) tk T.g23 T.F23.kp T.b23 (de_cons (de_meth (c := 1) (de_v 0) T.cl1 T.me8 (ok_Sessions_broken T) (hr.mono (by decide)) tk T.b8 (de_cons (de_v 5) (de_cons (de_v 7) (de_nil)))) (de_cons (de_call (ok_law_above T) (hr.mono (by decide)) tk T.g27 T.F27.kp T.b27 (de_cons (de_v 1) (de_cons (de_v 5) (de_cons (de_v 2) (de_cons (de_v 7) (de_nil)))))) (de_nil))))))
    (ds_one (ds_ret (de_bl)))
    (ds_nil))
    (ds_one (ds_if (dt_not (dt_val (de_call (ok_law_alike T 6) (hr.mono (by decide)) tk T.g23 T.F23.kp T.b23 (de_cons (de_meth (c := 1) (de_v 0) T.cl1 T.me7 (ok_Sessions_lets T) (hr.mono (by decide)) tk T.b7 (de_cons (de_v 5) (de_cons (de_v 7) (de_nil)))) (de_cons (de_eq rfl hu (de_call (ok_law_above T) (hr.mono (by decide)) tk T.g27 T.F27.kp T.b27 (de_cons (de_v 1) (de_cons (de_v 5) (de_cons (de_v 3) (de_cons (de_v 7) (de_nil)))))) (de_tup (de_nil))) (de_nil))))))
    (ds_one (ds_ret (de_bl)))
    (ds_nil))))))))
    (ds_one (ds_ret (de_bl)))
end
section
variable {P : Program} {w : World} {K : PySem.W.Frag} {mg : Str → Option Value} {base : Heap} {ad : Nat → Addr} {fd : Nat → FuncData}
def b_law_position : SM :=
    sSeq (sSet 1 (eCall 2 m_law_draw (eCons (eVar 0) (eCons (eC (.int 12)) (eNil)))))
    (sSeq (sIf (bVal (eBin dEq (eCall 2 m_law_draw (eCons (eVar 0) (eCons (eC (.int 8)) (eNil)))) (eC (.int 7))))
    (sSet 1 (eBin dAdd (eVar 1) (eBin dPow (eC (.int 10)) (eC (.int 20)))))
    (sNil))
    (sRet (eVar 1)))
def m_law_position : List D → MH → Res D := fnB 2 b_law_position
theorem ok_law_position (T : Txt P w K mg ad fd) : FnOk P w K mg base (L2N.CX P w) 6 (ad 28) (fd 28) ["_law_box_here"] (spD ⟨K, ad⟩ 1 m_law_position) := by
  refine fn_ok2 T.F28 sc_law_position fun cdv A outer s H E hr tk po => ?_
  have hu := hr.units
  have hu1 := hu_of hr
  exact ds_cons (ds_set (i := 1) sc_law_position.nd (de_call (ok_law_draw T) (hr.mono (by decide)) tk T.g21 T.F21.kp T.b21 (de_cons (de_v 0) (de_cons (de_int) (de_nil)))))
    (ds_cons (ds_if (dt_eq rfl hu (de_call (ok_law_draw T) (hr.mono (by decide)) tk T.g21 T.F21.kp T.b21 (de_cons (de_v 0) (de_cons (de_int) (de_nil)))) (de_int))
    (ds_one (ds_set (i := 1) sc_law_position.nd (de_add rfl (de_v 1) (de_pow (de_int) (de_int)))))
    (ds_nil))
    (ds_one (ds_ret (de_v 1))))
end
section
variable {P : Program} {w : World} {K : PySem.W.Frag} {mg : Str → Option Value} {base : Heap} {ad : Nat → Addr} {fd : Nat → FuncData}
def b_Sessions_raise_mark : SM :=
    sSetIx dSetT (eUn (dFld [1] "heights") (eVar 0)) (eTk (eCons (eVar 1) (eCons (eVar 2) (eNil)))) (eArgs dMax2 (eCons (eMeth 1 "mark" 3 m_Sessions_mark (eVar 0) (eCons (eVar 1) (eCons (eVar 2) (eNil)))) (eCons (eVar 3) (eNil))))
def m_Sessions_raise_mark : List D → MH → Res D := fnB 4 b_Sessions_raise_mark
theorem ok_Sessions_raise_mark (T : Txt P w K mg ad fd) : FnOk P w K mg base (L2N.CX P w) 6 (ad 4) (fd 4) ["self", "user", "word", "position"] (spD ⟨K, ad⟩ 4 m_Sessions_raise_mark) := by
  refine fn_ok2 T.F4 sc_Sessions_raise_mark fun cdv A outer s H E hr tk po => ?_
  have hu := hr.units
  have hu1 := hu_of hr
  exact ds_one (ds_setT hu1 (de_fld (g := ⟨K, ad⟩) T.cf_heights (de_v 0)) (de_tk (de_cons (de_v 1) (de_cons (de_v 2) (de_nil)))) (de_max2 (de_cons (de_meth (c := 1) (de_v 0) T.cl1 T.me3 (ok_Sessions_mark T) (hr.mono (by decide)) tk T.b3 (de_cons (de_v 1) (de_cons (de_v 2) (de_nil)))) (de_cons (de_v 3) (de_nil))) (hc := rfl) (hm := T.n_max)))
end
section
variable {P : Program} {w : World} {K : PySem.W.Frag} {mg : Str → Option Value} {base : Heap} {ad : Nat → Addr} {fd : Nat → FuncData}
def b_Sessions_ended : SM :=
    sSeq (sDo (eMeth 1 "raise_mark" 4 m_Sessions_raise_mark (eVar 0) (eCons (eVar 1) (eCons (eC (.str "main")) (eCons (eVar 2) (eNil))))))
    (sIf (bVal (eVar 3))
    (sDo (eMeth 1 "raise_mark" 4 m_Sessions_raise_mark (eVar 0) (eCons (eVar 1) (eCons (eC (.str "own")) (eCons (eVar 2) (eNil))))))
    (sNil))
def m_Sessions_ended : List D → MH → Res D := fnB 4 b_Sessions_ended
theorem ok_Sessions_ended (T : Txt P w K mg ad fd) : FnOk P w K mg base (L2N.CX P w) 9 (ad 5) (fd 5) ["self", "user", "position", "wrote"] (spD ⟨K, ad⟩ 4 m_Sessions_ended) := by
  refine fn_ok2 T.F5 sc_Sessions_ended fun cdv A outer s H E hr tk po => ?_
  have hu := hr.units
  have hu1 := hu_of hr
  exact ds_cons (ds_do (de_meth (c := 1) (de_v 0) T.cl1 T.me4 (ok_Sessions_raise_mark T) (hr.mono (by decide)) tk T.b4 (de_cons (de_v 1) (de_cons (de_str) (de_cons (de_v 2) (de_nil))))))
    (ds_one (ds_if (dt_val (de_v 3))
    (ds_one (ds_do (de_meth (c := 1) (de_v 0) T.cl1 T.me4 (ok_Sessions_raise_mark T) (hr.mono (by decide)) tk T.b4 (de_cons (de_v 1) (de_cons (de_str) (de_cons (de_v 2) (de_nil)))))))
    (ds_nil)))
end
section
variable {P : Program} {w : World} {K : PySem.W.Frag} {mg : Str → Option Value} {base : Heap} {ad : Nat → Addr} {fd : Nat → FuncData}
def b_law_rise : SM :=
    sSetIx dSetT (eVar 0) (eTk (eCons (eVar 1) (eCons (eVar 2) (eNil)))) (eArgs dMax2 (eCons (eCall 3 m_law_mark (eCons (eVar 0) (eCons (eVar 1) (eCons (eVar 2) (eNil))))) (eCons (eVar 3) (eNil))))
def m_law_rise : List D → MH → Res D := fnB 4 b_law_rise
theorem ok_law_rise (T : Txt P w K mg ad fd) : FnOk P w K mg base (L2N.CX P w) 6 (ad 26) (fd 26) ["_law_marks", "_law_user", "_law_word", "_law_position_here"] (spD ⟨K, ad⟩ 4 m_law_rise) := by
  refine fn_ok2 T.F26 sc_law_rise fun cdv A outer s H E hr tk po => ?_
  have hu := hr.units
  have hu1 := hu_of hr
  exact ds_one (ds_setT hu1 (de_v 0) (de_tk (de_cons (de_v 1) (de_cons (de_v 2) (de_nil)))) (de_max2 (de_cons (de_call (ok_law_mark T) (hr.mono (by decide)) tk T.g25 T.F25.kp T.b25 (de_cons (de_v 0) (de_cons (de_v 1) (de_cons (de_v 2) (de_nil))))) (de_cons (de_v 3) (de_nil))) (hc := rfl) (hm := T.n_max)))
end
section
variable {P : Program} {w : World} {K : PySem.W.Frag} {mg : Str → Option Value} {base : Heap} {ad : Nat → Addr} {fd : Nat → FuncData}
def b_Sessions_answered : SM :=
    sDo (eMeth 1 "raise_mark" 4 m_Sessions_raise_mark (eVar 0) (eCons (eVar 1) (eCons (eC (.str "seen")) (eCons (eVar 2) (eNil)))))
def m_Sessions_answered : List D → MH → Res D := fnB 3 b_Sessions_answered
theorem ok_Sessions_answered (T : Txt P w K mg ad fd) : FnOk P w K mg base (L2N.CX P w) 9 (ad 6) (fd 6) ["self", "user", "position"] (spD ⟨K, ad⟩ 3 m_Sessions_answered) := by
  refine fn_ok2 T.F6 sc_Sessions_answered fun cdv A outer s H E hr tk po => ?_
  have hu := hr.units
  have hu1 := hu_of hr
  exact ds_one (ds_do (de_meth (c := 1) (de_v 0) T.cl1 T.me4 (ok_Sessions_raise_mark T) (hr.mono (by decide)) tk T.b4 (de_cons (de_v 1) (de_cons (de_str) (de_cons (de_v 2) (de_nil))))))
end
section
variable {P : Program} {w : World} {K : PySem.W.Frag} {mg : Str → Option Value} {base : Heap} {ad : Nat → Addr} {fd : Nat → FuncData}
def lp_law_edges_1 : SM :=
    sIf (bVal (eBin dNotInA (eBin dIxT (eVar 0) (eVar 2)) (eVar 1)))
    (sSet 1 (eBin (dCat mkF) (eVar 1) (eFro (eCons (eBin dIxT (eVar 0) (eVar 2)) (eCons (eArgs dMax2 (eCons (eBin dSub (eBin dIxT (eVar 0) (eVar 2)) (eC (.int 1))) (eCons (eC (.int 0)) (eNil)))) (eNil))))))
    (sNil)
def b_law_edges : SM :=
    sSeq (sSet 1 (eFro (eCons (eC (.int 0)) (eNil))))
    (sSeq (sForK 0 (tgName 2) lp_law_edges_1)
    (sRet (eSl mkF (eVar 1) (oNone) (oSome (eC (.int 8))))))
def m_law_edges : List D → MH → Res D := fnB 3 b_law_edges
theorem ok_law_edges (T : Txt P w K mg ad fd) : FnOk P w K mg base (L2N.CX P w) 3 (ad 30) (fd 30) ["_law_marks"] (spD ⟨K, ad⟩ 1 m_law_edges) := by
  refine fn_ok2 T.F30 sc_law_edges fun cdv A outer s H E hr tk po => ?_
  have hu := hr.units
  have hu1 := hu_of hr
  exact ds_cons (ds_set (i := 1) sc_law_edges.nd (de_fro (de_cons (de_int) (de_nil))))
    (ds_cons (ds_forK 0 (fun _ => pin_nil) po rfl (pe_var (i := 0) rfl (by first | exact Or.inl rfl | exact Or.inr (Or.inl rfl) | exact Or.inr (Or.inr rfl)) (by decide) (by decide)) (pg_name (i := 2) sc_law_edges.nd rfl (by first | exact Or.inl rfl | exact Or.inr rfl)) (tgName_sim 2)
    (ds_one (ds_if (dt_notinA rfl hu1 (de_ixT hu1 (de_v 0) (de_v 2)) (de_v 1))
    (ds_one (ds_set (i := 1) sc_law_edges.nd (de_cat rfl mkF_ok (de_v 1) (de_fro (de_cons (de_ixT hu1 (de_v 0) (de_v 2)) (de_cons (de_max2 (de_cons (de_sub (de_ixT hu1 (de_v 0) (de_v 2)) (de_int)) (de_cons (de_int) (de_nil))) (hc := rfl) (hm := T.n_max)) (de_nil)))))))
    (ds_nil))))
    (ds_one (ds_ret (de_sl rfl mkF_ok (de_v 1) (do_none) (do_some (de_int))))))
end
section
variable {P : Program} {w : World} {K : PySem.W.Frag} {mg : Str → Option Value} {base : Heap} {ad : Nat → Addr} {fd : Nat → FuncData}
def lp_law_1 : SM :=
    sSeq (sSet 10 (eCall 2 m_law_draw (eCons (eVar 1) (eCons (eC (.int 3)) (eNil)))))
    (sSeq (sSet 11 (eCall 1 m_law_position (eCons (eVar 1) (eNil))))
    (sSeq (sSet 12 (eCall 2 m_law_draw (eCons (eVar 1) (eCons (eC (.int 4)) (eNil)))))
    (sSeq (sIf (bVal (eBin dLt (eVar 12) (eC (.int 2))))
    (sSeq (sSet 13 (eBin dEq (eVar 12) (eC (.int 0))))
    (sSeq (sIf (bVal (eBin dIsNot (eMeth 1 "ended" 4 m_Sessions_ended (eVar 6) (eCons (eVar 10) (eCons (eVar 11) (eCons (eVar 13) (eNil))))) (eC .non)))
    (sRet (eC (.bl false)))
    (sNil))
    (sSeq (sDo (eCall 4 m_law_rise (eCons (eVar 8) (eCons (eVar 10) (eCons (eC (.str "main")) (eCons (eVar 11) (eNil)))))))
    (sIf (bVal (eVar 13))
    (sDo (eCall 4 m_law_rise (eCons (eVar 8) (eCons (eVar 10) (eCons (eC (.str "own")) (eCons (eVar 11) (eNil)))))))
    (sNil)))))
    (sSeq (sIf (bVal (eBin dIsNot (eMeth 1 "answered" 3 m_Sessions_answered (eVar 6) (eCons (eVar 10) (eCons (eVar 11) (eNil)))) (eC .non)))
    (sRet (eC (.bl false)))
    (sNil))
    (sDo (eCall 4 m_law_rise (eCons (eVar 8) (eCons (eVar 10) (eCons (eC (.str "seen")) (eCons (eVar 11) (eNil)))))))))
    (sIf (bNot (bVal (eCall 5 m_law_all_fit (eCons (eVar 6) (eCons (eVar 8) (eCons (eVar 3) (eCons (eVar 2) (eCons (eFro (eCons (eVar 11) (eCons (eCall 1 m_law_position (eCons (eVar 1) (eNil))) (eNil)))) (eNil)))))))))
    (sRet (eC (.bl false)))
    (sNil)))))
def b_law : SM :=
    sSeq (sSet 1 (eCall 1 m_law_box (eCons (eVar 0) (eNil))))
    (sSeq (sSet 2 (eCall 1 m_law_choice (eCons (eVar 1) (eNil))))
    (sSeq (sSet 3 (eCall 1 m_law_choice (eCons (eVar 1) (eNil))))
    (sSeq (sSet 4 (eBin dEq (eCall 2 m_law_draw (eCons (eVar 1) (eCons (eC (.int 2)) (eNil)))) (eC (.int 1))))
    (sSeq (sSet 5 (eMakeK 14 0 3 gd_CopyBook___init___1_served_marks_promises m_CopyBook___init__ (eCons (eVar 4) (eCons (eVar 2) (eCons (eVar 3) (eNil))))))
    (sSeq (sSet 6 (eMake 1 2 m_Sessions___init__ (eCons (eVar 5) (eNil))))
    (sSeq (sSet 7 (eMake 1 2 m_Sessions___init__ (eCons (eVar 5) (eNil))))
    (sSeq (sSet 8 (eDNewT))
    (sSeq (sIf (bNot (bVal (eCall 5 m_law_all_fit (eCons (eVar 6) (eCons (eVar 8) (eCons (eVar 3) (eCons (eVar 2) (eCons (eFro (eCons (eC (.int 0)) (eCons (eC (.int 3)) (eNil)))) (eNil)))))))))
    (sRet (eC (.bl false)))
    (sNil))
    (sSeq (sForI (iRange1 (eBin dSub (eC (.int 16)) (eCall 2 m_law_draw (eCons (eVar 1) (eCons (eC (.int 12)) (eNil)))))) (tgName 9) lp_law_1)
    (sSeq (sIf (bNot (bVal (eCall 5 m_law_all_fit (eCons (eVar 6) (eCons (eVar 8) (eCons (eVar 3) (eCons (eVar 2) (eCons (eCall 1 m_law_edges (eCons (eVar 8) (eNil))) (eNil)))))))))
    (sRet (eC (.bl false)))
    (sNil))
    (sRet (eCall 5 m_law_all_fit (eCons (eVar 7) (eCons (eDNewT) (eCons (eVar 3) (eCons (eVar 2) (eCons (eFro (eCons (eC (.int 0)) (eCons (eC (.int 1)) (eNil)))) (eNil))))))))))))))))))
def m_law : List D → MH → Res D := fnB 14 b_law
theorem ok_law (T : Txt P w K mg ad fd) : FnOk P w K mg base (L2N.CX P w) 15 (ad 31) (fd 31) ["_law_script"] (spD ⟨K, ad⟩ 1 m_law) := by
  obtain ⟨_, kb_CopyBook___init___1_served_marks_promises⟩ := T.kb_CopyBook___init___1_served_marks_promises
  refine fn_ok2 T.F31 sc_law fun cdv A outer s H E hr tk po => ?_
  have hu := hr.units
  have hu1 := hu_of hr
  exact ds_cons (ds_set (i := 1) sc_law.nd (de_call (ok_law_box T) (hr.mono (by decide)) tk T.g20 T.F20.kp T.b20 (de_cons (de_v 0) (de_nil))))
    (ds_cons (ds_set (i := 2) sc_law.nd (de_call (ok_law_choice T) (hr.mono (by decide)) tk T.g24 T.F24.kp T.b24 (de_cons (de_v 1) (de_nil))))
    (ds_cons (ds_set (i := 3) sc_law.nd (de_call (ok_law_choice T) (hr.mono (by decide)) tk T.g24 T.F24.kp T.b24 (de_cons (de_v 1) (de_nil))))
    (ds_cons (ds_set (i := 4) sc_law.nd (de_eq rfl hu (de_call (ok_law_draw T) (hr.mono (by decide)) tk T.g21 T.F21.kp T.b21 (de_cons (de_v 1) (de_cons (de_int) (de_nil)))) (de_int)))
    (ds_cons (ds_set (i := 5) sc_law.nd (de_makeK (c := 14) T.mk14 (ok_CopyBook___init__ T) (hr.mono (by decide)) tk T.g14 kb_CopyBook___init___1_served_marks_promises gd_CopyBook___init___1_served_marks_promises_rep gd_CopyBook___init___1_served_marks_promises_len (dk_cons (de_v 4) (dk_cons (de_v 2) (dk_cons (de_v 3) (dk_nil))))))
    (ds_cons (ds_set (i := 6) sc_law.nd (de_make (c := 1) T.mk1 (ok_Sessions___init__ T) (hr.mono (by decide)) tk T.g1 T.b2 (de_cons (de_v 5) (de_nil))))
    (ds_cons (ds_set (i := 7) sc_law.nd (de_make (c := 1) T.mk1 (ok_Sessions___init__ T) (hr.mono (by decide)) tk T.g1 T.b2 (de_cons (de_v 5) (de_nil))))
    (ds_cons (ds_set (i := 8) sc_law.nd (de_dnewT))
    (ds_cons (ds_if (dt_not (dt_val (de_call (ok_law_all_fit T) (hr.mono (by decide)) tk T.g29 T.F29.kp T.b29 (de_cons (de_v 6) (de_cons (de_v 8) (de_cons (de_v 3) (de_cons (de_v 2) (de_cons (de_fro (de_cons (de_int) (de_cons (de_int) (de_nil)))) (de_nil)))))))))
    (ds_one (ds_ret (de_bl)))
    (ds_nil))
    (ds_cons (ds_for (fun _ => pin_nil) po rfl (pi_range1 rfl T.n_range (de_cons (de_sub (de_int) (de_call (ok_law_draw T) (hr.mono (by decide)) tk T.g21 T.F21.kp T.b21 (de_cons (de_v 1) (de_cons (de_int) (de_nil))))) de_nil)) (itSim_range1) (pg_name (i := 9) sc_law.nd rfl (by first | exact Or.inl rfl | exact Or.inr rfl)) (tgName_sim 9)
    (ds_cons (ds_set (i := 10) sc_law.nd (de_call (ok_law_draw T) (hr.mono (by decide)) tk T.g21 T.F21.kp T.b21 (de_cons (de_v 1) (de_cons (de_int) (de_nil)))))
    (ds_cons (ds_set (i := 11) sc_law.nd (de_call (ok_law_position T) (hr.mono (by decide)) tk T.g28 T.F28.kp T.b28 (de_cons (de_v 1) (de_nil))))
    (ds_cons (ds_set (i := 12) sc_law.nd (de_call (ok_law_draw T) (hr.mono (by decide)) tk T.g21 T.F21.kp T.b21 (de_cons (de_v 1) (de_cons (de_int) (de_nil)))))
    (ds_cons (ds_if (dt_lt (de_v 12) (de_int))
    (ds_cons (ds_set (i := 13) sc_law.nd (de_eq rfl hu (de_v 12) (de_int)))
    (ds_cons (ds_if (dt_isnot (de_meth (c := 1) (de_v 6) T.cl1 T.me5 (ok_Sessions_ended T) (hr.mono (by decide)) tk T.b5 (de_cons (de_v 10) (de_cons (de_v 11) (de_cons (de_v 13) (de_nil))))) (de_non))
    (ds_one (ds_ret (de_bl)))
    (ds_nil))
    (ds_cons (ds_do (de_call (ok_law_rise T) (hr.mono (by decide)) tk T.g26 T.F26.kp T.b26 (de_cons (de_v 8) (de_cons (de_v 10) (de_cons (de_str) (de_cons (de_v 11) (de_nil)))))))
    (ds_one (ds_if (dt_val (de_v 13))
    (ds_one (ds_do (de_call (ok_law_rise T) (hr.mono (by decide)) tk T.g26 T.F26.kp T.b26 (de_cons (de_v 8) (de_cons (de_v 10) (de_cons (de_str) (de_cons (de_v 11) (de_nil))))))))
    (ds_nil))))))
    (ds_cons (ds_if (dt_isnot (de_meth (c := 1) (de_v 6) T.cl1 T.me6 (ok_Sessions_answered T) (hr.mono (by decide)) tk T.b6 (de_cons (de_v 10) (de_cons (de_v 11) (de_nil)))) (de_non))
    (ds_one (ds_ret (de_bl)))
    (ds_nil))
    (ds_one (ds_do (de_call (ok_law_rise T) (hr.mono (by decide)) tk T.g26 T.F26.kp T.b26 (de_cons (de_v 8) (de_cons (de_v 10) (de_cons (de_str) (de_cons (de_v 11) (de_nil))))))))))
    (ds_one (ds_if (dt_not (dt_val (de_call (ok_law_all_fit T) (hr.mono (by decide)) tk T.g29 T.F29.kp T.b29 (de_cons (de_v 6) (de_cons (de_v 8) (de_cons (de_v 3) (de_cons (de_v 2) (de_cons (de_fro (de_cons (de_v 11) (de_cons (de_call (ok_law_position T) (hr.mono (by decide)) tk T.g28 T.F28.kp T.b28 (de_cons (de_v 1) (de_nil))) (de_nil)))) (de_nil)))))))))
    (ds_one (ds_ret (de_bl)))
    (ds_nil))))))))
    (ds_cons (ds_if (dt_not (dt_val (de_call (ok_law_all_fit T) (hr.mono (by decide)) tk T.g29 T.F29.kp T.b29 (de_cons (de_v 6) (de_cons (de_v 8) (de_cons (de_v 3) (de_cons (de_v 2) (de_cons (de_call (ok_law_edges T) (hr.mono (by decide)) tk T.g30 T.F30.kp T.b30 (de_cons (de_v 8) (de_nil))) (de_nil)))))))))
    (ds_one (ds_ret (de_bl)))
    (ds_nil))
    (ds_one (ds_ret (de_call (ok_law_all_fit T) (hr.mono (by decide)) tk T.g29 T.F29.kp T.b29 (de_cons (de_v 7) (de_cons (de_dnewT) (de_cons (de_v 3) (de_cons (de_v 2) (de_cons (de_fro (de_cons (de_int) (de_cons (de_int) (de_nil)))) (de_nil)))))))))))))))))))
end
end
end K48
namespace K48
open PySem L2 T2
theorem draw_is : m_law_draw = drawM := rfl
theorem box_is : m_law_box = boxM := rfl
theorem pick_is : m_law_pick = pickM := rfl
theorem isib : IsiB isi := by constructor <;> rfl
theorem alike_is : m_law_alike 6 = alikeM isi 6 := rfl
theorem alike_ok {M : MH} {x y : D} (h : Same M 6 x y) : m_law_alike 6 [x, y] M = .ok (.bl true) M := by rw [alike_is]; exact alike_same isib 6 x y h
theorem add_int {i j : Int} {M : MH} : dAdd (.int i) (.int j) M = .ok (.int (i + j)) M := rfl
theorem gt_int {i j : Int} {M : MH} : dGt (.int i) (.int j) M = .ok (.bl (decide (j < i))) M := rfl
theorem le_int {i j : Int} {M : MH} : dLe (.int i) (.int j) M = .ok (.bl (decide (i ≤ j))) M := rfl
theorem lt_int {i j : Int} {M : MH} : dLt (.int i) (.int j) M = .ok (.bl (decide (i < j))) M := rfl
theorem ob_M {M : MH} {n c : Nat} {ns : List Str} {ds : List D} (h : M[n]? = some (.ob c ns ds)) : instOf M (.ref n) = some (c, ns, ds) := by unfold instOf; dsimp only; rw [h]
theorem fld_M {M : MH} {n c : Nat} {cs : List Nat} {ns : List Str} {ds : List D} {f : Str} {d : D} (h : M[n]? = some (.ob c ns ds)) (hc : cs.contains c = true) (hf : fieldOf f ns ds = some d) : dFld cs f (.ref n) M = .ok d M := by
  unfold dFld; rw [ob_M h]; dsimp only; rw [if_pos hc, hf]
/-! ### the dict of the marks -/
abbrev ky (u : Nat) (w : Str) : List Key := [.inl (u : Int), .inr w]
structure DOk (n : Nat) (ks : List (List Key)) (ds : List D) : Prop where
  len : ks.length = ds.length
  sz : ds.length ≤ n
  int : ∀ d ∈ ds, ∃ i : Int, d = .int i
def hv (ks : List (List Key)) (ds : List D) (k : List Key) : Int := match kGet ks ds k with
  | some (.int i) => i
  | _ => 0
theorem kGet_mem' {k : List Key} : ∀ {ks : List (List Key)} {ds : List D} {d : D}, kGet ks ds k = some d → d ∈ ds
  | [], _, _, h => by simp [kGet] at h
  | _ :: _, [], _, h => by simp [kGet] at h
  | x :: ks, y :: ds, d, h => by
    unfold kGet at h
    simp only [List.zip_cons_cons, List.find?_cons] at h
    by_cases hx : x = k
    · simp [hx] at h; simp [h]
    · simp only [hx, decide_false] at h
      exact List.mem_cons_of_mem _ (kGet_mem' h)
theorem DOk.get {n : Nat} {ks : List (List Key)} {ds : List D} (h : DOk n ks ds) (k : List Key) : (kGet ks ds k).getD (.int 0) = .int (hv ks ds k) := by
  unfold hv
  cases hk : kGet ks ds k with
  | none => rfl
  | some d => obtain ⟨i, rfl⟩ := h.int d (kGet_mem' hk); rfl
theorem DOk.put {n : Nat} {ks : List (List Key)} {ds : List D} (h : DOk n ks ds) (k : List Key) (i : Int) : DOk (n + 1) (kPutD k (.int i) ks ds).1 (kPutD k (.int i) ks ds).2 := by
  refine ⟨kPutD_one h.len, ?_, ?_⟩
  · unfold kPutD
    split
    · have := h.sz; have := h.len; simp; omega
    · have := h.sz; simp; omega
  · unfold kPutD
    split
    · intro d hd
      dsimp only at hd
      have : ∀ (ks : List (List Key)) (ds : List D), (∀ d ∈ ds, ∃ i : Int, d = .int i) → ∀ d ∈ List.zipWith (fun k' y => if k' = k then D.int i else y) ks ds, ∃ i : Int, d = .int i := by
        intro ks
        induction ks with
        | nil => intro ds _ d hd; simp at hd
        | cons x ks ih =>
          intro ds hds d hd
          cases ds with
          | nil => simp at hd
          | cons y ds =>
            rw [List.zipWith_cons_cons] at hd
            rcases List.mem_cons.mp hd with rfl | hd
            · split
              · exact ⟨_, rfl⟩
              · exact hds y (by simp)
            · exact ih ds (fun d hd => hds d (by simp [hd])) d hd
      exact this ks ds h.int d hd
    · intro d hd
      rcases List.mem_append.mp hd with hd | hd
      · exact h.int d hd
      · exact ⟨i, List.mem_singleton.mp hd⟩
theorem dgett {mo mk mx : EM} {e : Env2} {M : MH} {n : Nat} {ks : List (List Key)} {ds : List D} {k : List Key} {z : D} (h1 : mo e M = .ok (.ref n) M) (h2 : M[n]? = some (.dt ks ds)) (h3 : mk e M = .ok (.tk k) M) (h4 : mx e M = .ok z M) : eDGetT mo mk mx e M = .ok ((kGet ks ds k).getD z) M := by
  unfold eDGetT
  rw [h1, Res.bind_ok]
  dsimp only
  rw [h2]
  dsimp only
  rw [h3, Res.bind_ok, h4, Res.bind_ok, h2]
theorem tk_run {e : Env2} {M : MH} {i j u : Nat} {w : Str} (h1 : e[i]? = some (some (.int (u : Nat)))) (h2 : e[j]? = some (some (.str w))) : eTk (eCons (eVar i) (eCons (eVar j) (eNil))) e M = .ok (.tk (ky u w)) M := by
  unfold eTk
  rw [z_args]
  simp only [z_seq, z_seq_nx, z_seq_rt, z_seq_ex, z_seq_bk, z_seq_ct, z_if, z_if_t, z_if_f, z_if_x, z_set, z_set_ok, z_set_x, z_ret, z_ret_ok, z_ret_x, z_retN, z_do, z_do_ok, z_do_x, z_nil, z_raise0, z_raise, z_raise_ok, z_toR_rt, z_toR_nx, z_toR_ex, z_c, z_var, z_var_ok, z_un, z_un_ok, z_un_x, z_bin, z_bin_ok, z_bin_x, z_anil, z_cons, z_cons1, z_cons1x, z_cons2, z_cons2x, z_args, z_args_ok, z_args_x, z_tup, z_tup_ok, z_fro, z_fro_ok, z_lst, z_lst_ok, z_call, z_stat, z_call_ok, z_callk, z_callk1, z_callk2, z_mkF, z_mkF_ok, z_own1, z_own1_ok, z_prop, z_own2, z_own2_ok, z_val, z_val_ok, z_val_x, z_and, z_and_t, z_and_f, z_or, z_or_t, z_or_f, z_not, z_not_ok, z_yes, z_eand, z_eand_t, z_eand_f, z_eor, z_eor_t, z_eor_f, z_enot, z_enot_ok, z_eif, z_eif_t, z_eif_f, z_for, z_for_v, z_iseq, z_iseq_t, z_iseq_f, z_iseq_r, z_rng, z_rng_ok, z_env0, z_try, z_try_nx, z_try_rt, z_try0, z_try0_nx, z_try0_rt, z_for_l, z_fv0, z_fv_nx, z_fv_ct, z_fv_rt, z_lc_v, z_step, z_step_ok, z_istr, z_istr_ok, z_env0, List.map_cons, List.map_nil, List.replicate, List.append_nil, Nat.reduceSub, List.cons_append, List.nil_append, List.length_cons, List.length_nil, Nat.reduceAdd, Nat.reduceLeDiff, List.getElem?_cons_zero, List.getElem?_cons_succ, List.set_cons_zero, List.set_cons_succ, Bool.not_true, Bool.not_false, h1, h2]
  rfl
/-! ### where things stand -/
def sN : List Str := ["book", "heights"]
def bN : List Str := ["served", "marks", "promises", "hides", "indexes", "summaries"]
structure At (n : Nat) (M : MH) (so dd mo : Nat) (ks : List (List Key)) (ds : List D) (sv : D) (nm pr : List Str) : Prop where
  b : M[1]? = some (.ob 14 bN [sv, .tup (nm.map D.str), .tup (pr.map D.str), .bl true, .str "own", .str "own"])
  s : M[so]? = some (.ob 1 sN [.ref 1, .ref dd])
  d : M[dd]? = some (.dt ks ds)
  m : M[mo]? = some (.dt ks ds)
  k : DOk n ks ds
structure WL (ws : List Str) : Prop where
  len : ws.length ≤ 3
  ok : ∀ w ∈ ws, PyData.strOk w = true
section
variable {n so dd mo u : Nat} {M M' : MH} {ks : List (List Key)} {ds : List D} {sv : D} {nm pr ws : List Str} {w : Str} {p : Int}
theorem At.ext (a : At n M so dd mo ks ds sv nm pr) (x : Ext M M') : At n M' so dd mo ks ds sv nm pr := ⟨x _ _ a.b, x _ _ a.s, x _ _ a.d, x _ _ a.m, a.k⟩
theorem At.ob (a : At n M so dd mo ks ds sv nm pr) : instOf M (.ref so) = some (1, sN, [.ref 1, .ref dd]) := ob_M a.s
theorem mark_run (a : At n M so dd mo ks ds sv nm pr) : m_Sessions_mark [.ref so, .int (u : Nat), .str w] M = .ok (.int (hv ks ds (ky u w))) M := by
  have hm : eUn (dFld [1] "heights") (eVar 0) [some (.ref so), some (.int (u : Nat)), some (.str w)] M = .ok (.ref dd) M := by
    have := fld_M (cs := [1]) (f := "heights") (d := .ref dd) a.s rfl rfl
    simp only [z_seq, z_seq_nx, z_seq_rt, z_seq_ex, z_seq_bk, z_seq_ct, z_if, z_if_t, z_if_f, z_if_x, z_set, z_set_ok, z_set_x, z_ret, z_ret_ok, z_ret_x, z_retN, z_do, z_do_ok, z_do_x, z_nil, z_raise0, z_raise, z_raise_ok, z_toR_rt, z_toR_nx, z_toR_ex, z_c, z_var, z_var_ok, z_un, z_un_ok, z_un_x, z_bin, z_bin_ok, z_bin_x, z_anil, z_cons, z_cons1, z_cons1x, z_cons2, z_cons2x, z_args, z_args_ok, z_args_x, z_tup, z_tup_ok, z_fro, z_fro_ok, z_lst, z_lst_ok, z_call, z_stat, z_call_ok, z_callk, z_callk1, z_callk2, z_mkF, z_mkF_ok, z_own1, z_own1_ok, z_prop, z_own2, z_own2_ok, z_val, z_val_ok, z_val_x, z_and, z_and_t, z_and_f, z_or, z_or_t, z_or_f, z_not, z_not_ok, z_yes, z_eand, z_eand_t, z_eand_f, z_eor, z_eor_t, z_eor_f, z_enot, z_enot_ok, z_eif, z_eif_t, z_eif_f, z_for, z_for_v, z_iseq, z_iseq_t, z_iseq_f, z_iseq_r, z_rng, z_rng_ok, z_env0, z_try, z_try_nx, z_try_rt, z_try0, z_try0_nx, z_try0_rt, z_for_l, z_fv0, z_fv_nx, z_fv_ct, z_fv_rt, z_lc_v, z_step, z_step_ok, z_istr, z_istr_ok, z_env0, List.map_cons, List.map_nil, List.replicate, List.append_nil, Nat.reduceSub, List.cons_append, List.nil_append, List.length_cons, List.length_nil, Nat.reduceAdd, Nat.reduceLeDiff, List.getElem?_cons_zero, List.getElem?_cons_succ, List.set_cons_zero, List.set_cons_succ, Bool.not_true, Bool.not_false, this]
  unfold m_Sessions_mark b_Sessions_mark
  rw [z_fn, show env0 3 [.ref so, .int (u : Nat), .str w] = [some (.ref so), some (.int (u : Nat)), some (.str w)] from rfl, z_ret, dgett hm a.d (tk_run rfl rfl) rfl, a.k.get, z_ret_ok, z_toR_rt]
theorem lmark_run (a : At n M so dd mo ks ds sv nm pr) : m_law_mark [.ref mo, .int (u : Nat), .str w] M = .ok (.int (hv ks ds (ky u w))) M := by
  unfold m_law_mark b_law_mark
  rw [z_fn, show env0 3 [.ref mo, .int (u : Nat), .str w] = [some (.ref mo), some (.int (u : Nat)), some (.str w)] from rfl, z_ret, dgett (var_ok rfl) a.m (tk_run rfl rfl) rfl, a.k.get, z_ret_ok, z_toR_rt]
def abv (ks : List (List Key)) (ds : List D) (u : Nat) (p : Int) (d : D) : Bool := match d with
  | .str w => decide (p < hv ks ds (ky u w))
  | _ => false
def abvs (ks : List (List Key)) (ds : List D) (u : Nat) (p : Int) (ws : List Str) : List D := (ws.map D.str).filter (abv ks ds u p)
theorem forall_strs {q : D → Prop} (h : ∀ w ∈ ws, q (.str w)) : ∀ x ∈ ws.map D.str, q x := fun x hx => by
  obtain ⟨w, hw, rfl⟩ := List.mem_map.mp hx
  exact h w hw
theorem broken_run (a : At n M so dd mo ks ds sv nm pr) (W : WL pr) : ∃ G, m_Sessions_broken [.ref so, .int (u : Nat), .int p] M = .ok (.tup (abvs ks ds u p pr)) (M ++ G) := by
  refine ⟨[.lst (abvs ks ds u p pr)], ?_⟩
  have f1 := fld_M (cs := [1]) (f := "book") (d := .ref 1) a.s rfl rfl
  have f2 := fld_M (cs := [14]) (f := "promises") (d := .tup (pr.map D.str)) a.b rfl rfl
  have hi : iSeq (eUn (dFld [14] "promises") (eUn (dFld [1] "book") (eVar 0))) [some (.ref so), some (.int (u : Nat)), some (.int p), none] M = .ok (.vals (pr.map D.str)) M := by simp only [z_seq, z_seq_nx, z_seq_rt, z_seq_ex, z_seq_bk, z_seq_ct, z_if, z_if_t, z_if_f, z_if_x, z_set, z_set_ok, z_set_x, z_ret, z_ret_ok, z_ret_x, z_retN, z_do, z_do_ok, z_do_x, z_nil, z_raise0, z_raise, z_raise_ok, z_toR_rt, z_toR_nx, z_toR_ex, z_c, z_var, z_var_ok, z_un, z_un_ok, z_un_x, z_bin, z_bin_ok, z_bin_x, z_anil, z_cons, z_cons1, z_cons1x, z_cons2, z_cons2x, z_args, z_args_ok, z_args_x, z_tup, z_tup_ok, z_fro, z_fro_ok, z_lst, z_lst_ok, z_call, z_stat, z_call_ok, z_callk, z_callk1, z_callk2, z_mkF, z_mkF_ok, z_own1, z_own1_ok, z_prop, z_own2, z_own2_ok, z_val, z_val_ok, z_val_x, z_and, z_and_t, z_and_f, z_or, z_or_t, z_or_f, z_not, z_not_ok, z_yes, z_eand, z_eand_t, z_eand_f, z_eor, z_eor_t, z_eor_f, z_enot, z_enot_ok, z_eif, z_eif_t, z_eif_f, z_for, z_for_v, z_iseq, z_iseq_t, z_iseq_f, z_iseq_r, z_rng, z_rng_ok, z_env0, z_try, z_try_nx, z_try_rt, z_try0, z_try0_nx, z_try0_rt, z_for_l, z_fv0, z_fv_nx, z_fv_ct, z_fv_rt, z_lc_v, z_step, z_step_ok, z_istr, z_istr_ok, z_env0, List.map_cons, List.map_nil, List.replicate, List.append_nil, Nat.reduceSub, List.cons_append, List.nil_append, List.length_cons, List.length_nil, Nat.reduceAdd, Nat.reduceLeDiff, List.getElem?_cons_zero, List.getElem?_cons_succ, List.set_cons_zero, List.set_cons_succ, Bool.not_true, Bool.not_false, f1, f2]
  have ht := tupc_if (i := 3) (tt := bVal (eBin dGt (eMeth 1 "mark" 3 m_Sessions_mark (eVar 0) (eCons (eVar 1) (eCons (eVar 3) (eNil)))) (eVar 2))) (m := eVar 3) (vs := [3]) (p := abv ks ds u p) (g := fun x => x) hi (forall_strs fun w hw acc => by
    have a2 := a.ext (Ext.app (G := [.lst acc]))
    have m1 := meth_run (c := 1) (m := "mark") (n := 3) (f := m_Sessions_mark) (mo := eVar 0) (ma := eCons (eVar 1) (eCons (eVar 3) (eNil))) (e := [some (.ref so), some (.int (u : Nat)), some (.int p), some (.str w)]) (M := M ++ [.lst acc]) rfl a2.ob (by decide +kernel) rfl rfl (mark_run (u := u) (w := w) a2)
    have hw2 : (wipe2 [some (D.ref so), some (.int (u : Nat)), some (.int p), none] [3]).set 3 (some (.str w)) = [some (.ref so), some (.int (u : Nat)), some (.int p), some (.str w)] := rfl
    rw [hw2]
    simp only [z_seq, z_seq_nx, z_seq_rt, z_seq_ex, z_seq_bk, z_seq_ct, z_if, z_if_t, z_if_f, z_if_x, z_set, z_set_ok, z_set_x, z_ret, z_ret_ok, z_ret_x, z_retN, z_do, z_do_ok, z_do_x, z_nil, z_raise0, z_raise, z_raise_ok, z_toR_rt, z_toR_nx, z_toR_ex, z_c, z_var, z_var_ok, z_un, z_un_ok, z_un_x, z_bin, z_bin_ok, z_bin_x, z_anil, z_cons, z_cons1, z_cons1x, z_cons2, z_cons2x, z_args, z_args_ok, z_args_x, z_tup, z_tup_ok, z_fro, z_fro_ok, z_lst, z_lst_ok, z_call, z_stat, z_call_ok, z_callk, z_callk1, z_callk2, z_mkF, z_mkF_ok, z_own1, z_own1_ok, z_prop, z_own2, z_own2_ok, z_val, z_val_ok, z_val_x, z_and, z_and_t, z_and_f, z_or, z_or_t, z_or_f, z_not, z_not_ok, z_yes, z_eand, z_eand_t, z_eand_f, z_eor, z_eor_t, z_eor_f, z_enot, z_enot_ok, z_eif, z_eif_t, z_eif_f, z_for, z_for_v, z_iseq, z_iseq_t, z_iseq_f, z_iseq_r, z_rng, z_rng_ok, z_env0, z_try, z_try_nx, z_try_rt, z_try0, z_try0_nx, z_try0_rt, z_for_l, z_fv0, z_fv_nx, z_fv_ct, z_fv_rt, z_lc_v, z_step, z_step_ok, z_istr, z_istr_ok, z_env0, List.map_cons, List.map_nil, List.replicate, List.append_nil, Nat.reduceSub, List.cons_append, List.nil_append, List.length_cons, List.length_nil, Nat.reduceAdd, Nat.reduceLeDiff, List.getElem?_cons_zero, List.getElem?_cons_succ, List.set_cons_zero, List.set_cons_succ, Bool.not_true, Bool.not_false, m1, gt_int, abv]) (fun x hx _ acc => rfl) (by rw [List.length_map]; have := W.len; omega)
  rw [List.map_id'] at ht
  unfold m_Sessions_broken b_Sessions_broken
  rw [z_fn, show env0 4 [.ref so, .int (u : Nat), .int p] = [some (.ref so), some (.int (u : Nat)), some (.int p), none] from rfl, z_ret, ht]
  rfl
theorem above_run (a : At n M so dd mo ks ds sv nm pr) (W : WL ws) : ∃ G, m_law_above [.ref mo, .int (u : Nat), .tup (ws.map D.str), .int p] M = .ok (.tup (abvs ks ds u p ws)) (M ++ G) := by
  refine ⟨[.lst (abvs ks ds u p ws)], ?_⟩
  have hi : iSeq (eVar 2) [some (.ref mo), some (.int (u : Nat)), some (.tup (ws.map D.str)), some (.int p), none] M = .ok (.vals (ws.map D.str)) M := rfl
  have ht := tupc_if (i := 4) (tt := bVal (eBin dGt (eCall 3 m_law_mark (eCons (eVar 0) (eCons (eVar 1) (eCons (eVar 4) (eNil))))) (eVar 3))) (m := eVar 4) (vs := [4]) (p := abv ks ds u p) (g := fun x => x) hi (forall_strs fun w hw acc => by
    have a2 := a.ext (Ext.app (G := [.lst acc]))
    have m1 := lmark_run (u := u) (w := w) a2
    have hw2 : (wipe2 [some (D.ref mo), some (.int (u : Nat)), some (.tup (ws.map D.str)), some (.int p), none] [4]).set 4 (some (.str w)) = [some (.ref mo), some (.int (u : Nat)), some (.tup (ws.map D.str)), some (.int p), some (.str w)] := rfl
    rw [hw2]
    simp only [z_seq, z_seq_nx, z_seq_rt, z_seq_ex, z_seq_bk, z_seq_ct, z_if, z_if_t, z_if_f, z_if_x, z_set, z_set_ok, z_set_x, z_ret, z_ret_ok, z_ret_x, z_retN, z_do, z_do_ok, z_do_x, z_nil, z_raise0, z_raise, z_raise_ok, z_toR_rt, z_toR_nx, z_toR_ex, z_c, z_var, z_var_ok, z_un, z_un_ok, z_un_x, z_bin, z_bin_ok, z_bin_x, z_anil, z_cons, z_cons1, z_cons1x, z_cons2, z_cons2x, z_args, z_args_ok, z_args_x, z_tup, z_tup_ok, z_fro, z_fro_ok, z_lst, z_lst_ok, z_call, z_stat, z_call_ok, z_callk, z_callk1, z_callk2, z_mkF, z_mkF_ok, z_own1, z_own1_ok, z_prop, z_own2, z_own2_ok, z_val, z_val_ok, z_val_x, z_and, z_and_t, z_and_f, z_or, z_or_t, z_or_f, z_not, z_not_ok, z_yes, z_eand, z_eand_t, z_eand_f, z_eor, z_eor_t, z_eor_f, z_enot, z_enot_ok, z_eif, z_eif_t, z_eif_f, z_for, z_for_v, z_iseq, z_iseq_t, z_iseq_f, z_iseq_r, z_rng, z_rng_ok, z_env0, z_try, z_try_nx, z_try_rt, z_try0, z_try0_nx, z_try0_rt, z_for_l, z_fv0, z_fv_nx, z_fv_ct, z_fv_rt, z_lc_v, z_step, z_step_ok, z_istr, z_istr_ok, z_env0, List.map_cons, List.map_nil, List.replicate, List.append_nil, Nat.reduceSub, List.cons_append, List.nil_append, List.length_cons, List.length_nil, Nat.reduceAdd, Nat.reduceLeDiff, List.getElem?_cons_zero, List.getElem?_cons_succ, List.set_cons_zero, List.set_cons_succ, Bool.not_true, Bool.not_false, m1, gt_int, abv]) (fun x hx _ acc => rfl) (by rw [List.length_map]; have := W.len; omega)
  rw [List.map_id'] at ht
  unfold m_law_above b_law_above
  rw [z_fn, show env0 5 [.ref mo, .int (u : Nat), .tup (ws.map D.str), .int p] = [some (.ref mo), some (.int (u : Nat)), some (.tup (ws.map D.str)), some (.int p), none] from rfl, z_ret, ht]
  rfl
end
end K48
namespace K48
open PySem L2 T2
theorem blsOf_map {f : D → Bool} : ∀ l : List D, blsOf (l.map fun d => .bl (f d)) = some (l.map f)
  | [] => rfl
  | d :: l => by rw [List.map_cons, blsOf, blsOf_map l]; rfl
theorem all_it {it : Env2 → MH → Res IV} {e : Env2} {M : MH} {i : Nat} {m : EM} {vs : List Nat} {ds : List D} {f : D → Bool} (hi : it e M = .ok (.vals ds) M) (hf : ∀ x ∈ ds, ∀ acc, m ((wipe2 e vs).set i (some x)) (M ++ [.lst acc]) = .ok (.bl (f x)) (M ++ [.lst acc])) (hz : ds.length ≤ 1000) :
    eArgs (dAllB fun bs => bs.all id) (eCons (eLc it (tgName i) bYes m vs) eNil) e M = .ok (.bl (ds.all f)) (M ++ [.lst (ds.map fun d => .bl (f d))]) := by
  have h1 := lc_if (i := i) (tt := bYes) (m := m) (vs := vs) (p := fun _ => true) (g := fun d => .bl (f d)) hi (fun x _ acc => rfl) (fun x hx _ acc => hf x hx acc) hz
  have hfl : ds.filter (fun _ => true) = ds := List.filter_eq_self.mpr fun _ _ => rfl
  rw [hfl] at h1
  rw [z_args, z_cons, h1, z_cons1, z_anil, z_cons2, z_args_ok]
  unfold dAllB
  dsimp only
  have : listItems (M ++ [.lst (ds.map fun d => .bl (f d))]) (.ref M.length) = some (ds.map fun d => .bl (f d)) := by unfold listItems; dsimp only; simp
  rw [this]
  dsimp only
  rw [blsOf_map]
  dsimp only
  rw [List.all_map]
  rfl
theorem three {p : D → Prop} (h : ∀ o : Nat, o < 3 → p (.int (o : Nat))) : ∀ x ∈ [D.int 0, .int 1, .int 2], p x := by
  intro x hx
  simp only [List.mem_cons, List.not_mem_nil, or_false] at hx
  rcases hx with rfl | rfl | rfl
  · exact h 0 (by omega)
  · exact h 1 (by omega)
  · exact h 2 (by omega)
section
variable {n so dd mo u : Nat} {M M' : MH} {ks : List (List Key)} {ds : List D} {sv : D} {nm pr ws : List Str} {w : Str} {p : Int}
theorem lets_run (a : At n M so dd mo ks ds sv nm pr) (W : WL nm) : ∃ G, m_Sessions_lets [.ref so, .int (u : Nat), .int p] M = .ok (.bl ((nm.map D.str).all fun d => !abv ks ds u p d)) (M ++ G) := by
  have f1 := fld_M (cs := [1]) (f := "book") (d := .ref 1) a.s rfl rfl
  have f2 := fld_M (cs := [14]) (f := "marks") (d := .tup (nm.map D.str)) a.b rfl rfl
  have hi : iSeq (eUn (dFld [14] "marks") (eUn (dFld [1] "book") (eVar 0))) [some (.ref so), some (.int (u : Nat)), some (.int p), none] M = .ok (.vals (nm.map D.str)) M := by simp only [z_seq, z_seq_nx, z_seq_rt, z_seq_ex, z_seq_bk, z_seq_ct, z_if, z_if_t, z_if_f, z_if_x, z_set, z_set_ok, z_set_x, z_ret, z_ret_ok, z_ret_x, z_retN, z_do, z_do_ok, z_do_x, z_nil, z_raise0, z_raise, z_raise_ok, z_toR_rt, z_toR_nx, z_toR_ex, z_c, z_var, z_var_ok, z_un, z_un_ok, z_un_x, z_bin, z_bin_ok, z_bin_x, z_anil, z_cons, z_cons1, z_cons1x, z_cons2, z_cons2x, z_args, z_args_ok, z_args_x, z_tup, z_tup_ok, z_fro, z_fro_ok, z_lst, z_lst_ok, z_call, z_stat, z_call_ok, z_callk, z_callk1, z_callk2, z_mkF, z_mkF_ok, z_own1, z_own1_ok, z_prop, z_own2, z_own2_ok, z_val, z_val_ok, z_val_x, z_and, z_and_t, z_and_f, z_or, z_or_t, z_or_f, z_not, z_not_ok, z_yes, z_eand, z_eand_t, z_eand_f, z_eor, z_eor_t, z_eor_f, z_enot, z_enot_ok, z_eif, z_eif_t, z_eif_f, z_for, z_for_v, z_iseq, z_iseq_t, z_iseq_f, z_iseq_r, z_rng, z_rng_ok, z_env0, z_try, z_try_nx, z_try_rt, z_try0, z_try0_nx, z_try0_rt, z_for_l, z_fv0, z_fv_nx, z_fv_ct, z_fv_rt, z_lc_v, z_step, z_step_ok, z_istr, z_istr_ok, z_env0, List.map_cons, List.map_nil, List.replicate, List.append_nil, Nat.reduceSub, List.cons_append, List.nil_append, List.length_cons, List.length_nil, Nat.reduceAdd, Nat.reduceLeDiff, List.getElem?_cons_zero, List.getElem?_cons_succ, List.set_cons_zero, List.set_cons_succ, Bool.not_true, Bool.not_false, f1, f2]
  have ht := all_it (i := 3) (m := eBin dLe (eMeth 1 "mark" 3 m_Sessions_mark (eVar 0) (eCons (eVar 1) (eCons (eVar 3) (eNil)))) (eVar 2)) (vs := [3]) (f := fun d => !abv ks ds u p d) hi (forall_strs fun w hw acc => by
    have a2 := a.ext (Ext.app (G := [.lst acc]))
    have m1 := meth_run (c := 1) (m := "mark") (n := 3) (f := m_Sessions_mark) (mo := eVar 0) (ma := eCons (eVar 1) (eCons (eVar 3) (eNil))) (e := [some (.ref so), some (.int (u : Nat)), some (.int p), some (.str w)]) (M := M ++ [.lst acc]) rfl a2.ob (by decide +kernel) rfl rfl (mark_run (u := u) (w := w) a2)
    have hw2 : (wipe2 [some (D.ref so), some (.int (u : Nat)), some (.int p), none] [3]).set 3 (some (.str w)) = [some (.ref so), some (.int (u : Nat)), some (.int p), some (.str w)] := rfl
    have hb : (!abv ks ds u p (.str w)) = decide (hv ks ds (ky u w) ≤ p) := by
      unfold abv
      by_cases h : p < hv ks ds (ky u w)
      · have : ¬ hv ks ds (ky u w) ≤ p := by omega
        simp [h, this]
      · have : hv ks ds (ky u w) ≤ p := by omega
        simp [h, this]
    rw [hw2, hb]
    simp only [z_seq, z_seq_nx, z_seq_rt, z_seq_ex, z_seq_bk, z_seq_ct, z_if, z_if_t, z_if_f, z_if_x, z_set, z_set_ok, z_set_x, z_ret, z_ret_ok, z_ret_x, z_retN, z_do, z_do_ok, z_do_x, z_nil, z_raise0, z_raise, z_raise_ok, z_toR_rt, z_toR_nx, z_toR_ex, z_c, z_var, z_var_ok, z_un, z_un_ok, z_un_x, z_bin, z_bin_ok, z_bin_x, z_anil, z_cons, z_cons1, z_cons1x, z_cons2, z_cons2x, z_args, z_args_ok, z_args_x, z_tup, z_tup_ok, z_fro, z_fro_ok, z_lst, z_lst_ok, z_call, z_stat, z_call_ok, z_callk, z_callk1, z_callk2, z_mkF, z_mkF_ok, z_own1, z_own1_ok, z_prop, z_own2, z_own2_ok, z_val, z_val_ok, z_val_x, z_and, z_and_t, z_and_f, z_or, z_or_t, z_or_f, z_not, z_not_ok, z_yes, z_eand, z_eand_t, z_eand_f, z_eor, z_eor_t, z_eor_f, z_enot, z_enot_ok, z_eif, z_eif_t, z_eif_f, z_for, z_for_v, z_iseq, z_iseq_t, z_iseq_f, z_iseq_r, z_rng, z_rng_ok, z_env0, z_try, z_try_nx, z_try_rt, z_try0, z_try0_nx, z_try0_rt, z_for_l, z_fv0, z_fv_nx, z_fv_ct, z_fv_rt, z_lc_v, z_step, z_step_ok, z_istr, z_istr_ok, z_env0, List.map_cons, List.map_nil, List.replicate, List.append_nil, Nat.reduceSub, List.cons_append, List.nil_append, List.length_cons, List.length_nil, Nat.reduceAdd, Nat.reduceLeDiff, List.getElem?_cons_zero, List.getElem?_cons_succ, List.set_cons_zero, List.set_cons_succ, Bool.not_true, Bool.not_false, m1, le_int]) (by rw [List.length_map]; have := W.len; omega)
  refine ⟨[.lst ((nm.map D.str).map fun d => .bl (!abv ks ds u p d))], ?_⟩
  unfold m_Sessions_lets b_Sessions_lets
  rw [z_fn, show env0 4 [.ref so, .int (u : Nat), .int p] = [some (.ref so), some (.int (u : Nat)), some (.int p), none] from rfl, z_ret, ht]
  rfl
theorem none_above {f : D → Bool} : ∀ l : List D, (l.filter f = []) ↔ (l.all fun d => !f d) = true
  | [] => by simp
  | d :: l => by
    rw [List.filter_cons, List.all_cons]
    cases h : f d
    · simp [none_above l]
    · simp
theorem pd_abvs (W : WL ws) : Pd 6 (.tup (abvs ks ds u p ws)) := pd_tup (Nat.le_trans (List.length_filter_le _ _) (by rw [List.length_map]; have := W.len; omega)) fun d hd => by
  obtain ⟨w, hw, rfl⟩ := List.mem_map.mp (List.mem_filter.mp hd).1
  exact pd_str (W.ok w hw)
theorem eq_nil {xs : List D} (h : Pd 6 (.tup xs)) {M : MH} : dEq (.tup xs) (.tup []) M = .ok (.bl (decide (xs = []))) M := by
  obtain ⟨b, hb⟩ := eq_pd (by decide) h (pd_tup (xs := []) (by simp) (by simp) : Pd 6 (.tup []))
  rw [hb M]
  congr 2
  cases xs with
  | nil =>
    have := hb []
    have h2 : dEq (.tup []) (.tup []) [] = .ok (.bl true) [] := by kernel_rfl
    rw [h2] at this
    cases this
    rfl
  | cons x xs =>
    obtain ⟨pp, h1, h2, h3⟩ := pd_P h
    have e1 := h1 (rfOf [] 4)
    rw [toPa] at e1
    obtain ⟨ps, hp, rfl⟩ := Option.map_eq_some_iff.mp e1
    have hps : ps ≠ [] := fun z => by
      subst z
      unfold toPas at hp
      cases ha : toPa (rfOf [] 4) x with
      | none => rw [ha] at hp; cases hp
      | some y => cases hb2 : toPas (rfOf [] 4) xs with
        | none => rw [ha, hb2] at hp; cases hp
        | some ys => rw [ha, hb2] at hp; cases hp
    have hq := hb []
    unfold dEq toP at hq
    rw [h1, show toPa (rfOf [] 4) (.tup []) = some (.tuple []) from rfl] at hq
    dsimp only at hq
    split at hq
    · cases hq
      cases ps with
      | nil => exact absurd rfl hps
      | cons q ps => simp [PyData.eqv, PyData.eqvAll]
    · cases hq
/-- all that is asked of one table of marks -/
theorem fit_run {ps : List Int} (a : At n M so dd mo ks ds sv nm pr) (Wn : WL nm) (Wp : WL pr) (hl : ps.length ≤ 1000) : ∃ G, m_law_all_fit [.ref so, .ref mo, .tup (pr.map D.str), .tup (nm.map D.str), .fro (ps.map D.int)] M = .ok (.bl true) (M ++ G) := by
  have k_own : PyData.strOk ("own" : Str) = true := by decide +kernel
  -- the marks
  have l1 : ∀ (o : Nat) (M1 : MH) (a6 a7 : Option D), Ext M M1 → ∃ b6, forV (tgName 6) lp_law_all_fit_1 [.str "own", .str "seen", .str "main"] [some (.ref so), some (.ref mo), some (.tup (pr.map D.str)), some (.tup (nm.map D.str)), some (.fro (ps.map D.int)), some (.int (o : Nat)), a6, a7] M1 = .nx [some (.ref so), some (.ref mo), some (.tup (pr.map D.str)), some (.tup (nm.map D.str)), some (.fro (ps.map D.int)), some (.int (o : Nat)), b6, a7] M1 := by
    intro o M1 a6 a7 x1
    have a1 := a.ext x1
    have turn : ∀ (w : Str), lp_law_all_fit_1 [some (.ref so), some (.ref mo), some (.tup (pr.map D.str)), some (.tup (nm.map D.str)), some (.fro (ps.map D.int)), some (.int (o : Nat)), some (.str w), a7] M1 = .nx [some (.ref so), some (.ref mo), some (.tup (pr.map D.str)), some (.tup (nm.map D.str)), some (.fro (ps.map D.int)), some (.int (o : Nat)), some (.str w), a7] M1 := fun w => by
      have m1 := meth_run (c := 1) (m := "mark") (n := 3) (f := m_Sessions_mark) (mo := eVar 0) (ma := eCons (eVar 5) (eCons (eVar 6) (eNil))) (e := [some (.ref so), some (.ref mo), some (.tup (pr.map D.str)), some (.tup (nm.map D.str)), some (.fro (ps.map D.int)), some (.int (o : Nat)), some (.str w), a7]) (M := M1) rfl a1.ob (by decide +kernel) rfl rfl (mark_run (u := o) (w := w) a1)
      have m2 := lmark_run (u := o) (w := w) a1
      have s1 : m_law_alike 6 [.int (hv ks ds (ky o w)), .int (hv ks ds (ky o w))] M1 = .ok (.bl true) M1 := alike_ok (same_pd pd_int)
      rw [lp_law_all_fit_1]
      simp only [z_seq, z_seq_nx, z_seq_rt, z_seq_ex, z_seq_bk, z_seq_ct, z_if, z_if_t, z_if_f, z_if_x, z_set, z_set_ok, z_set_x, z_ret, z_ret_ok, z_ret_x, z_retN, z_do, z_do_ok, z_do_x, z_nil, z_raise0, z_raise, z_raise_ok, z_toR_rt, z_toR_nx, z_toR_ex, z_c, z_var, z_var_ok, z_un, z_un_ok, z_un_x, z_bin, z_bin_ok, z_bin_x, z_anil, z_cons, z_cons1, z_cons1x, z_cons2, z_cons2x, z_args, z_args_ok, z_args_x, z_tup, z_tup_ok, z_fro, z_fro_ok, z_lst, z_lst_ok, z_call, z_stat, z_call_ok, z_callk, z_callk1, z_callk2, z_mkF, z_mkF_ok, z_own1, z_own1_ok, z_prop, z_own2, z_own2_ok, z_val, z_val_ok, z_val_x, z_and, z_and_t, z_and_f, z_or, z_or_t, z_or_f, z_not, z_not_ok, z_yes, z_eand, z_eand_t, z_eand_f, z_eor, z_eor_t, z_eor_f, z_enot, z_enot_ok, z_eif, z_eif_t, z_eif_f, z_for, z_for_v, z_iseq, z_iseq_t, z_iseq_f, z_iseq_r, z_rng, z_rng_ok, z_env0, z_try, z_try_nx, z_try_rt, z_try0, z_try0_nx, z_try0_rt, z_for_l, z_fv0, z_fv_nx, z_fv_ct, z_fv_rt, z_lc_v, z_step, z_step_ok, z_istr, z_istr_ok, z_env0, List.map_cons, List.map_nil, List.replicate, List.append_nil, Nat.reduceSub, List.cons_append, List.nil_append, List.length_cons, List.length_nil, Nat.reduceAdd, Nat.reduceLeDiff, List.getElem?_cons_zero, List.getElem?_cons_succ, List.set_cons_zero, List.set_cons_succ, Bool.not_true, Bool.not_false, m1, m2, s1]
    refine ⟨some (.str "main"), ?_⟩
    rw [z_fv]; simp only [List.set_cons_succ, List.set_cons_zero]
    rw [turn, z_fv_nx, z_fv]; simp only [List.set_cons_succ, List.set_cons_zero]
    rw [turn, z_fv_nx, z_fv]; simp only [List.set_cons_succ, List.set_cons_zero]
    rw [turn, z_fv_nx, z_fv0]
  -- one position
  have l2 : ∀ (o : Nat) (q : Int) (G1 : MH) (a6 : Option D), ∃ G2, lp_law_all_fit_2 [some (.ref so), some (.ref mo), some (.tup (pr.map D.str)), some (.tup (nm.map D.str)), some (.fro (ps.map D.int)), some (.int (o : Nat)), a6, some (.int q)] (M ++ G1) = .nx [some (.ref so), some (.ref mo), some (.tup (pr.map D.str)), some (.tup (nm.map D.str)), some (.fro (ps.map D.int)), some (.int (o : Nat)), a6, some (.int q)] (M ++ G2) := by
    intro o q G1 a6
    have a1 := a.ext (Ext.app (G := G1))
    obtain ⟨g1, e1⟩ := broken_run (u := o) (p := q) a1 Wp
    have a2 := a1.ext (Ext.app (G := g1))
    obtain ⟨g2, e2⟩ := above_run (u := o) (p := q) a2 Wp
    have a3 := a2.ext (Ext.app (G := g2))
    obtain ⟨g3, e3⟩ := lets_run (u := o) (p := q) a3 Wn
    have a4 := a3.ext (Ext.app (G := g3))
    obtain ⟨g4, e4⟩ := above_run (u := o) (p := q) a4 Wn
    have m1 := meth_run (c := 1) (m := "broken") (n := 3) (f := m_Sessions_broken) (mo := eVar 0) (ma := eCons (eVar 5) (eCons (eVar 7) (eNil))) (e := [some (.ref so), some (.ref mo), some (.tup (pr.map D.str)), some (.tup (nm.map D.str)), some (.fro (ps.map D.int)), some (.int (o : Nat)), a6, some (.int q)]) (M := M ++ G1) rfl a1.ob (by decide +kernel) rfl rfl e1
    have m3 := meth_run (c := 1) (m := "lets") (n := 3) (f := m_Sessions_lets) (mo := eVar 0) (ma := eCons (eVar 5) (eCons (eVar 7) (eNil))) (e := [some (.ref so), some (.ref mo), some (.tup (pr.map D.str)), some (.tup (nm.map D.str)), some (.fro (ps.map D.int)), some (.int (o : Nat)), a6, some (.int q)]) (M := M ++ G1 ++ g1 ++ g2) rfl a3.ob (by decide +kernel) rfl rfl e3
    have s2 : m_law_alike 6 [.tup (abvs ks ds o q pr), .tup (abvs ks ds o q pr)] (M ++ G1 ++ g1 ++ g2) = .ok (.bl true) (M ++ G1 ++ g1 ++ g2) := alike_ok (same_pd (pd_abvs Wp))
    have hq : decide (abvs ks ds o q nm = []) = (nm.map D.str).all fun d => !abv ks ds o q d := by
      unfold abvs
      cases hb : (nm.map D.str).all fun d => !abv ks ds o q d
      · have : ¬ (nm.map D.str).filter (abv ks ds o q) = [] := fun z => by rw [none_above] at z; rw [z] at hb; cases hb
        simp [this]
      · have := (none_above (f := abv ks ds o q) (nm.map D.str)).mpr hb
        simp [this]
    have q4 := eq_nil (pd_abvs (ks := ks) (ds := ds) (u := o) (p := q) Wn) (M := M ++ G1 ++ g1 ++ g2 ++ g3 ++ g4)
    rw [hq] at q4
    have s4 : ∀ b M, m_law_alike 6 [.bl b, .bl b] M = .ok (.bl true) M := fun b M => alike_ok (.inr (.inl ⟨b, rfl, rfl⟩))
    refine ⟨G1 ++ g1 ++ g2 ++ g3 ++ g4, ?_⟩
    rw [lp_law_all_fit_2]
    simp only [z_seq, z_seq_nx, z_seq_rt, z_seq_ex, z_seq_bk, z_seq_ct, z_if, z_if_t, z_if_f, z_if_x, z_set, z_set_ok, z_set_x, z_ret, z_ret_ok, z_ret_x, z_retN, z_do, z_do_ok, z_do_x, z_nil, z_raise0, z_raise, z_raise_ok, z_toR_rt, z_toR_nx, z_toR_ex, z_c, z_var, z_var_ok, z_un, z_un_ok, z_un_x, z_bin, z_bin_ok, z_bin_x, z_anil, z_cons, z_cons1, z_cons1x, z_cons2, z_cons2x, z_args, z_args_ok, z_args_x, z_tup, z_tup_ok, z_fro, z_fro_ok, z_lst, z_lst_ok, z_call, z_stat, z_call_ok, z_callk, z_callk1, z_callk2, z_mkF, z_mkF_ok, z_own1, z_own1_ok, z_prop, z_own2, z_own2_ok, z_val, z_val_ok, z_val_x, z_and, z_and_t, z_and_f, z_or, z_or_t, z_or_f, z_not, z_not_ok, z_yes, z_eand, z_eand_t, z_eand_f, z_eor, z_eor_t, z_eor_f, z_enot, z_enot_ok, z_eif, z_eif_t, z_eif_f, z_for, z_for_v, z_iseq, z_iseq_t, z_iseq_f, z_iseq_r, z_rng, z_rng_ok, z_env0, z_try, z_try_nx, z_try_rt, z_try0, z_try0_nx, z_try0_rt, z_for_l, z_fv0, z_fv_nx, z_fv_ct, z_fv_rt, z_lc_v, z_step, z_step_ok, z_istr, z_istr_ok, z_env0, List.map_cons, List.map_nil, List.replicate, List.append_nil, Nat.reduceSub, List.cons_append, List.nil_append, List.length_cons, List.length_nil, Nat.reduceAdd, Nat.reduceLeDiff, List.getElem?_cons_zero, List.getElem?_cons_succ, List.set_cons_zero, List.set_cons_succ, Bool.not_true, Bool.not_false, m1, e2, s2, m3, e4, q4, s4]
    simp only [List.append_assoc]
  obtain ⟨e', M', e1, ⟨b5, b6, b7, rfl⟩, G, rfl⟩ := loop_mem (body := lp_law_all_fit_3) (tg := tgName 5) (I := fun e M' => (∃ b5 b6 b7, e = [some (.ref so), some (.ref mo), some (.tup (pr.map D.str)), some (.tup (nm.map D.str)), some (.fro (ps.map D.int)), b5, b6, b7]) ∧ ∃ G, M' = M ++ G) [.int 0, .int 1, .int 2] [some (.ref so), some (.ref mo), some (.tup (pr.map D.str)), some (.tup (nm.map D.str)), some (.fro (ps.map D.int)), none, none, none] M ⟨⟨_, _, _, rfl⟩, [], by simp⟩
    (three (p := fun p => ∀ e M1, ((∃ b5 b6 b7, e = [some (.ref so), some (.ref mo), some (.tup (pr.map D.str)), some (.tup (nm.map D.str)), some (.fro (ps.map D.int)), b5, b6, b7]) ∧ ∃ G, M1 = M ++ G) → ∃ e1 e2 M2, tgName 5 p e = some e1 ∧ lp_law_all_fit_3 e1 M1 = .nx e2 M2 ∧ (∃ b5 b6 b7, e2 = [some (.ref so), some (.ref mo), some (.tup (pr.map D.str)), some (.tup (nm.map D.str)), some (.fro (ps.map D.int)), b5, b6, b7]) ∧ ∃ G, M2 = M ++ G) fun o ho e M1 => by
      rintro ⟨⟨b5, b6, b7, rfl⟩, G, rfl⟩
      obtain ⟨c6, f1⟩ := l1 o (M ++ G) b6 b7 .app
      obtain ⟨e', M', e2, ⟨d7, rfl⟩, G', rfl⟩ := loop_mem (body := lp_law_all_fit_2) (tg := tgName 7) (I := fun e M' => (∃ d7, e = [some (.ref so), some (.ref mo), some (.tup (pr.map D.str)), some (.tup (nm.map D.str)), some (.fro (ps.map D.int)), some (.int (o : Nat)), c6, d7]) ∧ ∃ G, M' = M ++ G) (ps.map D.int) [some (.ref so), some (.ref mo), some (.tup (pr.map D.str)), some (.tup (nm.map D.str)), some (.fro (ps.map D.int)), some (.int (o : Nat)), c6, b7] (M ++ G) ⟨⟨_, rfl⟩, G, rfl⟩ (by
        rintro x hx e M1 ⟨⟨d7, rfl⟩, G1, rfl⟩
        obtain ⟨q, hq, rfl⟩ := List.mem_map.mp hx
        obtain ⟨G2, e3⟩ := l2 o q G1 c6
        exact ⟨_, _, _, rfl, e3, ⟨_, rfl⟩, G2, rfl⟩)
      refine ⟨_, [some (.ref so), some (.ref mo), some (.tup (pr.map D.str)), some (.tup (nm.map D.str)), some (.fro (ps.map D.int)), some (.int (o : Nat)), c6, d7], M ++ G', rfl, ?_, ⟨_, _, _, rfl⟩, G', rfl⟩
      rw [lp_law_all_fit_3]
      exact seq_run (for_nx (ds := [.str "own", .str "seen", .str "main"]) rfl f1) (for_nx (ds := ps.map D.int) rfl e2))
  refine ⟨G, ?_⟩
  unfold m_law_all_fit b_law_all_fit
  rw [z_fn, show env0 8 [.ref so, .ref mo, .tup (pr.map D.str), .tup (nm.map D.str), .fro (ps.map D.int)] = [some (.ref so), some (.ref mo), some (.tup (pr.map D.str)), some (.tup (nm.map D.str)), some (.fro (ps.map D.int)), none, none, none] from rfl]
  exact congrArg toR (seq_run (for_nx (ds := [.int 0, .int 1, .int 2]) rfl e1) (ret_rt rfl))
end
end K48
namespace K48
open PySem L2 T2
/-! ### marks are raised -/
def mx (i j : Int) : Int := if j > i then j else i
def pk (u : Nat) (w : Str) (p : Int) (ks : List (List Key)) (ds : List D) : List (List Key) := (kPutD (ky u w) (.int (mx (hv ks ds (ky u w)) p)) ks ds).1
def pd (u : Nat) (w : Str) (p : Int) (ks : List (List Key)) (ds : List D) : List D := (kPutD (ky u w) (.int (mx (hv ks ds (ky u w)) p)) ks ds).2
theorem p_ok {n u : Nat} {w : Str} {p : Int} {ks : List (List Key)} {ds : List D} (h : DOk n ks ds) : DOk (n + 1) (pk u w p ks ds) (pd u w p ks ds) := h.put _ _
theorem max_is {i j : Int} {M : MH} : dMax2 [.int i, .int j] M = .ok (.int (mx i j)) M := rfl
section
variable {n so dd mo u : Nat} {M : MH} {ks : List (List Key)} {ds : List D} {sv : D} {nm pr ws : List Str} {w : Str} {p : Int}
theorem sett {k : List Key} {v : D} (h : M[dd]? = some (.dt ks ds)) (hl : ds.length ≤ 1000) : dSetT (.ref dd) (.tk k) v M = some (M.set dd (.dt (kPutD k v ks ds).1 (kPutD k v ks ds).2)) := by
  unfold dSetT; dsimp only; rw [h]; dsimp only; rw [if_pos hl]
theorem raise_run (a : At n M so dd mo ks ds sv nm pr) (hn : n ≤ 900) : m_Sessions_raise_mark [.ref so, .int (u : Nat), .str w, .int p] M = .ok .non (M.set dd (.dt (pk u w p ks ds) (pd u w p ks ds))) := by
  have f1 := fld_M (cs := [1]) (f := "heights") (d := .ref dd) a.s rfl rfl
  have m1 := meth_run (c := 1) (m := "mark") (n := 3) (f := m_Sessions_mark) (mo := eVar 0) (ma := eCons (eVar 1) (eCons (eVar 2) (eNil))) (e := [some (.ref so), some (.int (u : Nat)), some (.str w), some (.int p)]) (M := M) rfl a.ob (by decide +kernel) rfl rfl (mark_run (u := u) (w := w) a)
  have s1 := setix_run (f := dSetT) (e := [some (.ref so), some (.int (u : Nat)), some (.str w), some (.int p)]) (M := M) (mo := eUn (dFld [1] "heights") (eVar 0)) (mi := eTk (eCons (eVar 1) (eCons (eVar 2) (eNil)))) (mv := eArgs dMax2 (eCons (eMeth 1 "mark" 3 m_Sessions_mark (eVar 0) (eCons (eVar 1) (eCons (eVar 2) (eNil)))) (eCons (eVar 3) (eNil)))) (v := .int (mx (hv ks ds (ky u w)) p)) (by simp only [z_seq, z_seq_nx, z_seq_rt, z_seq_ex, z_seq_bk, z_seq_ct, z_if, z_if_t, z_if_f, z_if_x, z_set, z_set_ok, z_set_x, z_ret, z_ret_ok, z_ret_x, z_retN, z_do, z_do_ok, z_do_x, z_nil, z_raise0, z_raise, z_raise_ok, z_toR_rt, z_toR_nx, z_toR_ex, z_c, z_var, z_var_ok, z_un, z_un_ok, z_un_x, z_bin, z_bin_ok, z_bin_x, z_anil, z_cons, z_cons1, z_cons1x, z_cons2, z_cons2x, z_args, z_args_ok, z_args_x, z_tup, z_tup_ok, z_fro, z_fro_ok, z_lst, z_lst_ok, z_call, z_stat, z_call_ok, z_callk, z_callk1, z_callk2, z_mkF, z_mkF_ok, z_own1, z_own1_ok, z_prop, z_own2, z_own2_ok, z_val, z_val_ok, z_val_x, z_and, z_and_t, z_and_f, z_or, z_or_t, z_or_f, z_not, z_not_ok, z_yes, z_eand, z_eand_t, z_eand_f, z_eor, z_eor_t, z_eor_f, z_enot, z_enot_ok, z_eif, z_eif_t, z_eif_f, z_for, z_for_v, z_iseq, z_iseq_t, z_iseq_f, z_iseq_r, z_rng, z_rng_ok, z_env0, z_try, z_try_nx, z_try_rt, z_try0, z_try0_nx, z_try0_rt, z_for_l, z_fv0, z_fv_nx, z_fv_ct, z_fv_rt, z_lc_v, z_step, z_step_ok, z_istr, z_istr_ok, z_env0, List.map_cons, List.map_nil, List.replicate, List.append_nil, Nat.reduceSub, List.cons_append, List.nil_append, List.length_cons, List.length_nil, Nat.reduceAdd, Nat.reduceLeDiff, List.getElem?_cons_zero, List.getElem?_cons_succ, List.set_cons_zero, List.set_cons_succ, Bool.not_true, Bool.not_false, m1, max_is]) (by simp only [z_seq, z_seq_nx, z_seq_rt, z_seq_ex, z_seq_bk, z_seq_ct, z_if, z_if_t, z_if_f, z_if_x, z_set, z_set_ok, z_set_x, z_ret, z_ret_ok, z_ret_x, z_retN, z_do, z_do_ok, z_do_x, z_nil, z_raise0, z_raise, z_raise_ok, z_toR_rt, z_toR_nx, z_toR_ex, z_c, z_var, z_var_ok, z_un, z_un_ok, z_un_x, z_bin, z_bin_ok, z_bin_x, z_anil, z_cons, z_cons1, z_cons1x, z_cons2, z_cons2x, z_args, z_args_ok, z_args_x, z_tup, z_tup_ok, z_fro, z_fro_ok, z_lst, z_lst_ok, z_call, z_stat, z_call_ok, z_callk, z_callk1, z_callk2, z_mkF, z_mkF_ok, z_own1, z_own1_ok, z_prop, z_own2, z_own2_ok, z_val, z_val_ok, z_val_x, z_and, z_and_t, z_and_f, z_or, z_or_t, z_or_f, z_not, z_not_ok, z_yes, z_eand, z_eand_t, z_eand_f, z_eor, z_eor_t, z_eor_f, z_enot, z_enot_ok, z_eif, z_eif_t, z_eif_f, z_for, z_for_v, z_iseq, z_iseq_t, z_iseq_f, z_iseq_r, z_rng, z_rng_ok, z_env0, z_try, z_try_nx, z_try_rt, z_try0, z_try0_nx, z_try0_rt, z_for_l, z_fv0, z_fv_nx, z_fv_ct, z_fv_rt, z_lc_v, z_step, z_step_ok, z_istr, z_istr_ok, z_env0, List.map_cons, List.map_nil, List.replicate, List.append_nil, Nat.reduceSub, List.cons_append, List.nil_append, List.length_cons, List.length_nil, Nat.reduceAdd, Nat.reduceLeDiff, List.getElem?_cons_zero, List.getElem?_cons_succ, List.set_cons_zero, List.set_cons_succ, Bool.not_true, Bool.not_false, f1]) (tk_run rfl rfl) (sett a.d (by have := a.k.sz; omega))
  unfold m_Sessions_raise_mark b_Sessions_raise_mark
  rw [z_fn, show env0 4 [.ref so, .int (u : Nat), .str w, .int p] = [some (.ref so), some (.int (u : Nat)), some (.str w), some (.int p)] from rfl, s1]
  rfl
theorem lmark2 (h : M[mo]? = some (.dt ks ds)) (k : DOk n ks ds) : m_law_mark [.ref mo, .int (u : Nat), .str w] M = .ok (.int (hv ks ds (ky u w))) M := by
  unfold m_law_mark b_law_mark
  rw [z_fn, show env0 3 [.ref mo, .int (u : Nat), .str w] = [some (.ref mo), some (.int (u : Nat)), some (.str w)] from rfl, z_ret, dgett (var_ok rfl) h (tk_run rfl rfl) rfl, k.get, z_ret_ok, z_toR_rt]
theorem rise_run (h : M[mo]? = some (.dt ks ds)) (k : DOk n ks ds) (hn : n ≤ 900) : m_law_rise [.ref mo, .int (u : Nat), .str w, .int p] M = .ok .non (M.set mo (.dt (pk u w p ks ds) (pd u w p ks ds))) := by
  have m1 := lmark2 (u := u) (w := w) h k
  have s1 := setix_run (f := dSetT) (e := [some (.ref mo), some (.int (u : Nat)), some (.str w), some (.int p)]) (M := M) (mo := eVar 0) (mi := eTk (eCons (eVar 1) (eCons (eVar 2) (eNil)))) (mv := eArgs dMax2 (eCons (eCall 3 m_law_mark (eCons (eVar 0) (eCons (eVar 1) (eCons (eVar 2) (eNil))))) (eCons (eVar 3) (eNil)))) (v := .int (mx (hv ks ds (ky u w)) p)) (by simp only [z_seq, z_seq_nx, z_seq_rt, z_seq_ex, z_seq_bk, z_seq_ct, z_if, z_if_t, z_if_f, z_if_x, z_set, z_set_ok, z_set_x, z_ret, z_ret_ok, z_ret_x, z_retN, z_do, z_do_ok, z_do_x, z_nil, z_raise0, z_raise, z_raise_ok, z_toR_rt, z_toR_nx, z_toR_ex, z_c, z_var, z_var_ok, z_un, z_un_ok, z_un_x, z_bin, z_bin_ok, z_bin_x, z_anil, z_cons, z_cons1, z_cons1x, z_cons2, z_cons2x, z_args, z_args_ok, z_args_x, z_tup, z_tup_ok, z_fro, z_fro_ok, z_lst, z_lst_ok, z_call, z_stat, z_call_ok, z_callk, z_callk1, z_callk2, z_mkF, z_mkF_ok, z_own1, z_own1_ok, z_prop, z_own2, z_own2_ok, z_val, z_val_ok, z_val_x, z_and, z_and_t, z_and_f, z_or, z_or_t, z_or_f, z_not, z_not_ok, z_yes, z_eand, z_eand_t, z_eand_f, z_eor, z_eor_t, z_eor_f, z_enot, z_enot_ok, z_eif, z_eif_t, z_eif_f, z_for, z_for_v, z_iseq, z_iseq_t, z_iseq_f, z_iseq_r, z_rng, z_rng_ok, z_env0, z_try, z_try_nx, z_try_rt, z_try0, z_try0_nx, z_try0_rt, z_for_l, z_fv0, z_fv_nx, z_fv_ct, z_fv_rt, z_lc_v, z_step, z_step_ok, z_istr, z_istr_ok, z_env0, List.map_cons, List.map_nil, List.replicate, List.append_nil, Nat.reduceSub, List.cons_append, List.nil_append, List.length_cons, List.length_nil, Nat.reduceAdd, Nat.reduceLeDiff, List.getElem?_cons_zero, List.getElem?_cons_succ, List.set_cons_zero, List.set_cons_succ, Bool.not_true, Bool.not_false, m1, max_is]) rfl (tk_run rfl rfl) (sett h (by have := k.sz; omega))
  unfold m_law_rise b_law_rise
  rw [z_fn, show env0 4 [.ref mo, .int (u : Nat), .str w, .int p] = [some (.ref mo), some (.int (u : Nat)), some (.str w), some (.int p)] from rfl, s1]
  rfl
end
/-! ### the whole -/
def bkO (sv : D) (nm pr : List Str) : MO := .ob 14 bN [sv, .tup (nm.map D.str), .tup (pr.map D.str), .bl true, .str "own", .str "own"]
def mm (b : MO) (sv : D) (nm pr : List Str) (ks : List (List Key)) (ds : List D) (ks2 : List (List Key)) (ds2 : List D) (G : MH) : MH := b :: bkO sv nm pr :: .ob 1 sN [.ref 1, .ref 3] :: .dt ks ds :: .ob 1 sN [.ref 1, .ref 5] :: .dt [] [] :: .dt ks2 ds2 :: G
section
variable {n u : Nat} {b : MO} {ks ks2 : List (List Key)} {ds ds2 : List D} {sv : D} {nm pr ws : List Str} {w : Str} {p : Int} {G : MH}
theorem mm_t (k : DOk n ks ds) : At n (mm b sv nm pr ks ds ks2 ds2 G) 2 3 3 ks ds sv nm pr := ⟨rfl, rfl, rfl, rfl, k⟩
theorem mm_a (k : DOk n ks ds) : At n (mm b sv nm pr ks ds ks ds G) 2 3 6 ks ds sv nm pr := ⟨rfl, rfl, rfl, rfl, k⟩
theorem mm_raise (k : DOk n ks ds) (hn : n ≤ 900) : m_Sessions_raise_mark [.ref 2, .int (u : Nat), .str w, .int p] (mm b sv nm pr ks ds ks2 ds2 G) = .ok .non (mm b sv nm pr (pk u w p ks ds) (pd u w p ks ds) ks2 ds2 G) := raise_run (mm_t k) hn
theorem mm_rise (k : DOk n ks2 ds2) (hn : n ≤ 900) : m_law_rise [.ref 6, .int (u : Nat), .str w, .int p] (mm b sv nm pr ks ds ks2 ds2 G) = .ok .non (mm b sv nm pr ks ds (pk u w p ks2 ds2) (pd u w p ks2 ds2) G) := rise_run rfl k hn
theorem mm_ended (k : DOk n ks ds) (hn : n ≤ 899) (wr : Bool) : m_Sessions_ended [.ref 2, .int (u : Nat), .int p, .bl wr] (mm b sv nm pr ks ds ks2 ds2 G) = .ok .non (if wr = true then mm b sv nm pr (pk u "own" p (pk u "main" p ks ds) (pd u "main" p ks ds)) (pd u "own" p (pk u "main" p ks ds) (pd u "main" p ks ds)) ks2 ds2 G else mm b sv nm pr (pk u "main" p ks ds) (pd u "main" p ks ds) ks2 ds2 G) := by
  have k1 := p_ok (u := u) (w := "main") (p := p) k
  have r1 := mm_raise (b := b) (sv := sv) (nm := nm) (pr := pr) (ks2 := ks2) (ds2 := ds2) (G := G) (u := u) (w := "main") (p := p) k (by omega)
  have r2 := mm_raise (b := b) (sv := sv) (nm := nm) (pr := pr) (ks2 := ks2) (ds2 := ds2) (G := G) (u := u) (w := "own") (p := p) k1 (by omega)
  have m1 := meth_run (c := 1) (m := "raise_mark") (n := 4) (f := m_Sessions_raise_mark) (mo := eVar 0) (ma := eCons (eVar 1) (eCons (eC (.str "main")) (eCons (eVar 2) (eNil)))) (e := [some (.ref 2), some (.int (u : Nat)), some (.int p), some (.bl wr)]) (M := mm b sv nm pr ks ds ks2 ds2 G) rfl (mm_t k).ob (by decide +kernel) rfl rfl r1
  have m2 := meth_run (c := 1) (m := "raise_mark") (n := 4) (f := m_Sessions_raise_mark) (mo := eVar 0) (ma := eCons (eVar 1) (eCons (eC (.str "own")) (eCons (eVar 2) (eNil)))) (e := [some (.ref 2), some (.int (u : Nat)), some (.int p), some (.bl wr)]) (M := mm b sv nm pr (pk u "main" p ks ds) (pd u "main" p ks ds) ks2 ds2 G) rfl (mm_t k1).ob (by decide +kernel) rfl rfl r2
  unfold m_Sessions_ended b_Sessions_ended
  rw [z_fn, show env0 4 [.ref 2, .int (u : Nat), .int p, .bl wr] = [some (.ref 2), some (.int (u : Nat)), some (.int p), some (.bl wr)] from rfl]
  cases wr
  · simp only [z_seq, z_seq_nx, z_seq_rt, z_seq_ex, z_seq_bk, z_seq_ct, z_if, z_if_t, z_if_f, z_if_x, z_set, z_set_ok, z_set_x, z_ret, z_ret_ok, z_ret_x, z_retN, z_do, z_do_ok, z_do_x, z_nil, z_raise0, z_raise, z_raise_ok, z_toR_rt, z_toR_nx, z_toR_ex, z_c, z_var, z_var_ok, z_un, z_un_ok, z_un_x, z_bin, z_bin_ok, z_bin_x, z_anil, z_cons, z_cons1, z_cons1x, z_cons2, z_cons2x, z_args, z_args_ok, z_args_x, z_tup, z_tup_ok, z_fro, z_fro_ok, z_lst, z_lst_ok, z_call, z_stat, z_call_ok, z_callk, z_callk1, z_callk2, z_mkF, z_mkF_ok, z_own1, z_own1_ok, z_prop, z_own2, z_own2_ok, z_val, z_val_ok, z_val_x, z_and, z_and_t, z_and_f, z_or, z_or_t, z_or_f, z_not, z_not_ok, z_yes, z_eand, z_eand_t, z_eand_f, z_eor, z_eor_t, z_eor_f, z_enot, z_enot_ok, z_eif, z_eif_t, z_eif_f, z_for, z_for_v, z_iseq, z_iseq_t, z_iseq_f, z_iseq_r, z_rng, z_rng_ok, z_env0, z_try, z_try_nx, z_try_rt, z_try0, z_try0_nx, z_try0_rt, z_for_l, z_fv0, z_fv_nx, z_fv_ct, z_fv_rt, z_lc_v, z_step, z_step_ok, z_istr, z_istr_ok, z_env0, List.map_cons, List.map_nil, List.replicate, List.append_nil, Nat.reduceSub, List.cons_append, List.nil_append, List.length_cons, List.length_nil, Nat.reduceAdd, Nat.reduceLeDiff, List.getElem?_cons_zero, List.getElem?_cons_succ, List.set_cons_zero, List.set_cons_succ, Bool.not_true, Bool.not_false, m1, Bool.false_eq_true, if_false]
  · simp only [z_seq, z_seq_nx, z_seq_rt, z_seq_ex, z_seq_bk, z_seq_ct, z_if, z_if_t, z_if_f, z_if_x, z_set, z_set_ok, z_set_x, z_ret, z_ret_ok, z_ret_x, z_retN, z_do, z_do_ok, z_do_x, z_nil, z_raise0, z_raise, z_raise_ok, z_toR_rt, z_toR_nx, z_toR_ex, z_c, z_var, z_var_ok, z_un, z_un_ok, z_un_x, z_bin, z_bin_ok, z_bin_x, z_anil, z_cons, z_cons1, z_cons1x, z_cons2, z_cons2x, z_args, z_args_ok, z_args_x, z_tup, z_tup_ok, z_fro, z_fro_ok, z_lst, z_lst_ok, z_call, z_stat, z_call_ok, z_callk, z_callk1, z_callk2, z_mkF, z_mkF_ok, z_own1, z_own1_ok, z_prop, z_own2, z_own2_ok, z_val, z_val_ok, z_val_x, z_and, z_and_t, z_and_f, z_or, z_or_t, z_or_f, z_not, z_not_ok, z_yes, z_eand, z_eand_t, z_eand_f, z_eor, z_eor_t, z_eor_f, z_enot, z_enot_ok, z_eif, z_eif_t, z_eif_f, z_for, z_for_v, z_iseq, z_iseq_t, z_iseq_f, z_iseq_r, z_rng, z_rng_ok, z_env0, z_try, z_try_nx, z_try_rt, z_try0, z_try0_nx, z_try0_rt, z_for_l, z_fv0, z_fv_nx, z_fv_ct, z_fv_rt, z_lc_v, z_step, z_step_ok, z_istr, z_istr_ok, z_env0, List.map_cons, List.map_nil, List.replicate, List.append_nil, Nat.reduceSub, List.cons_append, List.nil_append, List.length_cons, List.length_nil, Nat.reduceAdd, Nat.reduceLeDiff, List.getElem?_cons_zero, List.getElem?_cons_succ, List.set_cons_zero, List.set_cons_succ, Bool.not_true, Bool.not_false, m1, m2, if_true]
theorem mm_answered (k : DOk n ks ds) (hn : n ≤ 899) : m_Sessions_answered [.ref 2, .int (u : Nat), .int p] (mm b sv nm pr ks ds ks2 ds2 G) = .ok .non (mm b sv nm pr (pk u "seen" p ks ds) (pd u "seen" p ks ds) ks2 ds2 G) := by
  have r1 := mm_raise (b := b) (sv := sv) (nm := nm) (pr := pr) (ks2 := ks2) (ds2 := ds2) (G := G) (u := u) (w := "seen") (p := p) k (by omega)
  have m1 := meth_run (c := 1) (m := "raise_mark") (n := 4) (f := m_Sessions_raise_mark) (mo := eVar 0) (ma := eCons (eVar 1) (eCons (eC (.str "seen")) (eCons (eVar 2) (eNil)))) (e := [some (.ref 2), some (.int (u : Nat)), some (.int p)]) (M := mm b sv nm pr ks ds ks2 ds2 G) rfl (mm_t k).ob (by decide +kernel) rfl rfl r1
  unfold m_Sessions_answered b_Sessions_answered
  rw [z_fn, show env0 3 [.ref 2, .int (u : Nat), .int p] = [some (.ref 2), some (.int (u : Nat)), some (.int p)] from rfl]
  simp only [z_seq, z_seq_nx, z_seq_rt, z_seq_ex, z_seq_bk, z_seq_ct, z_if, z_if_t, z_if_f, z_if_x, z_set, z_set_ok, z_set_x, z_ret, z_ret_ok, z_ret_x, z_retN, z_do, z_do_ok, z_do_x, z_nil, z_raise0, z_raise, z_raise_ok, z_toR_rt, z_toR_nx, z_toR_ex, z_c, z_var, z_var_ok, z_un, z_un_ok, z_un_x, z_bin, z_bin_ok, z_bin_x, z_anil, z_cons, z_cons1, z_cons1x, z_cons2, z_cons2x, z_args, z_args_ok, z_args_x, z_tup, z_tup_ok, z_fro, z_fro_ok, z_lst, z_lst_ok, z_call, z_stat, z_call_ok, z_callk, z_callk1, z_callk2, z_mkF, z_mkF_ok, z_own1, z_own1_ok, z_prop, z_own2, z_own2_ok, z_val, z_val_ok, z_val_x, z_and, z_and_t, z_and_f, z_or, z_or_t, z_or_f, z_not, z_not_ok, z_yes, z_eand, z_eand_t, z_eand_f, z_eor, z_eor_t, z_eor_f, z_enot, z_enot_ok, z_eif, z_eif_t, z_eif_f, z_for, z_for_v, z_iseq, z_iseq_t, z_iseq_f, z_iseq_r, z_rng, z_rng_ok, z_env0, z_try, z_try_nx, z_try_rt, z_try0, z_try0_nx, z_try0_rt, z_for_l, z_fv0, z_fv_nx, z_fv_ct, z_fv_rt, z_lc_v, z_step, z_step_ok, z_istr, z_istr_ok, z_env0, List.map_cons, List.map_nil, List.replicate, List.append_nil, Nat.reduceSub, List.cons_append, List.nil_append, List.length_cons, List.length_nil, Nat.reduceAdd, Nat.reduceLeDiff, List.getElem?_cons_zero, List.getElem?_cons_succ, List.set_cons_zero, List.set_cons_succ, Bool.not_true, Bool.not_false, m1]
theorem mm_fit {ps : List Int} (k : DOk n ks ds) (Wn : WL nm) (Wp : WL pr) (hl : ps.length ≤ 1000) : ∃ G', m_law_all_fit [.ref 2, .ref 6, .tup (pr.map D.str), .tup (nm.map D.str), .fro (ps.map D.int)] (mm b sv nm pr ks ds ks ds G) = .ok (.bl true) (mm b sv nm pr ks ds ks ds G') := by
  obtain ⟨G1, e⟩ := fit_run (ps := ps) (mm_a (b := b) (G := G) k) Wn Wp hl
  exact ⟨G ++ G1, e⟩
end
/-! ### draws -/
theorem position_run {s : Bx} {R : MH} (hs : BxOk s) : ∃ (p : Int) (s' : Bx), m_law_position [.ref 0] (s.obj :: R) = .ok (.int p) (s'.obj :: R) ∧ BxOk s' := by
  obtain ⟨r, s1, e1, _, _, h1⟩ := draw_at (R := R) (n := 12) hs (by decide) (by decide)
  obtain ⟨r2, s2, e2, _, _, h2⟩ := draw_at (R := R) (n := 8) h1 (by decide) (by decide)
  have hp : ∀ M, dPow (.int 10) (.int 20) M = .ok (.int (10 ^ 20)) M := fun M => by
    unfold dPow; dsimp only; rw [if_pos ⟨by decide, by decide, by decide⟩]; rfl
  cases c : (r2 == 7)
  · refine ⟨r, s2, ?_, h2⟩
    unfold m_law_position b_law_position
    rw [z_fn, draw_is]
    simp only [z_seq, z_seq_nx, z_seq_rt, z_seq_ex, z_seq_bk, z_seq_ct, z_if, z_if_t, z_if_f, z_if_x, z_set, z_set_ok, z_set_x, z_ret, z_ret_ok, z_ret_x, z_retN, z_do, z_do_ok, z_do_x, z_nil, z_raise0, z_raise, z_raise_ok, z_toR_rt, z_toR_nx, z_toR_ex, z_c, z_var, z_var_ok, z_un, z_un_ok, z_un_x, z_bin, z_bin_ok, z_bin_x, z_anil, z_cons, z_cons1, z_cons1x, z_cons2, z_cons2x, z_args, z_args_ok, z_args_x, z_tup, z_tup_ok, z_fro, z_fro_ok, z_lst, z_lst_ok, z_call, z_stat, z_call_ok, z_callk, z_callk1, z_callk2, z_mkF, z_mkF_ok, z_own1, z_own1_ok, z_prop, z_own2, z_own2_ok, z_val, z_val_ok, z_val_x, z_and, z_and_t, z_and_f, z_or, z_or_t, z_or_f, z_not, z_not_ok, z_yes, z_eand, z_eand_t, z_eand_f, z_eor, z_eor_t, z_eor_f, z_enot, z_enot_ok, z_eif, z_eif_t, z_eif_f, z_for, z_for_v, z_iseq, z_iseq_t, z_iseq_f, z_iseq_r, z_rng, z_rng_ok, z_env0, z_try, z_try_nx, z_try_rt, z_try0, z_try0_nx, z_try0_rt, z_for_l, z_fv0, z_fv_nx, z_fv_ct, z_fv_rt, z_lc_v, z_step, z_step_ok, z_istr, z_istr_ok, z_env0, List.map_cons, List.map_nil, List.replicate, List.append_nil, Nat.reduceSub, List.cons_append, List.nil_append, List.length_cons, List.length_nil, Nat.reduceAdd, Nat.reduceLeDiff, List.getElem?_cons_zero, List.getElem?_cons_succ, List.set_cons_zero, List.set_cons_succ, Bool.not_true, Bool.not_false, e1, e2, eq_int, c]
  · refine ⟨r + 10 ^ 20, s2, ?_, h2⟩
    unfold m_law_position b_law_position
    rw [z_fn, draw_is]
    simp only [z_seq, z_seq_nx, z_seq_rt, z_seq_ex, z_seq_bk, z_seq_ct, z_if, z_if_t, z_if_f, z_if_x, z_set, z_set_ok, z_set_x, z_ret, z_ret_ok, z_ret_x, z_retN, z_do, z_do_ok, z_do_x, z_nil, z_raise0, z_raise, z_raise_ok, z_toR_rt, z_toR_nx, z_toR_ex, z_c, z_var, z_var_ok, z_un, z_un_ok, z_un_x, z_bin, z_bin_ok, z_bin_x, z_anil, z_cons, z_cons1, z_cons1x, z_cons2, z_cons2x, z_args, z_args_ok, z_args_x, z_tup, z_tup_ok, z_fro, z_fro_ok, z_lst, z_lst_ok, z_call, z_stat, z_call_ok, z_callk, z_callk1, z_callk2, z_mkF, z_mkF_ok, z_own1, z_own1_ok, z_prop, z_own2, z_own2_ok, z_val, z_val_ok, z_val_x, z_and, z_and_t, z_and_f, z_or, z_or_t, z_or_f, z_not, z_not_ok, z_yes, z_eand, z_eand_t, z_eand_f, z_eor, z_eor_t, z_eor_f, z_enot, z_enot_ok, z_eif, z_eif_t, z_eif_f, z_for, z_for_v, z_iseq, z_iseq_t, z_iseq_f, z_iseq_r, z_rng, z_rng_ok, z_env0, z_try, z_try_nx, z_try_rt, z_try0, z_try0_nx, z_try0_rt, z_for_l, z_fv0, z_fv_nx, z_fv_ct, z_fv_rt, z_lc_v, z_step, z_step_ok, z_istr, z_istr_ok, z_env0, List.map_cons, List.map_nil, List.replicate, List.append_nil, Nat.reduceSub, List.cons_append, List.nil_append, List.length_cons, List.length_nil, Nat.reduceAdd, Nat.reduceLeDiff, List.getElem?_cons_zero, List.getElem?_cons_succ, List.set_cons_zero, List.set_cons_succ, Bool.not_true, Bool.not_false, e1, e2, eq_int, c, hp, add_int]
def chs : List (List Str) := [["own"], ["seen"], ["main"], ["own", "seen"], ["own", "main"], ["seen", "main"], ["own", "seen", "main"], []]
theorem chs_wl : ∀ ws ∈ chs, WL ws := by
  intro ws h
  refine ⟨?_, ?_⟩
  · revert ws; decide +kernel
  · revert ws; decide +kernel
theorem choice_run {s : Bx} {R : MH} (hs : BxOk s) : ∃ (ws : List Str) (s' : Bx), m_law_choice [.ref 0] (s.obj :: R) = .ok (.tup (ws.map D.str)) (s'.obj :: R) ∧ ws ∈ chs ∧ BxOk s' := by
  obtain ⟨d, s1, e1, hd, h1⟩ := pick_run (R := R) (t := "list") (l := .fro (chs.map fun ws => .tup (ws.map D.str))) (ds := chs.map fun ws => .tup (ws.map D.str)) hs (fun _ => .inr ⟨rfl, rfl⟩) (by decide) (by decide)
  obtain ⟨ws, hw, rfl⟩ := List.mem_map.mp hd
  refine ⟨ws, s1, ?_, hw, h1⟩
  unfold m_law_choice b_law_choice
  rw [z_fn, pick_is]
  have e1' : pickM [.ref 0, .fro [.tup [.str "own"], .tup [.str "seen"], .tup [.str "main"], .tup [.str "own", .str "seen"], .tup [.str "own", .str "main"], .tup [.str "seen", .str "main"], .tup [.str "own", .str "seen", .str "main"], .tup []]] (s.obj :: R) = .ok (.tup (ws.map D.str)) (s1.obj :: R) := e1
  simp only [z_seq, z_seq_nx, z_seq_rt, z_seq_ex, z_seq_bk, z_seq_ct, z_if, z_if_t, z_if_f, z_if_x, z_set, z_set_ok, z_set_x, z_ret, z_ret_ok, z_ret_x, z_retN, z_do, z_do_ok, z_do_x, z_nil, z_raise0, z_raise, z_raise_ok, z_toR_rt, z_toR_nx, z_toR_ex, z_c, z_var, z_var_ok, z_un, z_un_ok, z_un_x, z_bin, z_bin_ok, z_bin_x, z_anil, z_cons, z_cons1, z_cons1x, z_cons2, z_cons2x, z_args, z_args_ok, z_args_x, z_tup, z_tup_ok, z_fro, z_fro_ok, z_lst, z_lst_ok, z_call, z_stat, z_call_ok, z_callk, z_callk1, z_callk2, z_mkF, z_mkF_ok, z_own1, z_own1_ok, z_prop, z_own2, z_own2_ok, z_val, z_val_ok, z_val_x, z_and, z_and_t, z_and_f, z_or, z_or_t, z_or_f, z_not, z_not_ok, z_yes, z_eand, z_eand_t, z_eand_f, z_eor, z_eor_t, z_eor_f, z_enot, z_enot_ok, z_eif, z_eif_t, z_eif_f, z_for, z_for_v, z_iseq, z_iseq_t, z_iseq_f, z_iseq_r, z_rng, z_rng_ok, z_env0, z_try, z_try_nx, z_try_rt, z_try0, z_try0_nx, z_try0_rt, z_for_l, z_fv0, z_fv_nx, z_fv_ct, z_fv_rt, z_lc_v, z_step, z_step_ok, z_istr, z_istr_ok, z_env0, List.map_cons, List.map_nil, List.replicate, List.append_nil, Nat.reduceSub, List.cons_append, List.nil_append, List.length_cons, List.length_nil, Nat.reduceAdd, Nat.reduceLeDiff, List.getElem?_cons_zero, List.getElem?_cons_succ, List.set_cons_zero, List.set_cons_succ, Bool.not_true, Bool.not_false, e1']
end K48
namespace K48
open PySem L2 T2
def mmo (b : MO) (sv : D) (nm pr : List Str) (ks : List (List Key)) (ds : List D) (o : MO) (G : MH) : MH := b :: bkO sv nm pr :: .ob 1 sN [.ref 1, .ref 3] :: .dt ks ds :: .ob 1 sN [.ref 1, .ref 5] :: .dt [] [] :: o :: G
theorem kGet_some {k : List Key} : ∀ {ks : List (List Key)} {ds : List D}, ks.length = ds.length → k ∈ ks → ∃ d, kGet ks ds k = some d
  | [], _, _, h => by simp at h
  | _ :: _, [], h, _ => by simp at h
  | x :: ks, y :: ds, h, hk => by
    unfold kGet
    simp only [List.zip_cons_cons, List.find?_cons]
    by_cases hx : x = k
    · exact ⟨y, by simp [hx]⟩
    · simp only [hx, decide_false]
      rcases List.mem_cons.mp hk with z | z
      · exact absurd z.symm hx
      · exact kGet_some (by simpa using h) z
theorem notin_ints {i : Int} {is : List Int} {M : MH} : ∃ b, dNotInA (.int i) (.fro (is.map D.int)) M = .ok (.bl b) M := by
  have hf : (is.map D.int).all flatD = true := List.all_eq_true.mpr fun d hd => by obtain ⟨_, _, rfl⟩ := List.mem_map.mp hd; rfl
  refine ⟨!memD (.int i) (is.map D.int), ?_⟩
  unfold dNotInA inResA inRes T2.items
  dsimp only
  rw [if_pos ⟨rfl, hf⟩]
theorem sub_int {i j : Int} {M : MH} : dSub (.int i) (.int j) M = .ok (.int (i - j)) M := rfl
theorem edges_run {n : Nat} {b : MO} {ks : List (List Key)} {ds : List D} {sv : D} {nm pr : List Str} {G : MH} (k : DOk n ks ds) (hn : n ≤ 200) : ∃ is : List Int, m_law_edges [.ref 6] (mm b sv nm pr ks ds ks ds G) = .ok (.fro (is.map D.int)) (mm b sv nm pr ks ds ks ds G) ∧ is.length ≤ 1000 := by
  obtain ⟨e', M', e1, is, a2, rfl, rfl, hl⟩ := loop_inv (body := lp_law_edges_1) (tg := tgName 2) (I := fun j e M => ∃ (is : List Int) (a2 : Option D), e = [some (.ref 6), some (.fro (is.map D.int)), a2] ∧ M = mmo b sv nm pr ks ds (.lt ks ds) G ∧ is.length ≤ 1 + 2 * j) (ks.map D.tk) 0 [some (.ref 6), some (.fro [.int 0]), none] (mmo b sv nm pr ks ds (.lt ks ds) G) ⟨[0], none, rfl, rfl, by simp⟩ (by
    rintro j hj e M ⟨is, a2, rfl, rfl, hl⟩
    have hj' := hj
    rw [List.length_map] at hj'
    have hks : ks.length ≤ 200 := by have := k.len; have := k.sz; omega
    have hx : (ks.map D.tk)[j] = .tk ks[j] := by simp
    obtain ⟨d, hd⟩ := kGet_some k.len (List.getElem_mem hj')
    obtain ⟨i, rfl⟩ := k.int d (kGet_mem' hd)
    have ix : dIxT (.ref 6) (.tk ks[j]) (mmo b sv nm pr ks ds (.lt ks ds) G) = .ok (.int i) (mmo b sv nm pr ks ds (.lt ks ds) G) := by
      have h6 : (mmo b sv nm pr ks ds (.lt ks ds) G)[6]? = some (.lt ks ds) := rfl
      unfold dIxT
      dsimp only
      rw [h6]
      dsimp only
      rw [hd]
    obtain ⟨nb, hnb⟩ := notin_ints (i := i) (is := is) (M := mmo b sv nm pr ks ds (.lt ks ds) G)
    have hcat : dCat mkF (.fro (is.map D.int)) (.fro [.int i, .int (mx (i - 1) 0)]) (mmo b sv nm pr ks ds (.lt ks ds) G) = .ok (.fro (is.map D.int ++ [.int i, .int (mx (i - 1) 0)])) (mmo b sv nm pr ks ds (.lt ks ds) G) := cat_F (xs := is.map D.int) (ys := [.int i, .int (mx (i - 1) 0)]) rfl rfl (by simp; omega)
    cases nb
    · refine ⟨_, _, _, by rw [hx]; rfl, ?_, is, some (.tk ks[j]), rfl, rfl, by omega⟩
      rw [lp_law_edges_1]
      simp only [z_seq, z_seq_nx, z_seq_rt, z_seq_ex, z_seq_bk, z_seq_ct, z_if, z_if_t, z_if_f, z_if_x, z_set, z_set_ok, z_set_x, z_ret, z_ret_ok, z_ret_x, z_retN, z_do, z_do_ok, z_do_x, z_nil, z_raise0, z_raise, z_raise_ok, z_toR_rt, z_toR_nx, z_toR_ex, z_c, z_var, z_var_ok, z_un, z_un_ok, z_un_x, z_bin, z_bin_ok, z_bin_x, z_anil, z_cons, z_cons1, z_cons1x, z_cons2, z_cons2x, z_args, z_args_ok, z_args_x, z_tup, z_tup_ok, z_fro, z_fro_ok, z_lst, z_lst_ok, z_call, z_stat, z_call_ok, z_callk, z_callk1, z_callk2, z_mkF, z_mkF_ok, z_own1, z_own1_ok, z_prop, z_own2, z_own2_ok, z_val, z_val_ok, z_val_x, z_and, z_and_t, z_and_f, z_or, z_or_t, z_or_f, z_not, z_not_ok, z_yes, z_eand, z_eand_t, z_eand_f, z_eor, z_eor_t, z_eor_f, z_enot, z_enot_ok, z_eif, z_eif_t, z_eif_f, z_for, z_for_v, z_iseq, z_iseq_t, z_iseq_f, z_iseq_r, z_rng, z_rng_ok, z_env0, z_try, z_try_nx, z_try_rt, z_try0, z_try0_nx, z_try0_rt, z_for_l, z_fv0, z_fv_nx, z_fv_ct, z_fv_rt, z_lc_v, z_step, z_step_ok, z_istr, z_istr_ok, z_env0, List.map_cons, List.map_nil, List.replicate, List.append_nil, Nat.reduceSub, List.cons_append, List.nil_append, List.length_cons, List.length_nil, Nat.reduceAdd, Nat.reduceLeDiff, List.getElem?_cons_zero, List.getElem?_cons_succ, List.set_cons_zero, List.set_cons_succ, Bool.not_true, Bool.not_false, ix, hnb]
    · refine ⟨_, [some (.ref 6), some (.fro ((is ++ [i, mx (i - 1) 0]).map D.int)), some (.tk ks[j])], _, by rw [hx]; rfl, ?_, is ++ [i, mx (i - 1) 0], some (.tk ks[j]), rfl, rfl, by simp; omega⟩
      rw [lp_law_edges_1]
      simp only [z_seq, z_seq_nx, z_seq_rt, z_seq_ex, z_seq_bk, z_seq_ct, z_if, z_if_t, z_if_f, z_if_x, z_set, z_set_ok, z_set_x, z_ret, z_ret_ok, z_ret_x, z_retN, z_do, z_do_ok, z_do_x, z_nil, z_raise0, z_raise, z_raise_ok, z_toR_rt, z_toR_nx, z_toR_ex, z_c, z_var, z_var_ok, z_un, z_un_ok, z_un_x, z_bin, z_bin_ok, z_bin_x, z_anil, z_cons, z_cons1, z_cons1x, z_cons2, z_cons2x, z_args, z_args_ok, z_args_x, z_tup, z_tup_ok, z_fro, z_fro_ok, z_lst, z_lst_ok, z_call, z_stat, z_call_ok, z_callk, z_callk1, z_callk2, z_mkF, z_mkF_ok, z_own1, z_own1_ok, z_prop, z_own2, z_own2_ok, z_val, z_val_ok, z_val_x, z_and, z_and_t, z_and_f, z_or, z_or_t, z_or_f, z_not, z_not_ok, z_yes, z_eand, z_eand_t, z_eand_f, z_eor, z_eor_t, z_eor_f, z_enot, z_enot_ok, z_eif, z_eif_t, z_eif_f, z_for, z_for_v, z_iseq, z_iseq_t, z_iseq_f, z_iseq_r, z_rng, z_rng_ok, z_env0, z_try, z_try_nx, z_try_rt, z_try0, z_try0_nx, z_try0_rt, z_for_l, z_fv0, z_fv_nx, z_fv_ct, z_fv_rt, z_lc_v, z_step, z_step_ok, z_istr, z_istr_ok, z_env0, List.map_cons, List.map_nil, List.replicate, List.append_nil, Nat.reduceSub, List.cons_append, List.nil_append, List.length_cons, List.length_nil, Nat.reduceAdd, Nat.reduceLeDiff, List.getElem?_cons_zero, List.getElem?_cons_succ, List.set_cons_zero, List.set_cons_succ, Bool.not_true, Bool.not_false, ix, hnb, sub_int, max_is, hcat]
      simp)
  rw [List.length_map, Nat.zero_add] at hl
  have hks : ks.length ≤ 200 := by have := k.len; have := k.sz; omega
  have hsl : eSl mkF (eVar 1) (oNone) (oSome (eC (.int 8))) [some (.ref 6), some (.fro (is.map D.int)), a2] (mm b sv nm pr ks ds ks ds G) = .ok (.fro (cutD (is.map D.int) none (some 8))) (mm b sv nm pr ks ds ks ds G) := rfl
  have hcut : cutD (is.map D.int) none (some 8) = (((is.drop (HT.sIx (is.map D.int).length 0 none)).take (HT.sIx (is.map D.int).length (is.map D.int).length (some 8) - HT.sIx (is.map D.int).length 0 none))).map D.int := by
    unfold cutD
    rw [List.map_take, List.map_drop]
  rw [hcut] at hsl
  clear hcut
  generalize HT.sIx (is.map D.int).length (is.map D.int).length (some 8) - HT.sIx (is.map D.int).length 0 none = y at hsl
  generalize HT.sIx (is.map D.int).length 0 none = x at hsl
  refine ⟨(is.drop x).take y, ?_, by rw [List.length_take, List.length_drop]; omega⟩
  · unfold m_law_edges b_law_edges
    rw [z_fn, show env0 3 [.ref 6] = [some (.ref 6), none, none] from rfl]
    have hk : sForK 0 (tgName 2) lp_law_edges_1 [some (.ref 6), some (.fro [.int 0]), none] (mm b sv nm pr ks ds ks ds G) = .nx [some (.ref 6), some (.fro (is.map D.int)), a2] (mm b sv nm pr ks ds ks ds G) := by
      show unlk 6 (forV (tgName 2) lp_law_edges_1 (ks.map .tk) [some (.ref 6), some (.fro [.int 0]), none] (mmo b sv nm pr ks ds (.lt ks ds) G)) = _
      rw [e1]
      rfl
    exact congrArg toR (seq_run (e1 := [some (.ref 6), some (.fro [.int 0]), none]) (M1 := mm b sv nm pr ks ds ks ds G) rfl (seq_run hk (ret_rt hsl)))
/-! ### the book and the sessions are made -/
theorem init_run {b : MO} {sv : D} {nm pr : List Str} (hn : nm ∈ chs) (hp : pr ∈ chs) : m_CopyBook___init__ [.ref 1, sv, .tup (nm.map D.str), .tup (pr.map D.str), .bl true, .str "own", .str "own"] [b, .ob 14 [] []] = .ok .non [b, bkO sv nm pr] := by
  have turn : ∀ ws ∈ chs, ∀ (a0 a1 a2 a3 a4 a5 a6 : Option D) (M : MH), lp_CopyBook___init___1 [a0, a1, a2, a3, a4, a5, a6, some (.tup (ws.map D.str))] M = .nx [a0, a1, a2, a3, a4, a5, a6, some (.tup (ws.map D.str))] M := by
    intro ws h a0 a1 a2 a3 a4 a5 a6 M
    unfold chs at h
    simp only [List.mem_cons, List.not_mem_nil, or_false] at h
    rcases h with rfl | rfl | rfl | rfl | rfl | rfl | rfl | rfl <;> kernel_rfl
  have hf : sForI (iSeq (eTup (eCons (eVar 2) (eCons (eVar 3) (eNil))))) (tgName 7) lp_CopyBook___init___1 [some (.ref 1), some sv, some (.tup (nm.map D.str)), some (.tup (pr.map D.str)), some (.bl true), some (.str "own"), some (.str "own"), none] [b, .ob 14 [] []] = .nx [some (.ref 1), some sv, some (.tup (nm.map D.str)), some (.tup (pr.map D.str)), some (.bl true), some (.str "own"), some (.str "own"), some (.tup (pr.map D.str))] [b, .ob 14 [] []] := by
    refine for_nx (ds := [.tup (nm.map D.str), .tup (pr.map D.str)]) rfl ?_
    rw [z_fv]; simp only [List.set_cons_succ, List.set_cons_zero]
    rw [turn nm hn, z_fv_nx, z_fv]; simp only [List.set_cons_succ, List.set_cons_zero]
    rw [turn pr hp, z_fv_nx, z_fv0]
  unfold m_CopyBook___init__ b_CopyBook___init__
  rw [z_fn, show env0 8 [.ref 1, sv, .tup (nm.map D.str), .tup (pr.map D.str), .bl true, .str "own", .str "own"] = [some (.ref 1), some sv, some (.tup (nm.map D.str)), some (.tup (pr.map D.str)), some (.bl true), some (.str "own"), some (.str "own"), none] from rfl, z_seq, hf, z_seq_nx]
  kernel_rfl
theorem book_run {s : Bx} {r : Bool} {nm pr : List Str} {e : Env2} (h2 : e[2]? = some (some (.tup (nm.map D.str)))) (h3 : e[3]? = some (some (.tup (pr.map D.str)))) (h4 : e[4]? = some (some (.bl r))) (hn : nm ∈ chs) (hp : pr ∈ chs) : eMakeK 14 0 3 gd_CopyBook___init___1_served_marks_promises m_CopyBook___init__ (eCons (eVar 4) (eCons (eVar 2) (eCons (eVar 3) (eNil)))) e [s.obj] = .ok (.ref 1) [s.obj, bkO (.bl r) nm pr] := by
  unfold eMakeK
  simp only [z_seq, z_seq_nx, z_seq_rt, z_seq_ex, z_seq_bk, z_seq_ct, z_if, z_if_t, z_if_f, z_if_x, z_set, z_set_ok, z_set_x, z_ret, z_ret_ok, z_ret_x, z_retN, z_do, z_do_ok, z_do_x, z_nil, z_raise0, z_raise, z_raise_ok, z_toR_rt, z_toR_nx, z_toR_ex, z_c, z_var, z_var_ok, z_un, z_un_ok, z_un_x, z_bin, z_bin_ok, z_bin_x, z_anil, z_cons, z_cons1, z_cons1x, z_cons2, z_cons2x, z_args, z_args_ok, z_args_x, z_tup, z_tup_ok, z_fro, z_fro_ok, z_lst, z_lst_ok, z_call, z_stat, z_call_ok, z_callk, z_callk1, z_callk2, z_mkF, z_mkF_ok, z_own1, z_own1_ok, z_prop, z_own2, z_own2_ok, z_val, z_val_ok, z_val_x, z_and, z_and_t, z_and_f, z_or, z_or_t, z_or_f, z_not, z_not_ok, z_yes, z_eand, z_eand_t, z_eand_f, z_eor, z_eor_t, z_eor_f, z_enot, z_enot_ok, z_eif, z_eif_t, z_eif_f, z_for, z_for_v, z_iseq, z_iseq_t, z_iseq_f, z_iseq_r, z_rng, z_rng_ok, z_env0, z_try, z_try_nx, z_try_rt, z_try0, z_try0_nx, z_try0_rt, z_for_l, z_fv0, z_fv_nx, z_fv_ct, z_fv_rt, z_lc_v, z_step, z_step_ok, z_istr, z_istr_ok, z_env0, List.map_cons, List.map_nil, List.replicate, List.append_nil, Nat.reduceSub, List.cons_append, List.nil_append, List.length_cons, List.length_nil, Nat.reduceAdd, Nat.reduceLeDiff, List.getElem?_cons_zero, List.getElem?_cons_succ, List.set_cons_zero, List.set_cons_succ, Bool.not_true, Bool.not_false, h2, h3, h4, Res.bind_ok, if_true]
  have hi := init_run (b := s.obj) (sv := .bl r) hn hp
  have hg : gd_CopyBook___init___1_served_marks_promises [.ref 1] [.bl r, .tup (nm.map D.str), .tup (pr.map D.str)] = [.ref 1, .bl r, .tup (nm.map D.str), .tup (pr.map D.str), .bl true, .str "own", .str "own"] := rfl
  show Res.bind (m_CopyBook___init__ (gd_CopyBook___init___1_served_marks_promises [.ref 1] [.bl r, .tup (nm.map D.str), .tup (pr.map D.str)]) [s.obj, .ob 14 [] []]) _ = _
  rw [hg, hi]
  rfl
end K48
namespace K48
open PySem L2 T2
section
variable {n j : Nat} {s : Bx} {ks : List (List Key)} {ds : List D} {r : Bool} {nm pr : List Str} {G : MH} {a0 a4 a5 a7 a10 a11 a12 a13 : Option D}
abbrev ev (a0 : Option D) (nm pr : List Str) (a4 a5 a7 : Option D) (a9 a10 a11 a12 a13 : Option D) : Env2 := [a0, some (.ref 0), some (.tup (nm.map D.str)), some (.tup (pr.map D.str)), a4, a5, some (.ref 2), a7, some (.ref 6), a9, a10, a11, a12, a13]
theorem turn_run (hs : BxOk s) (k : DOk n ks ds) (hn : n ≤ 100) (Wn : WL nm) (Wp : WL pr) (a9 : Option D) : ∃ s' ks' ds' G' b10 b11 b12 b13, lp_law_1 (ev a0 nm pr a4 a5 a7 a9 a10 a11 a12 a13) (mm s.obj (.bl r) nm pr ks ds ks ds G) = .nx (ev a0 nm pr a4 a5 a7 a9 b10 b11 b12 b13) (mm (Bx.obj s') (.bl r) nm pr ks' ds' ks' ds' G') ∧ BxOk s' ∧ DOk (n + 2) ks' ds' := by
  obtain ⟨ui, s1, e1, u0, u1, h1⟩ := draw_at (R := (mm s.obj (.bl r) nm pr ks ds ks ds G).tail) (n := 3) hs (by decide) (by decide)
  obtain ⟨p, s2, e2, h2⟩ := position_run (R := (mm s.obj (.bl r) nm pr ks ds ks ds G).tail) h1
  obtain ⟨kd, s3, e3, k0, k1, h3⟩ := draw_at (R := (mm s.obj (.bl r) nm pr ks ds ks ds G).tail) (n := 4) h2 (by decide) (by decide)
  obtain ⟨u, rfl⟩ : ∃ u : Nat, ui = (u : Nat) := ⟨ui.toNat, by omega⟩
  have e1' : drawM [.ref 0, .int 3] (mm s.obj (.bl r) nm pr ks ds ks ds G) = .ok (.int (u : Nat)) (mm s1.obj (.bl r) nm pr ks ds ks ds G) := e1
  have e2' : m_law_position [.ref 0] (mm s1.obj (.bl r) nm pr ks ds ks ds G) = .ok (.int p) (mm s2.obj (.bl r) nm pr ks ds ks ds G) := e2
  have e3' : drawM [.ref 0, .int 4] (mm s2.obj (.bl r) nm pr ks ds ks ds G) = .ok (.int kd) (mm s3.obj (.bl r) nm pr ks ds ks ds G) := e3
  have nn : ∀ M, dIsNot .non .non M = .ok (.bl false) M := fun _ => rfl
  have fin : ∀ (ks' : List (List Key)) (ds' : List D), DOk (n + 2) ks' ds' → ∃ (s4 : Bx) (G' : MH), eCall 5 m_law_all_fit (eCons (eVar 6) (eCons (eVar 8) (eCons (eVar 3) (eCons (eVar 2) (eCons (eFro (eCons (eVar 11) (eCons (eCall 1 m_law_position (eCons (eVar 1) (eNil))) (eNil)))) (eNil)))))) (ev a0 nm pr a4 a5 a7 a9 (some (.int (u : Nat))) (some (.int p)) (some (.int kd)) a13) (mm s3.obj (.bl r) nm pr ks' ds' ks' ds' G) = .ok (.bl true) (mm s4.obj (.bl r) nm pr ks' ds' ks' ds' G') ∧ BxOk s4 := by
    intro ks' ds' k'
    obtain ⟨p2, s4, e4, h4⟩ := position_run (R := (mm s3.obj (.bl r) nm pr ks' ds' ks' ds' G).tail) h3
    have e4' : m_law_position [.ref 0] (mm s3.obj (.bl r) nm pr ks' ds' ks' ds' G) = .ok (.int p2) (mm s4.obj (.bl r) nm pr ks' ds' ks' ds' G) := e4
    obtain ⟨G', e5⟩ := mm_fit (b := s4.obj) (sv := .bl r) (G := G) (ps := [p, p2]) k' Wn Wp (by simp)
    refine ⟨s4, G', ?_, h4⟩
    have e5' : m_law_all_fit [.ref 2, .ref 6, .tup (pr.map D.str), .tup (nm.map D.str), .fro [.int p, .int p2]] (mm s4.obj (.bl r) nm pr ks' ds' ks' ds' G) = .ok (.bl true) (mm s4.obj (.bl r) nm pr ks' ds' ks' ds' G') := e5
    simp only [z_seq, z_seq_nx, z_seq_rt, z_seq_ex, z_seq_bk, z_seq_ct, z_if, z_if_t, z_if_f, z_if_x, z_set, z_set_ok, z_set_x, z_ret, z_ret_ok, z_ret_x, z_retN, z_do, z_do_ok, z_do_x, z_nil, z_raise0, z_raise, z_raise_ok, z_toR_rt, z_toR_nx, z_toR_ex, z_c, z_var, z_var_ok, z_un, z_un_ok, z_un_x, z_bin, z_bin_ok, z_bin_x, z_anil, z_cons, z_cons1, z_cons1x, z_cons2, z_cons2x, z_args, z_args_ok, z_args_x, z_tup, z_tup_ok, z_fro, z_fro_ok, z_lst, z_lst_ok, z_call, z_stat, z_call_ok, z_callk, z_callk1, z_callk2, z_mkF, z_mkF_ok, z_own1, z_own1_ok, z_prop, z_own2, z_own2_ok, z_val, z_val_ok, z_val_x, z_and, z_and_t, z_and_f, z_or, z_or_t, z_or_f, z_not, z_not_ok, z_yes, z_eand, z_eand_t, z_eand_f, z_eor, z_eor_t, z_eor_f, z_enot, z_enot_ok, z_eif, z_eif_t, z_eif_f, z_for, z_for_v, z_iseq, z_iseq_t, z_iseq_f, z_iseq_r, z_rng, z_rng_ok, z_env0, z_try, z_try_nx, z_try_rt, z_try0, z_try0_nx, z_try0_rt, z_for_l, z_fv0, z_fv_nx, z_fv_ct, z_fv_rt, z_lc_v, z_step, z_step_ok, z_istr, z_istr_ok, z_env0, List.map_cons, List.map_nil, List.replicate, List.append_nil, Nat.reduceSub, List.cons_append, List.nil_append, List.length_cons, List.length_nil, Nat.reduceAdd, Nat.reduceLeDiff, List.getElem?_cons_zero, List.getElem?_cons_succ, List.set_cons_zero, List.set_cons_succ, Bool.not_true, Bool.not_false, e4', e5']
  have fin2 : ∀ (ks' : List (List Key)) (ds' : List D) (b13 : Option D), DOk (n + 2) ks' ds' → ∃ (s4 : Bx) (G' : MH), eCall 5 m_law_all_fit (eCons (eVar 6) (eCons (eVar 8) (eCons (eVar 3) (eCons (eVar 2) (eCons (eFro (eCons (eVar 11) (eCons (eCall 1 m_law_position (eCons (eVar 1) (eNil))) (eNil)))) (eNil)))))) (ev a0 nm pr a4 a5 a7 a9 (some (.int (u : Nat))) (some (.int p)) (some (.int kd)) b13) (mm s3.obj (.bl r) nm pr ks' ds' ks' ds' G) = .ok (.bl true) (mm s4.obj (.bl r) nm pr ks' ds' ks' ds' G') ∧ BxOk s4 := by
    intro ks' ds' b13 k'
    obtain ⟨p2, s4, e4, h4⟩ := position_run (R := (mm s3.obj (.bl r) nm pr ks' ds' ks' ds' G).tail) h3
    have e4' : m_law_position [.ref 0] (mm s3.obj (.bl r) nm pr ks' ds' ks' ds' G) = .ok (.int p2) (mm s4.obj (.bl r) nm pr ks' ds' ks' ds' G) := e4
    obtain ⟨G', e5⟩ := mm_fit (b := s4.obj) (sv := .bl r) (G := G) (ps := [p, p2]) k' Wn Wp (by simp)
    refine ⟨s4, G', ?_, h4⟩
    have e5' : m_law_all_fit [.ref 2, .ref 6, .tup (pr.map D.str), .tup (nm.map D.str), .fro [.int p, .int p2]] (mm s4.obj (.bl r) nm pr ks' ds' ks' ds' G) = .ok (.bl true) (mm s4.obj (.bl r) nm pr ks' ds' ks' ds' G') := e5
    simp only [z_seq, z_seq_nx, z_seq_rt, z_seq_ex, z_seq_bk, z_seq_ct, z_if, z_if_t, z_if_f, z_if_x, z_set, z_set_ok, z_set_x, z_ret, z_ret_ok, z_ret_x, z_retN, z_do, z_do_ok, z_do_x, z_nil, z_raise0, z_raise, z_raise_ok, z_toR_rt, z_toR_nx, z_toR_ex, z_c, z_var, z_var_ok, z_un, z_un_ok, z_un_x, z_bin, z_bin_ok, z_bin_x, z_anil, z_cons, z_cons1, z_cons1x, z_cons2, z_cons2x, z_args, z_args_ok, z_args_x, z_tup, z_tup_ok, z_fro, z_fro_ok, z_lst, z_lst_ok, z_call, z_stat, z_call_ok, z_callk, z_callk1, z_callk2, z_mkF, z_mkF_ok, z_own1, z_own1_ok, z_prop, z_own2, z_own2_ok, z_val, z_val_ok, z_val_x, z_and, z_and_t, z_and_f, z_or, z_or_t, z_or_f, z_not, z_not_ok, z_yes, z_eand, z_eand_t, z_eand_f, z_eor, z_eor_t, z_eor_f, z_enot, z_enot_ok, z_eif, z_eif_t, z_eif_f, z_for, z_for_v, z_iseq, z_iseq_t, z_iseq_f, z_iseq_r, z_rng, z_rng_ok, z_env0, z_try, z_try_nx, z_try_rt, z_try0, z_try0_nx, z_try0_rt, z_for_l, z_fv0, z_fv_nx, z_fv_ct, z_fv_rt, z_lc_v, z_step, z_step_ok, z_istr, z_istr_ok, z_env0, List.map_cons, List.map_nil, List.replicate, List.append_nil, Nat.reduceSub, List.cons_append, List.nil_append, List.length_cons, List.length_nil, Nat.reduceAdd, Nat.reduceLeDiff, List.getElem?_cons_zero, List.getElem?_cons_succ, List.set_cons_zero, List.set_cons_succ, Bool.not_true, Bool.not_false, e4', e5']
  by_cases c2 : kd < 2
  · have q2 : decide (kd < 2) = true := by simp [c2]
    cases c0 : (kd == 0)
    · have en := mm_ended (b := s3.obj) (sv := .bl r) (nm := nm) (pr := pr) (ks2 := ks) (ds2 := ds) (G := G) (u := u) (p := p) k (by omega) false
      rw [if_neg (by simp)] at en
      have k' := p_ok (u := u) (w := "main") (p := p) k
      have m1 := meth_run (c := 1) (m := "ended") (n := 4) (f := m_Sessions_ended) (mo := eVar 6) (ma := eCons (eVar 10) (eCons (eVar 11) (eCons (eVar 13) (eNil)))) (e := ev a0 nm pr a4 a5 a7 a9 (some (.int (u : Nat))) (some (.int p)) (some (.int kd)) (some (.bl false))) (M := mm s3.obj (.bl r) nm pr ks ds ks ds G) rfl (mm_t k).ob (by decide +kernel) rfl rfl en
      have ri := mm_rise (b := s3.obj) (sv := .bl r) (nm := nm) (pr := pr) (ks := pk u "main" p ks ds) (ds := pd u "main" p ks ds) (G := G) (u := u) (w := "main") (p := p) k (by omega)
      obtain ⟨s4, G', e6, h4⟩ := fin2 _ _ (some (.bl false)) ⟨k'.len, by have := k'.sz; omega, k'.int⟩
      refine ⟨s4, _, _, G', some (.int (u : Nat)), some (.int p), some (.int kd), some (.bl false), ?_, h4, ⟨k'.len, by have := k'.sz; omega, k'.int⟩⟩
      rw [lp_law_1, draw_is]
      simp only [z_seq, z_seq_nx, z_seq_rt, z_seq_ex, z_seq_bk, z_seq_ct, z_if, z_if_t, z_if_f, z_if_x, z_set, z_set_ok, z_set_x, z_ret, z_ret_ok, z_ret_x, z_retN, z_do, z_do_ok, z_do_x, z_nil, z_raise0, z_raise, z_raise_ok, z_toR_rt, z_toR_nx, z_toR_ex, z_c, z_var, z_var_ok, z_un, z_un_ok, z_un_x, z_bin, z_bin_ok, z_bin_x, z_anil, z_cons, z_cons1, z_cons1x, z_cons2, z_cons2x, z_args, z_args_ok, z_args_x, z_tup, z_tup_ok, z_fro, z_fro_ok, z_lst, z_lst_ok, z_call, z_stat, z_call_ok, z_callk, z_callk1, z_callk2, z_mkF, z_mkF_ok, z_own1, z_own1_ok, z_prop, z_own2, z_own2_ok, z_val, z_val_ok, z_val_x, z_and, z_and_t, z_and_f, z_or, z_or_t, z_or_f, z_not, z_not_ok, z_yes, z_eand, z_eand_t, z_eand_f, z_eor, z_eor_t, z_eor_f, z_enot, z_enot_ok, z_eif, z_eif_t, z_eif_f, z_for, z_for_v, z_iseq, z_iseq_t, z_iseq_f, z_iseq_r, z_rng, z_rng_ok, z_env0, z_try, z_try_nx, z_try_rt, z_try0, z_try0_nx, z_try0_rt, z_for_l, z_fv0, z_fv_nx, z_fv_ct, z_fv_rt, z_lc_v, z_step, z_step_ok, z_istr, z_istr_ok, z_env0, List.map_cons, List.map_nil, List.replicate, List.append_nil, Nat.reduceSub, List.cons_append, List.nil_append, List.length_cons, List.length_nil, Nat.reduceAdd, Nat.reduceLeDiff, List.getElem?_cons_zero, List.getElem?_cons_succ, List.set_cons_zero, List.set_cons_succ, Bool.not_true, Bool.not_false] at e6
      simp only [z_seq, z_seq_nx, z_seq_rt, z_seq_ex, z_seq_bk, z_seq_ct, z_if, z_if_t, z_if_f, z_if_x, z_set, z_set_ok, z_set_x, z_ret, z_ret_ok, z_ret_x, z_retN, z_do, z_do_ok, z_do_x, z_nil, z_raise0, z_raise, z_raise_ok, z_toR_rt, z_toR_nx, z_toR_ex, z_c, z_var, z_var_ok, z_un, z_un_ok, z_un_x, z_bin, z_bin_ok, z_bin_x, z_anil, z_cons, z_cons1, z_cons1x, z_cons2, z_cons2x, z_args, z_args_ok, z_args_x, z_tup, z_tup_ok, z_fro, z_fro_ok, z_lst, z_lst_ok, z_call, z_stat, z_call_ok, z_callk, z_callk1, z_callk2, z_mkF, z_mkF_ok, z_own1, z_own1_ok, z_prop, z_own2, z_own2_ok, z_val, z_val_ok, z_val_x, z_and, z_and_t, z_and_f, z_or, z_or_t, z_or_f, z_not, z_not_ok, z_yes, z_eand, z_eand_t, z_eand_f, z_eor, z_eor_t, z_eor_f, z_enot, z_enot_ok, z_eif, z_eif_t, z_eif_f, z_for, z_for_v, z_iseq, z_iseq_t, z_iseq_f, z_iseq_r, z_rng, z_rng_ok, z_env0, z_try, z_try_nx, z_try_rt, z_try0, z_try0_nx, z_try0_rt, z_for_l, z_fv0, z_fv_nx, z_fv_ct, z_fv_rt, z_lc_v, z_step, z_step_ok, z_istr, z_istr_ok, z_env0, List.map_cons, List.map_nil, List.replicate, List.append_nil, Nat.reduceSub, List.cons_append, List.nil_append, List.length_cons, List.length_nil, Nat.reduceAdd, Nat.reduceLeDiff, List.getElem?_cons_zero, List.getElem?_cons_succ, List.set_cons_zero, List.set_cons_succ, Bool.not_true, Bool.not_false, e1', e2', e3', lt_int, q2, eq_int, c0, m1, nn, ri, e6]
    · have en := mm_ended (b := s3.obj) (sv := .bl r) (nm := nm) (pr := pr) (ks2 := ks) (ds2 := ds) (G := G) (u := u) (p := p) k (by omega) true
      rw [if_pos rfl] at en
      have k1 := p_ok (u := u) (w := "main") (p := p) k
      have k' := p_ok (u := u) (w := "own") (p := p) k1
      have m1 := meth_run (c := 1) (m := "ended") (n := 4) (f := m_Sessions_ended) (mo := eVar 6) (ma := eCons (eVar 10) (eCons (eVar 11) (eCons (eVar 13) (eNil)))) (e := ev a0 nm pr a4 a5 a7 a9 (some (.int (u : Nat))) (some (.int p)) (some (.int kd)) (some (.bl true))) (M := mm s3.obj (.bl r) nm pr ks ds ks ds G) rfl (mm_t k).ob (by decide +kernel) rfl rfl en
      have ri := mm_rise (b := s3.obj) (sv := .bl r) (nm := nm) (pr := pr) (ks := pk u "own" p (pk u "main" p ks ds) (pd u "main" p ks ds)) (ds := pd u "own" p (pk u "main" p ks ds) (pd u "main" p ks ds)) (G := G) (u := u) (w := "main") (p := p) k (by omega)
      have ri2 := mm_rise (b := s3.obj) (sv := .bl r) (nm := nm) (pr := pr) (ks := pk u "own" p (pk u "main" p ks ds) (pd u "main" p ks ds)) (ds := pd u "own" p (pk u "main" p ks ds) (pd u "main" p ks ds)) (G := G) (u := u) (w := "own") (p := p) k1 (by omega)
      obtain ⟨s4, G', e6, h4⟩ := fin2 _ _ (some (.bl true)) k'
      refine ⟨s4, _, _, G', some (.int (u : Nat)), some (.int p), some (.int kd), some (.bl true), ?_, h4, k'⟩
      rw [lp_law_1, draw_is]
      simp only [z_seq, z_seq_nx, z_seq_rt, z_seq_ex, z_seq_bk, z_seq_ct, z_if, z_if_t, z_if_f, z_if_x, z_set, z_set_ok, z_set_x, z_ret, z_ret_ok, z_ret_x, z_retN, z_do, z_do_ok, z_do_x, z_nil, z_raise0, z_raise, z_raise_ok, z_toR_rt, z_toR_nx, z_toR_ex, z_c, z_var, z_var_ok, z_un, z_un_ok, z_un_x, z_bin, z_bin_ok, z_bin_x, z_anil, z_cons, z_cons1, z_cons1x, z_cons2, z_cons2x, z_args, z_args_ok, z_args_x, z_tup, z_tup_ok, z_fro, z_fro_ok, z_lst, z_lst_ok, z_call, z_stat, z_call_ok, z_callk, z_callk1, z_callk2, z_mkF, z_mkF_ok, z_own1, z_own1_ok, z_prop, z_own2, z_own2_ok, z_val, z_val_ok, z_val_x, z_and, z_and_t, z_and_f, z_or, z_or_t, z_or_f, z_not, z_not_ok, z_yes, z_eand, z_eand_t, z_eand_f, z_eor, z_eor_t, z_eor_f, z_enot, z_enot_ok, z_eif, z_eif_t, z_eif_f, z_for, z_for_v, z_iseq, z_iseq_t, z_iseq_f, z_iseq_r, z_rng, z_rng_ok, z_env0, z_try, z_try_nx, z_try_rt, z_try0, z_try0_nx, z_try0_rt, z_for_l, z_fv0, z_fv_nx, z_fv_ct, z_fv_rt, z_lc_v, z_step, z_step_ok, z_istr, z_istr_ok, z_env0, List.map_cons, List.map_nil, List.replicate, List.append_nil, Nat.reduceSub, List.cons_append, List.nil_append, List.length_cons, List.length_nil, Nat.reduceAdd, Nat.reduceLeDiff, List.getElem?_cons_zero, List.getElem?_cons_succ, List.set_cons_zero, List.set_cons_succ, Bool.not_true, Bool.not_false] at e6
      simp only [z_seq, z_seq_nx, z_seq_rt, z_seq_ex, z_seq_bk, z_seq_ct, z_if, z_if_t, z_if_f, z_if_x, z_set, z_set_ok, z_set_x, z_ret, z_ret_ok, z_ret_x, z_retN, z_do, z_do_ok, z_do_x, z_nil, z_raise0, z_raise, z_raise_ok, z_toR_rt, z_toR_nx, z_toR_ex, z_c, z_var, z_var_ok, z_un, z_un_ok, z_un_x, z_bin, z_bin_ok, z_bin_x, z_anil, z_cons, z_cons1, z_cons1x, z_cons2, z_cons2x, z_args, z_args_ok, z_args_x, z_tup, z_tup_ok, z_fro, z_fro_ok, z_lst, z_lst_ok, z_call, z_stat, z_call_ok, z_callk, z_callk1, z_callk2, z_mkF, z_mkF_ok, z_own1, z_own1_ok, z_prop, z_own2, z_own2_ok, z_val, z_val_ok, z_val_x, z_and, z_and_t, z_and_f, z_or, z_or_t, z_or_f, z_not, z_not_ok, z_yes, z_eand, z_eand_t, z_eand_f, z_eor, z_eor_t, z_eor_f, z_enot, z_enot_ok, z_eif, z_eif_t, z_eif_f, z_for, z_for_v, z_iseq, z_iseq_t, z_iseq_f, z_iseq_r, z_rng, z_rng_ok, z_env0, z_try, z_try_nx, z_try_rt, z_try0, z_try0_nx, z_try0_rt, z_for_l, z_fv0, z_fv_nx, z_fv_ct, z_fv_rt, z_lc_v, z_step, z_step_ok, z_istr, z_istr_ok, z_env0, List.map_cons, List.map_nil, List.replicate, List.append_nil, Nat.reduceSub, List.cons_append, List.nil_append, List.length_cons, List.length_nil, Nat.reduceAdd, Nat.reduceLeDiff, List.getElem?_cons_zero, List.getElem?_cons_succ, List.set_cons_zero, List.set_cons_succ, Bool.not_true, Bool.not_false, e1', e2', e3', lt_int, q2, eq_int, c0, m1, nn, ri, ri2, e6]
  · have q2 : decide (kd < 2) = false := by simp [c2]
    have en := mm_answered (b := s3.obj) (sv := .bl r) (nm := nm) (pr := pr) (ks2 := ks) (ds2 := ds) (G := G) (u := u) (p := p) k (by omega)
    have k' := p_ok (u := u) (w := "seen") (p := p) k
    have m1 := meth_run (c := 1) (m := "answered") (n := 3) (f := m_Sessions_answered) (mo := eVar 6) (ma := eCons (eVar 10) (eCons (eVar 11) (eNil))) (e := ev a0 nm pr a4 a5 a7 a9 (some (.int (u : Nat))) (some (.int p)) (some (.int kd)) a13) (M := mm s3.obj (.bl r) nm pr ks ds ks ds G) rfl (mm_t k).ob (by decide +kernel) rfl rfl en
    have ri := mm_rise (b := s3.obj) (sv := .bl r) (nm := nm) (pr := pr) (ks := pk u "seen" p ks ds) (ds := pd u "seen" p ks ds) (G := G) (u := u) (w := "seen") (p := p) k (by omega)
    obtain ⟨s4, G', e6, h4⟩ := fin2 _ _ a13 ⟨k'.len, by have := k'.sz; omega, k'.int⟩
    refine ⟨s4, _, _, G', some (.int (u : Nat)), some (.int p), some (.int kd), a13, ?_, h4, ⟨k'.len, by have := k'.sz; omega, k'.int⟩⟩
    rw [lp_law_1, draw_is]
    simp only [z_seq, z_seq_nx, z_seq_rt, z_seq_ex, z_seq_bk, z_seq_ct, z_if, z_if_t, z_if_f, z_if_x, z_set, z_set_ok, z_set_x, z_ret, z_ret_ok, z_ret_x, z_retN, z_do, z_do_ok, z_do_x, z_nil, z_raise0, z_raise, z_raise_ok, z_toR_rt, z_toR_nx, z_toR_ex, z_c, z_var, z_var_ok, z_un, z_un_ok, z_un_x, z_bin, z_bin_ok, z_bin_x, z_anil, z_cons, z_cons1, z_cons1x, z_cons2, z_cons2x, z_args, z_args_ok, z_args_x, z_tup, z_tup_ok, z_fro, z_fro_ok, z_lst, z_lst_ok, z_call, z_stat, z_call_ok, z_callk, z_callk1, z_callk2, z_mkF, z_mkF_ok, z_own1, z_own1_ok, z_prop, z_own2, z_own2_ok, z_val, z_val_ok, z_val_x, z_and, z_and_t, z_and_f, z_or, z_or_t, z_or_f, z_not, z_not_ok, z_yes, z_eand, z_eand_t, z_eand_f, z_eor, z_eor_t, z_eor_f, z_enot, z_enot_ok, z_eif, z_eif_t, z_eif_f, z_for, z_for_v, z_iseq, z_iseq_t, z_iseq_f, z_iseq_r, z_rng, z_rng_ok, z_env0, z_try, z_try_nx, z_try_rt, z_try0, z_try0_nx, z_try0_rt, z_for_l, z_fv0, z_fv_nx, z_fv_ct, z_fv_rt, z_lc_v, z_step, z_step_ok, z_istr, z_istr_ok, z_env0, List.map_cons, List.map_nil, List.replicate, List.append_nil, Nat.reduceSub, List.cons_append, List.nil_append, List.length_cons, List.length_nil, Nat.reduceAdd, Nat.reduceLeDiff, List.getElem?_cons_zero, List.getElem?_cons_succ, List.set_cons_zero, List.set_cons_succ, Bool.not_true, Bool.not_false] at e6
    simp only [z_seq, z_seq_nx, z_seq_rt, z_seq_ex, z_seq_bk, z_seq_ct, z_if, z_if_t, z_if_f, z_if_x, z_set, z_set_ok, z_set_x, z_ret, z_ret_ok, z_ret_x, z_retN, z_do, z_do_ok, z_do_x, z_nil, z_raise0, z_raise, z_raise_ok, z_toR_rt, z_toR_nx, z_toR_ex, z_c, z_var, z_var_ok, z_un, z_un_ok, z_un_x, z_bin, z_bin_ok, z_bin_x, z_anil, z_cons, z_cons1, z_cons1x, z_cons2, z_cons2x, z_args, z_args_ok, z_args_x, z_tup, z_tup_ok, z_fro, z_fro_ok, z_lst, z_lst_ok, z_call, z_stat, z_call_ok, z_callk, z_callk1, z_callk2, z_mkF, z_mkF_ok, z_own1, z_own1_ok, z_prop, z_own2, z_own2_ok, z_val, z_val_ok, z_val_x, z_and, z_and_t, z_and_f, z_or, z_or_t, z_or_f, z_not, z_not_ok, z_yes, z_eand, z_eand_t, z_eand_f, z_eor, z_eor_t, z_eor_f, z_enot, z_enot_ok, z_eif, z_eif_t, z_eif_f, z_for, z_for_v, z_iseq, z_iseq_t, z_iseq_f, z_iseq_r, z_rng, z_rng_ok, z_env0, z_try, z_try_nx, z_try_rt, z_try0, z_try0_nx, z_try0_rt, z_for_l, z_fv0, z_fv_nx, z_fv_ct, z_fv_rt, z_lc_v, z_step, z_step_ok, z_istr, z_istr_ok, z_env0, List.map_cons, List.map_nil, List.replicate, List.append_nil, Nat.reduceSub, List.cons_append, List.nil_append, List.length_cons, List.length_nil, Nat.reduceAdd, Nat.reduceLeDiff, List.getElem?_cons_zero, List.getElem?_cons_succ, List.set_cons_zero, List.set_cons_succ, Bool.not_true, Bool.not_false, e1', e2', e3', lt_int, q2, m1, nn, ri, e6]
end
theorem rg_at {n j : Nat} (h : j < (rangeD 0 n).length) : (rangeD 0 n)[j] = .int (j : Nat) := by unfold rangeD; simp
theorem law_true (ns : List Int) (hl : ns.length ≤ 63) : ∃ M', m_law [.fro (ns.map D.int)] [] = .ok (.bl true) M' := by
  have eb : m_law_box [.fro (ns.map D.int)] [] = .ok (.ref 0) [(⟨ns, 0, 0, 0, 0⟩ : Bx).obj] := box_run hl
  unfold m_law b_law
  rw [z_fn]
  show EndsT _
  rw [show env0 14 [.fro (ns.map D.int)] = [some (.fro (ns.map D.int)), none, none, none, none, none, none, none, none, none, none, none, none, none] from rfl]
  refine st_set (d := .ref 0) (M1 := [(⟨ns, 0, 0, 0, 0⟩ : Bx).obj]) (by simp only [z_seq, z_seq_nx, z_seq_rt, z_seq_ex, z_seq_bk, z_seq_ct, z_if, z_if_t, z_if_f, z_if_x, z_set, z_set_ok, z_set_x, z_ret, z_ret_ok, z_ret_x, z_retN, z_do, z_do_ok, z_do_x, z_nil, z_raise0, z_raise, z_raise_ok, z_toR_rt, z_toR_nx, z_toR_ex, z_c, z_var, z_var_ok, z_un, z_un_ok, z_un_x, z_bin, z_bin_ok, z_bin_x, z_anil, z_cons, z_cons1, z_cons1x, z_cons2, z_cons2x, z_args, z_args_ok, z_args_x, z_tup, z_tup_ok, z_fro, z_fro_ok, z_lst, z_lst_ok, z_call, z_stat, z_call_ok, z_callk, z_callk1, z_callk2, z_mkF, z_mkF_ok, z_own1, z_own1_ok, z_prop, z_own2, z_own2_ok, z_val, z_val_ok, z_val_x, z_and, z_and_t, z_and_f, z_or, z_or_t, z_or_f, z_not, z_not_ok, z_yes, z_eand, z_eand_t, z_eand_f, z_eor, z_eor_t, z_eor_f, z_enot, z_enot_ok, z_eif, z_eif_t, z_eif_f, z_for, z_for_v, z_iseq, z_iseq_t, z_iseq_f, z_iseq_r, z_rng, z_rng_ok, z_env0, z_try, z_try_nx, z_try_rt, z_try0, z_try0_nx, z_try0_rt, z_for_l, z_fv0, z_fv_nx, z_fv_ct, z_fv_rt, z_lc_v, z_step, z_step_ok, z_istr, z_istr_ok, z_env0, List.map_cons, List.map_nil, List.replicate, List.append_nil, Nat.reduceSub, List.cons_append, List.nil_append, List.length_cons, List.length_nil, Nat.reduceAdd, Nat.reduceLeDiff, List.getElem?_cons_zero, List.getElem?_cons_succ, List.set_cons_zero, List.set_cons_succ, Bool.not_true, Bool.not_false, eb]) ?_
  simp only [List.set_cons_succ, List.set_cons_zero]
  generalize some (D.fro (ns.map D.int)) = a0
  have h0 : BxOk (⟨ns, 0, 0, 0, 0⟩ : Bx) := ⟨Int.le_refl 0⟩
  generalize (⟨ns, 0, 0, 0, 0⟩ : Bx) = s0 at h0
  clear eb hl
  clear ns
  obtain ⟨nm, s1, e1, hn, h1⟩ := choice_run (R := []) h0
  refine st_set (d := .tup (nm.map D.str)) (M1 := [s1.obj]) (by simp only [z_seq, z_seq_nx, z_seq_rt, z_seq_ex, z_seq_bk, z_seq_ct, z_if, z_if_t, z_if_f, z_if_x, z_set, z_set_ok, z_set_x, z_ret, z_ret_ok, z_ret_x, z_retN, z_do, z_do_ok, z_do_x, z_nil, z_raise0, z_raise, z_raise_ok, z_toR_rt, z_toR_nx, z_toR_ex, z_c, z_var, z_var_ok, z_un, z_un_ok, z_un_x, z_bin, z_bin_ok, z_bin_x, z_anil, z_cons, z_cons1, z_cons1x, z_cons2, z_cons2x, z_args, z_args_ok, z_args_x, z_tup, z_tup_ok, z_fro, z_fro_ok, z_lst, z_lst_ok, z_call, z_stat, z_call_ok, z_callk, z_callk1, z_callk2, z_mkF, z_mkF_ok, z_own1, z_own1_ok, z_prop, z_own2, z_own2_ok, z_val, z_val_ok, z_val_x, z_and, z_and_t, z_and_f, z_or, z_or_t, z_or_f, z_not, z_not_ok, z_yes, z_eand, z_eand_t, z_eand_f, z_eor, z_eor_t, z_eor_f, z_enot, z_enot_ok, z_eif, z_eif_t, z_eif_f, z_for, z_for_v, z_iseq, z_iseq_t, z_iseq_f, z_iseq_r, z_rng, z_rng_ok, z_env0, z_try, z_try_nx, z_try_rt, z_try0, z_try0_nx, z_try0_rt, z_for_l, z_fv0, z_fv_nx, z_fv_ct, z_fv_rt, z_lc_v, z_step, z_step_ok, z_istr, z_istr_ok, z_env0, List.map_cons, List.map_nil, List.replicate, List.append_nil, Nat.reduceSub, List.cons_append, List.nil_append, List.length_cons, List.length_nil, Nat.reduceAdd, Nat.reduceLeDiff, List.getElem?_cons_zero, List.getElem?_cons_succ, List.set_cons_zero, List.set_cons_succ, Bool.not_true, Bool.not_false, e1]) ?_
  simp only [List.set_cons_succ, List.set_cons_zero]
  obtain ⟨pr, s2, e2, hp, h2⟩ := choice_run (R := []) h1
  refine st_set (d := .tup (pr.map D.str)) (M1 := [s2.obj]) (by simp only [z_seq, z_seq_nx, z_seq_rt, z_seq_ex, z_seq_bk, z_seq_ct, z_if, z_if_t, z_if_f, z_if_x, z_set, z_set_ok, z_set_x, z_ret, z_ret_ok, z_ret_x, z_retN, z_do, z_do_ok, z_do_x, z_nil, z_raise0, z_raise, z_raise_ok, z_toR_rt, z_toR_nx, z_toR_ex, z_c, z_var, z_var_ok, z_un, z_un_ok, z_un_x, z_bin, z_bin_ok, z_bin_x, z_anil, z_cons, z_cons1, z_cons1x, z_cons2, z_cons2x, z_args, z_args_ok, z_args_x, z_tup, z_tup_ok, z_fro, z_fro_ok, z_lst, z_lst_ok, z_call, z_stat, z_call_ok, z_callk, z_callk1, z_callk2, z_mkF, z_mkF_ok, z_own1, z_own1_ok, z_prop, z_own2, z_own2_ok, z_val, z_val_ok, z_val_x, z_and, z_and_t, z_and_f, z_or, z_or_t, z_or_f, z_not, z_not_ok, z_yes, z_eand, z_eand_t, z_eand_f, z_eor, z_eor_t, z_eor_f, z_enot, z_enot_ok, z_eif, z_eif_t, z_eif_f, z_for, z_for_v, z_iseq, z_iseq_t, z_iseq_f, z_iseq_r, z_rng, z_rng_ok, z_env0, z_try, z_try_nx, z_try_rt, z_try0, z_try0_nx, z_try0_rt, z_for_l, z_fv0, z_fv_nx, z_fv_ct, z_fv_rt, z_lc_v, z_step, z_step_ok, z_istr, z_istr_ok, z_env0, List.map_cons, List.map_nil, List.replicate, List.append_nil, Nat.reduceSub, List.cons_append, List.nil_append, List.length_cons, List.length_nil, Nat.reduceAdd, Nat.reduceLeDiff, List.getElem?_cons_zero, List.getElem?_cons_succ, List.set_cons_zero, List.set_cons_succ, Bool.not_true, Bool.not_false, e2]) ?_
  simp only [List.set_cons_succ, List.set_cons_zero]
  obtain ⟨x, s3, e3, _, _, h3⟩ := draw_at (R := []) (n := 2) h2 (by decide) (by decide)
  refine st_set (d := .bl (x == 1)) (M1 := [s3.obj]) (by rw [draw_is]; simp only [z_seq, z_seq_nx, z_seq_rt, z_seq_ex, z_seq_bk, z_seq_ct, z_if, z_if_t, z_if_f, z_if_x, z_set, z_set_ok, z_set_x, z_ret, z_ret_ok, z_ret_x, z_retN, z_do, z_do_ok, z_do_x, z_nil, z_raise0, z_raise, z_raise_ok, z_toR_rt, z_toR_nx, z_toR_ex, z_c, z_var, z_var_ok, z_un, z_un_ok, z_un_x, z_bin, z_bin_ok, z_bin_x, z_anil, z_cons, z_cons1, z_cons1x, z_cons2, z_cons2x, z_args, z_args_ok, z_args_x, z_tup, z_tup_ok, z_fro, z_fro_ok, z_lst, z_lst_ok, z_call, z_stat, z_call_ok, z_callk, z_callk1, z_callk2, z_mkF, z_mkF_ok, z_own1, z_own1_ok, z_prop, z_own2, z_own2_ok, z_val, z_val_ok, z_val_x, z_and, z_and_t, z_and_f, z_or, z_or_t, z_or_f, z_not, z_not_ok, z_yes, z_eand, z_eand_t, z_eand_f, z_eor, z_eor_t, z_eor_f, z_enot, z_enot_ok, z_eif, z_eif_t, z_eif_f, z_for, z_for_v, z_iseq, z_iseq_t, z_iseq_f, z_iseq_r, z_rng, z_rng_ok, z_env0, z_try, z_try_nx, z_try_rt, z_try0, z_try0_nx, z_try0_rt, z_for_l, z_fv0, z_fv_nx, z_fv_ct, z_fv_rt, z_lc_v, z_step, z_step_ok, z_istr, z_istr_ok, z_env0, List.map_cons, List.map_nil, List.replicate, List.append_nil, Nat.reduceSub, List.cons_append, List.nil_append, List.length_cons, List.length_nil, Nat.reduceAdd, Nat.reduceLeDiff, List.getElem?_cons_zero, List.getElem?_cons_succ, List.set_cons_zero, List.set_cons_succ, Bool.not_true, Bool.not_false, e3, eq_int]) ?_
  simp only [List.set_cons_succ, List.set_cons_zero]
  refine st_set (book_run rfl rfl rfl hn hp) ?_
  simp only [List.set_cons_succ, List.set_cons_zero]
  generalize (x == 1) = r
  refine st_set (d := .ref 2) (M1 := [s3.obj, bkO (.bl r) nm pr, .ob 1 sN [.ref 1, .ref 3], .dt [] []]) (by kernel_rfl) ?_
  simp only [List.set_cons_succ, List.set_cons_zero]
  refine st_set (d := .ref 4) (M1 := [s3.obj, bkO (.bl r) nm pr, .ob 1 sN [.ref 1, .ref 3], .dt [] [], .ob 1 sN [.ref 1, .ref 5], .dt [] []]) (by kernel_rfl) ?_
  simp only [List.set_cons_succ, List.set_cons_zero]
  refine st_set (d := .ref 6) (M1 := mm s3.obj (.bl r) nm pr [] [] [] [] []) rfl ?_
  simp only [List.set_cons_succ, List.set_cons_zero]
  have Wn := chs_wl nm hn
  have Wp := chs_wl pr hp
  have k0 : DOk 0 [] [] := ⟨rfl, Nat.le_refl _, by simp⟩
  obtain ⟨G, e4⟩ := mm_fit (b := s3.obj) (sv := .bl r) (G := []) (ps := [0, 3]) k0 Wn Wp (by simp)
  have e4' : m_law_all_fit [.ref 2, .ref 6, .tup (pr.map D.str), .tup (nm.map D.str), .fro [.int 0, .int 3]] (mm s3.obj (.bl r) nm pr [] [] [] [] []) = .ok (.bl true) (mm s3.obj (.bl r) nm pr [] [] [] [] G) := e4
  refine st_ask (M1 := mm s3.obj (.bl r) nm pr [] [] [] [] G) (by simp only [z_seq, z_seq_nx, z_seq_rt, z_seq_ex, z_seq_bk, z_seq_ct, z_if, z_if_t, z_if_f, z_if_x, z_set, z_set_ok, z_set_x, z_ret, z_ret_ok, z_ret_x, z_retN, z_do, z_do_ok, z_do_x, z_nil, z_raise0, z_raise, z_raise_ok, z_toR_rt, z_toR_nx, z_toR_ex, z_c, z_var, z_var_ok, z_un, z_un_ok, z_un_x, z_bin, z_bin_ok, z_bin_x, z_anil, z_cons, z_cons1, z_cons1x, z_cons2, z_cons2x, z_args, z_args_ok, z_args_x, z_tup, z_tup_ok, z_fro, z_fro_ok, z_lst, z_lst_ok, z_call, z_stat, z_call_ok, z_callk, z_callk1, z_callk2, z_mkF, z_mkF_ok, z_own1, z_own1_ok, z_prop, z_own2, z_own2_ok, z_val, z_val_ok, z_val_x, z_and, z_and_t, z_and_f, z_or, z_or_t, z_or_f, z_not, z_not_ok, z_yes, z_eand, z_eand_t, z_eand_f, z_eor, z_eor_t, z_eor_f, z_enot, z_enot_ok, z_eif, z_eif_t, z_eif_f, z_for, z_for_v, z_iseq, z_iseq_t, z_iseq_f, z_iseq_r, z_rng, z_rng_ok, z_env0, z_try, z_try_nx, z_try_rt, z_try0, z_try0_nx, z_try0_rt, z_for_l, z_fv0, z_fv_nx, z_fv_ct, z_fv_rt, z_lc_v, z_step, z_step_ok, z_istr, z_istr_ok, z_env0, List.map_cons, List.map_nil, List.replicate, List.append_nil, Nat.reduceSub, List.cons_append, List.nil_append, List.length_cons, List.length_nil, Nat.reduceAdd, Nat.reduceLeDiff, List.getElem?_cons_zero, List.getElem?_cons_succ, List.set_cons_zero, List.set_cons_succ, Bool.not_true, Bool.not_false, e4']) ?_
  obtain ⟨y, s5, e5, y0, y1, h5⟩ := draw_at (R := (mm s3.obj (.bl r) nm pr [] [] [] [] G).tail) (n := 12) h3 (by decide) (by decide)
  have e5' : drawM [.ref 0, .int 12] (mm s3.obj (.bl r) nm pr [] [] [] [] G) = .ok (.int y) (mm s5.obj (.bl r) nm pr [] [] [] [] G) := e5
  obtain ⟨m, hm, hm2⟩ : ∃ m : Nat, (16 - y) = (m : Nat) ∧ m ≤ 16 := ⟨(16 - y).toNat, by omega, by omega⟩
  have hr : qRng (.ok (.int (m : Nat)) (mm s5.obj (.bl r) nm pr [] [] [] [] G)) = .ok (.vals (rangeD 0 m)) (mm s5.obj (.bl r) nm pr [] [] [] [] G) := by
    have := z_rng_ok (i := (m : Nat)) (M1 := mm s5.obj (.bl r) nm pr [] [] [] [] G) (by omega) (by omega)
    simpa using this
  obtain ⟨e', M', e6, s', ks, ds, G', b9, b10, b11, b12, b13, rfl, rfl, h', k'⟩ := loop_inv (body := lp_law_1) (tg := tgName 9) (I := fun k e M => ∃ (s' : Bx) (ks : List (List Key)) (ds : List D) (G' : MH) (b9 b10 b11 b12 b13 : Option D), e = ev a0 nm pr (some (.bl r)) (some (.ref 1)) (some (.ref 4)) b9 b10 b11 b12 b13 ∧ M = mm s'.obj (.bl r) nm pr ks ds ks ds G' ∧ BxOk s' ∧ DOk (2 * k) ks ds) (rangeD 0 m) 0
    (ev a0 nm pr (some (.bl r)) (some (.ref 1)) (some (.ref 4)) none none none none none) (mm s5.obj (.bl r) nm pr [] [] [] [] G) ⟨s5, [], [], G, _, _, _, _, _, rfl, rfl, h5, k0⟩ (by
      rintro j hj e M ⟨s', ks, ds, G', b9, b10, b11, b12, b13, rfl, rfl, h', k'⟩
      have hj' := hj
      rw [rangeD_len] at hj'
      rw [Nat.zero_add] at k' ⊢
      obtain ⟨s6, ks6, ds6, G6, c10, c11, c12, c13, e7, h6, k6⟩ := turn_run (a0 := a0) (a4 := some (.bl r)) (a5 := some (.ref 1)) (a7 := some (.ref 4)) (a10 := b10) (a11 := b11) (a12 := b12) (a13 := b13) (G := G') (r := r) h' k' (by omega) Wn Wp (some (.int (j : Nat)))
      refine ⟨_, _, _, rfl, ?_, s6, ks6, ds6, G6, some (.int (j : Nat)), c10, c11, c12, c13, rfl, rfl, h6, by rw [show 2 * (j + 1) = 2 * j + 2 by omega]; exact k6⟩
      rw [rg_at hj]
      exact e7)
  rw [rangeD_len, Nat.zero_add] at k'
  refine st_for (M0 := mm s5.obj (.bl r) nm pr [] [] [] [] G) (by rw [draw_is]; simp only [z_seq, z_seq_nx, z_seq_rt, z_seq_ex, z_seq_bk, z_seq_ct, z_if, z_if_t, z_if_f, z_if_x, z_set, z_set_ok, z_set_x, z_ret, z_ret_ok, z_ret_x, z_retN, z_do, z_do_ok, z_do_x, z_nil, z_raise0, z_raise, z_raise_ok, z_toR_rt, z_toR_nx, z_toR_ex, z_c, z_var, z_var_ok, z_un, z_un_ok, z_un_x, z_bin, z_bin_ok, z_bin_x, z_anil, z_cons, z_cons1, z_cons1x, z_cons2, z_cons2x, z_args, z_args_ok, z_args_x, z_tup, z_tup_ok, z_fro, z_fro_ok, z_lst, z_lst_ok, z_call, z_stat, z_call_ok, z_callk, z_callk1, z_callk2, z_mkF, z_mkF_ok, z_own1, z_own1_ok, z_prop, z_own2, z_own2_ok, z_val, z_val_ok, z_val_x, z_and, z_and_t, z_and_f, z_or, z_or_t, z_or_f, z_not, z_not_ok, z_yes, z_eand, z_eand_t, z_eand_f, z_eor, z_eor_t, z_eor_f, z_enot, z_enot_ok, z_eif, z_eif_t, z_eif_f, z_for, z_for_v, z_iseq, z_iseq_t, z_iseq_f, z_iseq_r, z_rng, z_rng_ok, z_env0, z_try, z_try_nx, z_try_rt, z_try0, z_try0_nx, z_try0_rt, z_for_l, z_fv0, z_fv_nx, z_fv_ct, z_fv_rt, z_lc_v, z_step, z_step_ok, z_istr, z_istr_ok, z_env0, List.map_cons, List.map_nil, List.replicate, List.append_nil, Nat.reduceSub, List.cons_append, List.nil_append, List.length_cons, List.length_nil, Nat.reduceAdd, Nat.reduceLeDiff, List.getElem?_cons_zero, List.getElem?_cons_succ, List.set_cons_zero, List.set_cons_succ, Bool.not_true, Bool.not_false, e5', sub_int, hm, hr]) e6 ?_
  obtain ⟨is, e7, hil⟩ := edges_run (b := s'.obj) (sv := .bl r) (nm := nm) (pr := pr) (G := G') k' (by omega)
  obtain ⟨G8, e8⟩ := mm_fit (b := s'.obj) (sv := .bl r) (G := G') (ps := is) k' Wn Wp hil
  refine st_ask (M1 := mm s'.obj (.bl r) nm pr ks ds ks ds G8) (by simp only [z_seq, z_seq_nx, z_seq_rt, z_seq_ex, z_seq_bk, z_seq_ct, z_if, z_if_t, z_if_f, z_if_x, z_set, z_set_ok, z_set_x, z_ret, z_ret_ok, z_ret_x, z_retN, z_do, z_do_ok, z_do_x, z_nil, z_raise0, z_raise, z_raise_ok, z_toR_rt, z_toR_nx, z_toR_ex, z_c, z_var, z_var_ok, z_un, z_un_ok, z_un_x, z_bin, z_bin_ok, z_bin_x, z_anil, z_cons, z_cons1, z_cons1x, z_cons2, z_cons2x, z_args, z_args_ok, z_args_x, z_tup, z_tup_ok, z_fro, z_fro_ok, z_lst, z_lst_ok, z_call, z_stat, z_call_ok, z_callk, z_callk1, z_callk2, z_mkF, z_mkF_ok, z_own1, z_own1_ok, z_prop, z_own2, z_own2_ok, z_val, z_val_ok, z_val_x, z_and, z_and_t, z_and_f, z_or, z_or_t, z_or_f, z_not, z_not_ok, z_yes, z_eand, z_eand_t, z_eand_f, z_eor, z_eor_t, z_eor_f, z_enot, z_enot_ok, z_eif, z_eif_t, z_eif_f, z_for, z_for_v, z_iseq, z_iseq_t, z_iseq_f, z_iseq_r, z_rng, z_rng_ok, z_env0, z_try, z_try_nx, z_try_rt, z_try0, z_try0_nx, z_try0_rt, z_for_l, z_fv0, z_fv_nx, z_fv_ct, z_fv_rt, z_lc_v, z_step, z_step_ok, z_istr, z_istr_ok, z_env0, List.map_cons, List.map_nil, List.replicate, List.append_nil, Nat.reduceSub, List.cons_append, List.nil_append, List.length_cons, List.length_nil, Nat.reduceAdd, Nat.reduceLeDiff, List.getElem?_cons_zero, List.getElem?_cons_succ, List.set_cons_zero, List.set_cons_succ, Bool.not_true, Bool.not_false, e7, e8]) ?_
  have a9 : At 0 (mm s'.obj (.bl r) nm pr ks ds ks ds G8 ++ [.dt [] []]) 4 5 (mm s'.obj (.bl r) nm pr ks ds ks ds G8).length [] [] (.bl r) nm pr := ⟨rfl, rfl, rfl, by simp, k0⟩
  obtain ⟨G9, e9⟩ := fit_run (ps := [0, 1]) a9 Wn Wp (by simp)
  have e9' : m_law_all_fit [.ref 4, .ref (mm s'.obj (.bl r) nm pr ks ds ks ds G8).length, .tup (pr.map D.str), .tup (nm.map D.str), .fro [.int 0, .int 1]] (mm s'.obj (.bl r) nm pr ks ds ks ds G8 ++ [.dt [] []]) = .ok (.bl true) ((mm s'.obj (.bl r) nm pr ks ds ks ds G8 ++ [.dt [] []]) ++ G9) := e9
  have hd : ∀ e, eDNewT e (mm s'.obj (.bl r) nm pr ks ds ks ds G8) = .ok (.ref (mm s'.obj (.bl r) nm pr ks ds ks ds G8).length) (mm s'.obj (.bl r) nm pr ks ds ks ds G8 ++ [.dt [] []]) := fun _ => rfl
  generalize mm s'.obj (.bl r) nm pr ks ds ks ds G8 = MM at e9' hd
  exact st_ret (M1 := (MM ++ [.dt [] []]) ++ G9) (by simp only [z_seq, z_seq_nx, z_seq_rt, z_seq_ex, z_seq_bk, z_seq_ct, z_if, z_if_t, z_if_f, z_if_x, z_set, z_set_ok, z_set_x, z_ret, z_ret_ok, z_ret_x, z_retN, z_do, z_do_ok, z_do_x, z_nil, z_raise0, z_raise, z_raise_ok, z_toR_rt, z_toR_nx, z_toR_ex, z_c, z_var, z_var_ok, z_un, z_un_ok, z_un_x, z_bin, z_bin_ok, z_bin_x, z_anil, z_cons, z_cons1, z_cons1x, z_cons2, z_cons2x, z_args, z_args_ok, z_args_x, z_tup, z_tup_ok, z_fro, z_fro_ok, z_lst, z_lst_ok, z_call, z_stat, z_call_ok, z_callk, z_callk1, z_callk2, z_mkF, z_mkF_ok, z_own1, z_own1_ok, z_prop, z_own2, z_own2_ok, z_val, z_val_ok, z_val_x, z_and, z_and_t, z_and_f, z_or, z_or_t, z_or_f, z_not, z_not_ok, z_yes, z_eand, z_eand_t, z_eand_f, z_eor, z_eor_t, z_eor_f, z_enot, z_enot_ok, z_eif, z_eif_t, z_eif_f, z_for, z_for_v, z_iseq, z_iseq_t, z_iseq_f, z_iseq_r, z_rng, z_rng_ok, z_env0, z_try, z_try_nx, z_try_rt, z_try0, z_try0_nx, z_try0_rt, z_for_l, z_fv0, z_fv_nx, z_fv_ct, z_fv_rt, z_lc_v, z_step, z_step_ok, z_istr, z_istr_ok, z_env0, List.map_cons, List.map_nil, List.replicate, List.append_nil, Nat.reduceSub, List.cons_append, List.nil_append, List.length_cons, List.length_nil, Nat.reduceAdd, Nat.reduceLeDiff, List.getElem?_cons_zero, List.getElem?_cons_succ, List.set_cons_zero, List.set_cons_succ, Bool.not_true, Bool.not_false, hd, e9'])
theorem law_sp {K : PySem.W.Frag} {ad : Nat → Addr} {vs : List V} {H : Hp} {Q : VK} {E : L2.XK} (hs : spLaw K vs H Q E) : spD ⟨K, ad⟩ 1 m_law vs H Q E := sp_of_true law_true hs
end K48
namespace K48
open PySem L2 T2
theorem walk {l : PySem.W.OpenLaw} {q : Program} {loose : List Str} {XP : (Str → Option Value) → Heap → Prop} {YP : World → Heap → Prop} {d : DefRec} {K : Params → PySem.W.Frag} (hn : l.most = some 63) (hdf : d.params.defaults = [])
    (hY : ∀ (w : World) (h : Heap), YP w h → (K w.params).In h)
    (F : ∀ (w : World) (mg : Str → Option Value) (fa : Addr) (h : Heap), (K w.params).In h → h.Ns mainGlobals mg → mg d.name = some (.ref fa) →
      ∃ fd : FuncData, (∀ (s : Shared) (u : Value), BindsTo s fd ⟨[u], []⟩ [("_law_script", u)]) ∧ ∀ base : Heap, (K w.params).In base → base.Ns mainGlobals mg → ∃ ad : Nat → Addr, FnOk l.prog w (K w.params) mg base (L2N.CX l.prog w) 15 fa fd ["_law_script"] (spD ⟨K w.params, ad⟩ 1 m_law)) :
    PySem.W.WalkO q loose XP YP l.row.toRowW d [] (fun f vs => PySem.call f vs) :=
  L2.walk_of (n := 63) (k := 15) (x := "_law_script") (CX := fun w => L2N.CX l.prog w) (sp := fun w => spLaw (K w.params)) hn (by decide) hdf ⟨rfl, by decide, by decide⟩ hY (fun w mg fa h KI GN hmg => (F w mg fa h KI GN hmg).imp fun fd hF => ⟨hF.1, fun base b1 b2 => (hF.2 base b1 b2).elim fun ad hok => hok.imp fun vs H Q Ex hs => law_sp hs⟩) (fun w H a ns hl _ hS => ⟨a, ns, rfl, hl, hS, fun _ => rfl⟩) fun w H s e s' hc => no_exc hc
end K48
namespace K48
open PySem L2 T2
theorem all_mk {l : PySem.W.OpenLaw} {w : World} {K : PySem.W.Frag} {h : Heap} {mg : Str → Option Value} {fa : Addr} (X : K.In h) (G : h.Ns mainGlobals mg) (hfa : mg "law" = some (.ref fa))
    {f14 f1 f10 f20 f21 f22 f24 f11 z45 z46 z58 f12 f15 z82 f2 f23 f3 f25 f8 f27 f7 f29 f28 f4 f5 f26 f6 f30 f31 f13 z226 z227 z228 z229 z230 z231 z232 z233 z273 z279 : Addr} {z1 z3 z4 z5 z7 z8 z10 z12 z13 z14 z16 z17 z19 z21 z22 z23 z25 z26 z28 z30 z31 z32 z34 z35 z37 z39 z40 z41 z43 z47 z53 z71 z73 z74 z75 z77 z78 z80 z83 z84 z86 z87 z91 z93 z94 z95 z97 z98 z100 z102 z103 z104 z106 z107 z109 z111 z112 z113 z115 z116 z118 z120 z121 z122 z124 z125 z127 z129 z130 z131 z133 z134 z136 z138 z139 z140 z142 z143 z145 z147 z148 z149 z151 z152 z154 z156 z157 z158 z160 z161 z163 z165 z166 z167 z169 z170 z172 z174 z175 z176 z178 z179 z181 z183 z184 z185 z187 z188 z190 z192 z193 z194 z196 z197 z199 z201 z202 z203 z205 z206 z208 z210 z211 z212 z214 z215 z217 z219 z220 z221 z223 z224 : Value} {z2 z6 z11 z15 z20 z24 z29 z33 z38 z42 z48 z54 z65 z72 z76 z81 z85 z92 z96 z101 z105 z110 z114 z119 z123 z128 z132 z137 z141 z146 z150 z155 z159 z164 z168 z173 z177 z182 z186 z191 z195 z200 z204 z209 z213 z218 z222 z236 z239 z243 z247 z251 z256 z261 z266 z272 z278 z284 : Option Addr} {z9 z18 z27 z36 z44 z50 z55 z79 z88 z99 z108 z117 z126 z135 z144 z153 z162 z171 z180 z189 z198 z207 z216 z225 z235 z238 z242 z246 z250 z255 z260 z265 z271 z277 z283 : Array (Option Value)} {z49 : Array Value} {z51 z56 z57 : Str} {z52 z89 z90 z240 z244 z248 z252 z253 z257 z258 z262 z263 z267 z268 z269 z274 z275 z280 z281 : Tok} {z59 z60 z62 : List Value} {z61 : List Str} {z63 : Bool} {z64 : Option Bool} {z66 z67 z68 z69 z70 : Option Value} {z234 z237 z241 z245 z249 z254 z259 z264 z270 z276 z282 : Nat}
    (a14 : PySem.W.nsIn K mainGlobals "CopyBook" = some (some (.ref f14)))
    (a1 : PySem.W.nsIn K mainGlobals "Sessions" = some (some (.ref f1)))
    (a10 : PySem.W.nsIn K mainGlobals "InvalidBook" = some (some (.ref f10)))
    (a20 : PySem.W.nsIn K mainGlobals "_law_box" = some (some (.ref f20)))
    (l20 : K.lookup f20 = some ⟨z1, z2, .func (PySem.W.fnOf "_law_box" "_law_box" (defArgs s_law_box) (defBody s_law_box) (defScope s_law_box) .none z3 z4 z5 z6 z7 z8), z9⟩)
    (c20 : PySem.W.codeIn K z7 "_law_box" = true)
    (k20 : PySem.W.keepIn K (.ref f20) = true)
    (a21 : PySem.W.nsIn K mainGlobals "_law_draw" = some (some (.ref f21)))
    (l21 : K.lookup f21 = some ⟨z10, z11, .func (PySem.W.fnOf "_law_draw" "_law_draw" (defArgs s_law_draw) (defBody s_law_draw) (defScope s_law_draw) .none z12 z13 z14 z15 z16 z17), z18⟩)
    (c21 : PySem.W.codeIn K z16 "_law_draw" = true)
    (k21 : PySem.W.keepIn K (.ref f21) = true)
    (a22 : PySem.W.nsIn K mainGlobals "_law_pick" = some (some (.ref f22)))
    (l22 : K.lookup f22 = some ⟨z19, z20, .func (PySem.W.fnOf "_law_pick" "_law_pick" (defArgs s_law_pick) (defBody s_law_pick) (defScope s_law_pick) .none z21 z22 z23 z24 z25 z26), z27⟩)
    (c22 : PySem.W.codeIn K z25 "_law_pick" = true)
    (k22 : PySem.W.keepIn K (.ref f22) = true)
    (a24 : PySem.W.nsIn K mainGlobals "_law_choice" = some (some (.ref f24)))
    (l24 : K.lookup f24 = some ⟨z28, z29, .func (PySem.W.fnOf "_law_choice" "_law_choice" (defArgs s_law_choice) (defBody s_law_choice) (defScope s_law_choice) .none z30 z31 z32 z33 z34 z35), z36⟩)
    (c24 : PySem.W.codeIn K z34 "_law_choice" = true)
    (k24 : PySem.W.keepIn K (.ref f24) = true)
    (om11 : PySem.W.findIn K (.ref f10) "__init__" = some (some (.ref f11)))
    (l11 : K.lookup f11 = some ⟨z37, z38, .func (PySem.W.ksFn "__init__" "InvalidBook.__init__" (defArgs s_InvalidBook___init__) (defBody s_InvalidBook___init__) (defScope s_InvalidBook___init__) .none z39 z40 z41 z42 (.ref z45) z43 z46), z44⟩)
    (c11 : PySem.W.codeIn K (.ref z45) "InvalidBook.__init__" = true)
    (oc11 : K.lookup z45 = some ⟨z47, z48, .fields z49, z50⟩)
    (ov11 : z49[2]? = some (.str z51 z52))
    (of_11 : ((l.prog.main.file : Str) == z51) = true)
    (oe11 : K.lookup z46 = some ⟨z53, z54, .cell (some (.ref f10)), z55⟩)
    (om_10 : PySem.W.mroIn K f10 (.ref f10) = some true)
    (n_super : PySem.W.nsIn K mainGlobals "super" = some none)
    (othird : PySem.W.nsIn K cStatics "thirdparty.any" = some none)
    (osin10 : PySem.W.ks_superIn K f10 f10 "__init__" = some (some (.builtin "ValueError.__init__")))
    (oisv10 : PySem.W.subIn K (.ref f10) (.type "ValueError") = some true)
    (otop : (l.prog.main.scope.names.lookup ("super" : Str)).isSome = false)
    (ok_10 : K.lookup f10 = some (excClassObj z56 z57 f10 z58 z59 z60 true z61 z62 z63 z64 z65 z66 z67 z68 z69 z70 "ValueError.__new__"))
    (ob_10 : PySem.HandSPX.refsVE z60 = true)
    (csa10 : PySem.W.findIn K (.ref f10) "__setattr__" = some (some (.builtin "object.__setattr__")))
    (xb10 : PySem.W.subIn K (.ref f10) (.type "BaseException") = some true)
    (xt10 : PySem.W.typeIn K (.ref f10) = some (.type "type"))
    (kp10 : PySem.W.keepIn K (.ref f10) = true)
    (ot10 : PySem.W.typeIn K (.ref f11) = some (.type "function"))
    (ofl10_part : PySem.W.findIn K (.ref f10) "part" = some none)
    (a12 : PySem.W.nsIn K mainGlobals "check_word" = some (some (.ref f12)))
    (l12 : K.lookup f12 = some ⟨z71, z72, .func (PySem.W.fnOf "check_word" "check_word" (defArgs s_check_word) (defBody s_check_word) (defScope s_check_word) .none z73 z74 z75 z76 z77 z78), z79⟩)
    (c12 : PySem.W.codeIn K z77 "check_word" = true)
    (k12 : PySem.W.keepIn K (.ref f12) = true)
    (om15 : PySem.W.findIn K (.ref f14) "__init__" = some (some (.ref f15)))
    (l15 : K.lookup f15 = some ⟨z80, z81, .func (PySem.W.fnOf "__init__" "CopyBook.__init__" (defArgs s_CopyBook___init__) (defBody s_CopyBook___init__) (defScope s_CopyBook___init__) .none (.ref z82) z83 z84 z85 z86 z87), z88⟩)
    (c15 : PySem.W.codeIn K z86 "CopyBook.__init__" = true)
    (k15 : PySem.W.keepIn K (.ref f15) = true)
    (w15_0 : PySem.W.nsIn K z82 "served" = some (some (.bool false)))
    (w15_1 : PySem.W.nsIn K z82 "hides" = some (some (.bool true)))
    (w15_2 : PySem.W.nsIn K z82 "indexes" = some (some (.str "own" z89)))
    (w15_3 : PySem.W.nsIn K z82 "summaries" = some (some (.str "own" z90)))
    (om2 : PySem.W.findIn K (.ref f1) "__init__" = some (some (.ref f2)))
    (l2 : K.lookup f2 = some ⟨z91, z92, .func (PySem.W.fnOf "__init__" "Sessions.__init__" (defArgs s_Sessions___init__) (defBody s_Sessions___init__) (defScope s_Sessions___init__) .none z93 z94 z95 z96 z97 z98), z99⟩)
    (c2 : PySem.W.codeIn K z97 "Sessions.__init__" = true)
    (k2 : PySem.W.keepIn K (.ref f2) = true)
    (a23 : PySem.W.nsIn K mainGlobals "_law_alike" = some (some (.ref f23)))
    (l23 : K.lookup f23 = some ⟨z100, z101, .func (PySem.W.fnOf "_law_alike" "_law_alike" (defArgs s_law_alike) (defBody s_law_alike) (defScope s_law_alike) .none z102 z103 z104 z105 z106 z107), z108⟩)
    (c23 : PySem.W.codeIn K z106 "_law_alike" = true)
    (k23 : PySem.W.keepIn K (.ref f23) = true)
    (om3 : PySem.W.findIn K (.ref f1) "mark" = some (some (.ref f3)))
    (l3 : K.lookup f3 = some ⟨z109, z110, .func (PySem.W.fnOf "mark" "Sessions.mark" (defArgs s_Sessions_mark) (defBody s_Sessions_mark) (defScope s_Sessions_mark) .none z111 z112 z113 z114 z115 z116), z117⟩)
    (c3 : PySem.W.codeIn K z115 "Sessions.mark" = true)
    (k3 : PySem.W.keepIn K (.ref f3) = true)
    (a25 : PySem.W.nsIn K mainGlobals "_law_mark" = some (some (.ref f25)))
    (l25 : K.lookup f25 = some ⟨z118, z119, .func (PySem.W.fnOf "_law_mark" "_law_mark" (defArgs s_law_mark) (defBody s_law_mark) (defScope s_law_mark) .none z120 z121 z122 z123 z124 z125), z126⟩)
    (c25 : PySem.W.codeIn K z124 "_law_mark" = true)
    (k25 : PySem.W.keepIn K (.ref f25) = true)
    (om8 : PySem.W.findIn K (.ref f1) "broken" = some (some (.ref f8)))
    (l8 : K.lookup f8 = some ⟨z127, z128, .func (PySem.W.fnOf "broken" "Sessions.broken" (defArgs s_Sessions_broken) (defBody s_Sessions_broken) (defScope s_Sessions_broken) .none z129 z130 z131 z132 z133 z134), z135⟩)
    (c8 : PySem.W.codeIn K z133 "Sessions.broken" = true)
    (k8 : PySem.W.keepIn K (.ref f8) = true)
    (a27 : PySem.W.nsIn K mainGlobals "_law_above" = some (some (.ref f27)))
    (l27 : K.lookup f27 = some ⟨z136, z137, .func (PySem.W.fnOf "_law_above" "_law_above" (defArgs s_law_above) (defBody s_law_above) (defScope s_law_above) .none z138 z139 z140 z141 z142 z143), z144⟩)
    (c27 : PySem.W.codeIn K z142 "_law_above" = true)
    (k27 : PySem.W.keepIn K (.ref f27) = true)
    (om7 : PySem.W.findIn K (.ref f1) "lets" = some (some (.ref f7)))
    (l7 : K.lookup f7 = some ⟨z145, z146, .func (PySem.W.fnOf "lets" "Sessions.lets" (defArgs s_Sessions_lets) (defBody s_Sessions_lets) (defScope s_Sessions_lets) .none z147 z148 z149 z150 z151 z152), z153⟩)
    (c7 : PySem.W.codeIn K z151 "Sessions.lets" = true)
    (k7 : PySem.W.keepIn K (.ref f7) = true)
    (a29 : PySem.W.nsIn K mainGlobals "_law_all_fit" = some (some (.ref f29)))
    (l29 : K.lookup f29 = some ⟨z154, z155, .func (PySem.W.fnOf "_law_all_fit" "_law_all_fit" (defArgs s_law_all_fit) (defBody s_law_all_fit) (defScope s_law_all_fit) .none z156 z157 z158 z159 z160 z161), z162⟩)
    (c29 : PySem.W.codeIn K z160 "_law_all_fit" = true)
    (k29 : PySem.W.keepIn K (.ref f29) = true)
    (a28 : PySem.W.nsIn K mainGlobals "_law_position" = some (some (.ref f28)))
    (l28 : K.lookup f28 = some ⟨z163, z164, .func (PySem.W.fnOf "_law_position" "_law_position" (defArgs s_law_position) (defBody s_law_position) (defScope s_law_position) .none z165 z166 z167 z168 z169 z170), z171⟩)
    (c28 : PySem.W.codeIn K z169 "_law_position" = true)
    (k28 : PySem.W.keepIn K (.ref f28) = true)
    (om4 : PySem.W.findIn K (.ref f1) "raise_mark" = some (some (.ref f4)))
    (l4 : K.lookup f4 = some ⟨z172, z173, .func (PySem.W.fnOf "raise_mark" "Sessions.raise_mark" (defArgs s_Sessions_raise_mark) (defBody s_Sessions_raise_mark) (defScope s_Sessions_raise_mark) .none z174 z175 z176 z177 z178 z179), z180⟩)
    (c4 : PySem.W.codeIn K z178 "Sessions.raise_mark" = true)
    (k4 : PySem.W.keepIn K (.ref f4) = true)
    (om5 : PySem.W.findIn K (.ref f1) "ended" = some (some (.ref f5)))
    (l5 : K.lookup f5 = some ⟨z181, z182, .func (PySem.W.fnOf "ended" "Sessions.ended" (defArgs s_Sessions_ended) (defBody s_Sessions_ended) (defScope s_Sessions_ended) .none z183 z184 z185 z186 z187 z188), z189⟩)
    (c5 : PySem.W.codeIn K z187 "Sessions.ended" = true)
    (k5 : PySem.W.keepIn K (.ref f5) = true)
    (a26 : PySem.W.nsIn K mainGlobals "_law_rise" = some (some (.ref f26)))
    (l26 : K.lookup f26 = some ⟨z190, z191, .func (PySem.W.fnOf "_law_rise" "_law_rise" (defArgs s_law_rise) (defBody s_law_rise) (defScope s_law_rise) .none z192 z193 z194 z195 z196 z197), z198⟩)
    (c26 : PySem.W.codeIn K z196 "_law_rise" = true)
    (k26 : PySem.W.keepIn K (.ref f26) = true)
    (om6 : PySem.W.findIn K (.ref f1) "answered" = some (some (.ref f6)))
    (l6 : K.lookup f6 = some ⟨z199, z200, .func (PySem.W.fnOf "answered" "Sessions.answered" (defArgs s_Sessions_answered) (defBody s_Sessions_answered) (defScope s_Sessions_answered) .none z201 z202 z203 z204 z205 z206), z207⟩)
    (c6 : PySem.W.codeIn K z205 "Sessions.answered" = true)
    (k6 : PySem.W.keepIn K (.ref f6) = true)
    (a30 : PySem.W.nsIn K mainGlobals "_law_edges" = some (some (.ref f30)))
    (l30 : K.lookup f30 = some ⟨z208, z209, .func (PySem.W.fnOf "_law_edges" "_law_edges" (defArgs s_law_edges) (defBody s_law_edges) (defScope s_law_edges) .none z210 z211 z212 z213 z214 z215), z216⟩)
    (c30 : PySem.W.codeIn K z214 "_law_edges" = true)
    (k30 : PySem.W.keepIn K (.ref f30) = true)
    (a31 : PySem.W.nsIn K mainGlobals "law" = some (some (.ref f31)))
    (l31 : K.lookup f31 = some ⟨z217, z218, .func (PySem.W.fnOf "law" "law" (defArgs s_law) (defBody s_law) (defScope s_law) .none z219 z220 z221 z222 z223 z224), z225⟩)
    (c31 : PySem.W.codeIn K z223 "law" = true)
    (k31 : PySem.W.keepIn K (.ref f31) = true)
    (mm14 : PySem.W.makesIn K f14 = true)
    (of15 : PySem.W.isFn K (.ref f15) = true)
    (kp14 : PySem.W.keepIn K (.ref f14) = true)
    (mm1 : PySem.W.makesIn K f1 = true)
    (of2 : PySem.W.isFn K (.ref f2) = true)
    (kp1 : PySem.W.keepIn K (.ref f1) = true)
    (n_range : PySem.W.nsIn K mainGlobals "range" = some none)
    (cpg1 : PySem.W.plainGet K f1 Str.empty = true)
    (chd1 : PySem.W.hasDictIn K f1 = true)
    (cpo1 : PySem.W.plainOver K f1 = true)
    (csa1 : PySem.W.findIn K (.ref f1) "__setattr__" = some (some (.builtin "object.__setattr__")))
    (of5 : PySem.W.isFn K (.ref f5) = true)
    (of6 : PySem.W.isFn K (.ref f6) = true)
    (of3 : PySem.W.isFn K (.ref f3) = true)
    (of8 : PySem.W.isFn K (.ref f8) = true)
    (of7 : PySem.W.isFn K (.ref f7) = true)
    (n_tuple : PySem.W.nsIn K mainGlobals "tuple" = some none)
    (n_all : PySem.W.nsIn K mainGlobals "all" = some none)
    (na1_book : PySem.W.findIn K (.ref f1) "book" = some none)
    (cpg14 : PySem.W.plainGet K f14 Str.empty = true)
    (chd14 : PySem.W.hasDictIn K f14 = true)
    (cpo14 : PySem.W.plainOver K f14 = true)
    (csa14 : PySem.W.findIn K (.ref f14) "__setattr__" = some (some (.builtin "object.__setattr__")))
    (na14_marks : PySem.W.findIn K (.ref f14) "marks" = some none)
    (na1_heights : PySem.W.findIn K (.ref f1) "heights" = some none)
    (n_isinstance : PySem.W.nsIn K mainGlobals "isinstance" = some none)
    (n_bool : PySem.W.nsIn K mainGlobals "bool" = some none)
    (n_int : PySem.W.nsIn K mainGlobals "int" = some none)
    (n_str : PySem.W.nsIn K mainGlobals "str" = some none)
    (n_len : PySem.W.nsIn K mainGlobals "len" = some none)
    (n_list : PySem.W.nsIn K mainGlobals "list" = some none)
    (na14_promises : PySem.W.findIn K (.ref f14) "promises" = some none)
    (n_max : PySem.W.nsIn K mainGlobals "max" = some none)
    (n_abs : PySem.W.nsIn K mainGlobals "abs" = some none)
    (of4 : PySem.W.isFn K (.ref f4) = true)
    (a13 : PySem.W.nsIn K mainGlobals "CHOICES" = some (some (.ref f13)))
    (r13 : K.lookup f13 = some ⟨.type "tuple", z236, .seq #[.ref z226, .ref z227, .ref z228, .ref z229, .ref z230, .ref z231, .ref z232, .ref z233] z234, z235⟩)
    (r13_0 : K.lookup z226 = some ⟨.type "tuple", z239, .seq #[] z237, z238⟩)
    (r13_1 : K.lookup z227 = some ⟨.type "tuple", z243, .seq #[.str "own" z240] z241, z242⟩)
    (r13_2 : K.lookup z228 = some ⟨.type "tuple", z247, .seq #[.str "seen" z244] z245, z246⟩)
    (r13_3 : K.lookup z229 = some ⟨.type "tuple", z251, .seq #[.str "main" z248] z249, z250⟩)
    (r13_4 : K.lookup z230 = some ⟨.type "tuple", z256, .seq #[.str "own" z252, .str "seen" z253] z254, z255⟩)
    (r13_5 : K.lookup z231 = some ⟨.type "tuple", z261, .seq #[.str "own" z257, .str "main" z258] z259, z260⟩)
    (r13_6 : K.lookup z232 = some ⟨.type "tuple", z266, .seq #[.str "seen" z262, .str "main" z263] z264, z265⟩)
    (r13_7 : K.lookup z233 = some ⟨.type "tuple", z272, .seq #[.str "own" z267, .str "seen" z268, .str "main" z269] z270, z271⟩)
    (ctp14 : PySem.W.typeIn K (.ref f14) = some (.type "type"))
    (crd14 : PySem.W.readsIn K f14 (.type "type") = true)
    (cga14 : PySem.W.specialIn K (.ref f14) "__getattribute__" = some (some (.builtin "type.__getattribute__")))
    (cv14_INDEXES : PySem.W.findCls K (.ref f14) (.type "type") "INDEXES" = some (.val (.ref z273)))
    (ctr14_INDEXES : K.lookup z273 = some ⟨.type "tuple", z278, .seq #[.str "own" z274, .str "start" z275] z276, z277⟩)
    (cv14_SUMMARIES : PySem.W.findCls K (.ref f14) (.type "type") "SUMMARIES" = some (.val (.ref z279)))
    (ctr14_SUMMARIES : K.lookup z279 = some ⟨.type "tuple", z284, .seq #[.str "own" z280, .str "main" z281] z282, z283⟩)
    (na14_served : PySem.W.findIn K (.ref f14) "served" = some none)
    (na14_hides : PySem.W.findIn K (.ref f14) "hides" = some none)
    (na14_indexes : PySem.W.findIn K (.ref f14) "indexes" = some none)
    (na14_summaries : PySem.W.findIn K (.ref f14) "summaries" = some none)
    : ∃ fd : FuncData, (∀ (s : Shared) (v : Value), BindsTo s fd ⟨[v], []⟩ [("_law_script", v)]) ∧ ∀ base : Heap, K.In base → base.Ns mainGlobals mg → ∃ ad : Nat → Addr, FnOk l.prog w K mg base (L2N.CX l.prog w) 15 fa fd ["_law_script"] (spD ⟨K, ad⟩ 1 m_law) := by
  have efa : fa = f31 := Value.ref.inj (Option.some.inj (hfa.symm.trans (PySem.W.mg_of X G a31)))
  have F20 := fun_mk (st := s_law_box) l20 c20 k20
  have b20 := F20.binds (ps := ["_law_script"]) fun _ _ _ _ _ _ us hl => match us, hl with | [_], _ => rfl
  have F21 := fun_mk (st := s_law_draw) l21 c21 k21
  have b21 := F21.binds (ps := ["_law_box_here", "_law_size"]) fun _ _ _ _ _ _ us hl => match us, hl with | [_, _], _ => rfl
  have F22 := fun_mk (st := s_law_pick) l22 c22 k22
  have b22 := F22.binds (ps := ["_law_box_here", "_law_menu"]) fun _ _ _ _ _ _ us hl => match us, hl with | [_, _], _ => rfl
  have F24 := fun_mk (st := s_law_choice) l24 c24 k24
  have b24 := F24.binds (ps := ["_law_box_here"]) fun _ _ _ _ _ _ us hl => match us, hl with | [_], _ => rfl
  have b11 : Binds K (PySem.W.ksFn "__init__" "InvalidBook.__init__" (defArgs s_InvalidBook___init__) (defBody s_InvalidBook___init__) (defScope s_InvalidBook___init__) .none z39 z40 z41 z42 (.ref z45) z43 z46) ["self", "part"] [] := Binds.all fun us hl => match us, hl with | [_, _], _ => rfl
  have F12 := fun_mk (st := s_check_word) l12 c12 k12
  have vb12 : ∀ us rest : List Value, us.length = 2 → bindArgs (PySem.W.fnOf "check_word" "check_word" (defArgs s_check_word) (defBody s_check_word) (defScope s_check_word) .none z73 z74 z75 z76 z77 z78) ⟨us ++ rest, []⟩ = (newTuple rest >>= fun t => pure ((["part", "word"] : List Str).zip us ++ [(("words" : Str), t)])) := fun us rest hl => StX.bind_star2 (B := fun l => bindArgs (PySem.W.fnOf "check_word" "check_word" (defArgs s_check_word) (defBody s_check_word) (defScope s_check_word) .none z73 z74 z75 z76 z77 z78) ⟨l, []⟩) (p1 := "part") (p2 := "word") (pv := "words") (fun _ _ => rfl) (fun _ _ _ _ => rfl) us rest hl
  have F15 : FunD K "__init__" "CopyBook.__init__" (defArgs s_CopyBook___init__) (defBody s_CopyBook___init__) (defScope s_CopyBook___init__) [] [("served", (.bl false : V)), ("hides", (.bl true : V)), ("indexes", (.str "own" : V)), ("summaries", (.str "own" : V))] f15 (PySem.W.fnOf "__init__" "CopyBook.__init__" (defArgs s_CopyBook___init__) (defBody s_CopyBook___init__) (defScope s_CopyBook___init__) .none (.ref z82) z83 z84 z85 z86 z87) := ⟨⟨_, _, _, _, _, _, _, _, _, _, rfl, l15, c15, .inl ⟨rfl, rfl⟩, .inr ⟨_, rfl, fun q hq => by
      simp only [List.mem_cons, List.not_mem_nil, or_false] at hq
      rcases hq with rfl | rfl | rfl | rfl
      · exact ⟨_, w15_0, rfl⟩
      · exact ⟨_, w15_1, rfl⟩
      · exact ⟨_, w15_2, ⟨_, rfl⟩⟩
      · exact ⟨_, w15_3, ⟨_, rfl⟩⟩
    ⟩⟩, k15⟩
  have F2 := fun_mk (st := s_Sessions___init__) l2 c2 k2
  have b2 := F2.binds (ps := ["self", "book"]) fun _ _ _ _ _ _ us hl => match us, hl with | [_, _], _ => rfl
  have F23 := fun_mk (st := s_law_alike) l23 c23 k23
  have b23 := F23.binds (ps := ["_law_actual", "_law_due"]) fun _ _ _ _ _ _ us hl => match us, hl with | [_, _], _ => rfl
  have F3 := fun_mk (st := s_Sessions_mark) l3 c3 k3
  have b3 := F3.binds (ps := ["self", "user", "word"]) fun _ _ _ _ _ _ us hl => match us, hl with | [_, _, _], _ => rfl
  have F25 := fun_mk (st := s_law_mark) l25 c25 k25
  have b25 := F25.binds (ps := ["_law_marks", "_law_user", "_law_word"]) fun _ _ _ _ _ _ us hl => match us, hl with | [_, _, _], _ => rfl
  have F8 := fun_mk (st := s_Sessions_broken) l8 c8 k8
  have b8 := F8.binds (ps := ["self", "user", "position"]) fun _ _ _ _ _ _ us hl => match us, hl with | [_, _, _], _ => rfl
  have F27 := fun_mk (st := s_law_above) l27 c27 k27
  have b27 := F27.binds (ps := ["_law_marks", "_law_user", "_law_words", "_law_position_here"]) fun _ _ _ _ _ _ us hl => match us, hl with | [_, _, _, _], _ => rfl
  have F7 := fun_mk (st := s_Sessions_lets) l7 c7 k7
  have b7 := F7.binds (ps := ["self", "user", "position"]) fun _ _ _ _ _ _ us hl => match us, hl with | [_, _, _], _ => rfl
  have F29 := fun_mk (st := s_law_all_fit) l29 c29 k29
  have b29 := F29.binds (ps := ["_law_sessions", "_law_marks", "_law_promised", "_law_named", "_law_positions"]) fun _ _ _ _ _ _ us hl => match us, hl with | [_, _, _, _, _], _ => rfl
  have F28 := fun_mk (st := s_law_position) l28 c28 k28
  have b28 := F28.binds (ps := ["_law_box_here"]) fun _ _ _ _ _ _ us hl => match us, hl with | [_], _ => rfl
  have F4 := fun_mk (st := s_Sessions_raise_mark) l4 c4 k4
  have b4 := F4.binds (ps := ["self", "user", "word", "position"]) fun _ _ _ _ _ _ us hl => match us, hl with | [_, _, _, _], _ => rfl
  have F5 := fun_mk (st := s_Sessions_ended) l5 c5 k5
  have b5 := F5.binds (ps := ["self", "user", "position", "wrote"]) fun _ _ _ _ _ _ us hl => match us, hl with | [_, _, _, _], _ => rfl
  have F26 := fun_mk (st := s_law_rise) l26 c26 k26
  have b26 := F26.binds (ps := ["_law_marks", "_law_user", "_law_word", "_law_position_here"]) fun _ _ _ _ _ _ us hl => match us, hl with | [_, _, _, _], _ => rfl
  have F6 := fun_mk (st := s_Sessions_answered) l6 c6 k6
  have b6 := F6.binds (ps := ["self", "user", "position"]) fun _ _ _ _ _ _ us hl => match us, hl with | [_, _, _], _ => rfl
  have F30 := fun_mk (st := s_law_edges) l30 c30 k30
  have b30 := F30.binds (ps := ["_law_marks"]) fun _ _ _ _ _ _ us hl => match us, hl with | [_], _ => rfl
  have F31 := fun_mk (st := s_law) l31 c31 k31
  have b31 := F31.binds (ps := ["_law_script"]) fun _ _ _ _ _ _ us hl => match us, hl with | [_], _ => rfl
  have kb_CopyBook___init___1_served_marks_promises := kbn0 F15 (ps := ["self", "served", "marks", "promises", "hides", "indexes", "summaries"]) 1 ["served", "marks", "promises"] [("hides", (.bl true : V)), ("indexes", (.str "own" : V)), ("summaries", (.str "own" : V))] (fun us mv ws => pick [0, 4, 5, 6, 1, 2, 3] (us ++ mv ++ ws)) (by intro h; cases h) (by decide) (fun r1 r2 r3 => pick_vals ((r1.append r2).append r3) _) (fun D doc pm an cdv ct us mv ws h1 h2 h3 => match us, mv, ws, h1, h2, h3 with | [_], [_, _, _], [_, _, _], _, _, _ => ⟨_, _, _, _, _, _, rfl, rfl, ⟨_, _, _, _, _, _, rfl, rfl, ⟨_, _, _, _, _, _, rfl, rfl, rfl⟩⟩⟩)
  obtain ⟨ad, had⟩ : ∃ ad : Nat → Addr, ad = fun n => ([0, f1, f2, f3, f4, f5, f6, f7, f8, 0, f10, f11, f12, f13, f14, f15, 0, 0, 0, 0, f20, f21, f22, f23, f24, f25, f26, f27, f28, f29, f30, f31] : List Addr).getD n 0 := ⟨_, rfl⟩
  obtain ⟨fd, hfd⟩ : ∃ fd : Nat → FuncData, fd = fun n => match n with
    | 2 => PySem.W.fnOf "__init__" "Sessions.__init__" (defArgs s_Sessions___init__) (defBody s_Sessions___init__) (defScope s_Sessions___init__) .none z93 z94 z95 z96 z97 z98
    | 3 => PySem.W.fnOf "mark" "Sessions.mark" (defArgs s_Sessions_mark) (defBody s_Sessions_mark) (defScope s_Sessions_mark) .none z111 z112 z113 z114 z115 z116
    | 4 => PySem.W.fnOf "raise_mark" "Sessions.raise_mark" (defArgs s_Sessions_raise_mark) (defBody s_Sessions_raise_mark) (defScope s_Sessions_raise_mark) .none z174 z175 z176 z177 z178 z179
    | 5 => PySem.W.fnOf "ended" "Sessions.ended" (defArgs s_Sessions_ended) (defBody s_Sessions_ended) (defScope s_Sessions_ended) .none z183 z184 z185 z186 z187 z188
    | 6 => PySem.W.fnOf "answered" "Sessions.answered" (defArgs s_Sessions_answered) (defBody s_Sessions_answered) (defScope s_Sessions_answered) .none z201 z202 z203 z204 z205 z206
    | 7 => PySem.W.fnOf "lets" "Sessions.lets" (defArgs s_Sessions_lets) (defBody s_Sessions_lets) (defScope s_Sessions_lets) .none z147 z148 z149 z150 z151 z152
    | 8 => PySem.W.fnOf "broken" "Sessions.broken" (defArgs s_Sessions_broken) (defBody s_Sessions_broken) (defScope s_Sessions_broken) .none z129 z130 z131 z132 z133 z134
    | 11 => PySem.W.ksFn "__init__" "InvalidBook.__init__" (defArgs s_InvalidBook___init__) (defBody s_InvalidBook___init__) (defScope s_InvalidBook___init__) .none z39 z40 z41 z42 (.ref z45) z43 z46
    | 12 => PySem.W.fnOf "check_word" "check_word" (defArgs s_check_word) (defBody s_check_word) (defScope s_check_word) .none z73 z74 z75 z76 z77 z78
    | 15 => PySem.W.fnOf "__init__" "CopyBook.__init__" (defArgs s_CopyBook___init__) (defBody s_CopyBook___init__) (defScope s_CopyBook___init__) .none (.ref z82) z83 z84 z85 z86 z87
    | 20 => PySem.W.fnOf "_law_box" "_law_box" (defArgs s_law_box) (defBody s_law_box) (defScope s_law_box) .none z3 z4 z5 z6 z7 z8
    | 21 => PySem.W.fnOf "_law_draw" "_law_draw" (defArgs s_law_draw) (defBody s_law_draw) (defScope s_law_draw) .none z12 z13 z14 z15 z16 z17
    | 22 => PySem.W.fnOf "_law_pick" "_law_pick" (defArgs s_law_pick) (defBody s_law_pick) (defScope s_law_pick) .none z21 z22 z23 z24 z25 z26
    | 23 => PySem.W.fnOf "_law_alike" "_law_alike" (defArgs s_law_alike) (defBody s_law_alike) (defScope s_law_alike) .none z102 z103 z104 z105 z106 z107
    | 24 => PySem.W.fnOf "_law_choice" "_law_choice" (defArgs s_law_choice) (defBody s_law_choice) (defScope s_law_choice) .none z30 z31 z32 z33 z34 z35
    | 25 => PySem.W.fnOf "_law_mark" "_law_mark" (defArgs s_law_mark) (defBody s_law_mark) (defScope s_law_mark) .none z120 z121 z122 z123 z124 z125
    | 26 => PySem.W.fnOf "_law_rise" "_law_rise" (defArgs s_law_rise) (defBody s_law_rise) (defScope s_law_rise) .none z192 z193 z194 z195 z196 z197
    | 27 => PySem.W.fnOf "_law_above" "_law_above" (defArgs s_law_above) (defBody s_law_above) (defScope s_law_above) .none z138 z139 z140 z141 z142 z143
    | 28 => PySem.W.fnOf "_law_position" "_law_position" (defArgs s_law_position) (defBody s_law_position) (defScope s_law_position) .none z165 z166 z167 z168 z169 z170
    | 29 => PySem.W.fnOf "_law_all_fit" "_law_all_fit" (defArgs s_law_all_fit) (defBody s_law_all_fit) (defScope s_law_all_fit) .none z156 z157 z158 z159 z160 z161
    | 30 => PySem.W.fnOf "_law_edges" "_law_edges" (defArgs s_law_edges) (defBody s_law_edges) (defScope s_law_edges) .none z210 z211 z212 z213 z214 z215
    | 31 => PySem.W.fnOf "law" "law" (defArgs s_law) (defBody s_law) (defScope s_law) .none z219 z220 z221 z222 z223 z224
    | _ => PySem.W.fnOf "law" "law" (defArgs s_law) (defBody s_law) (defScope s_law) .none z219 z220 z221 z222 z223 z224 := ⟨_, rfl⟩
  have ea1x : ad 1 = f1 := by rw [had]; rfl
  have ea2x : ad 2 = f2 := by rw [had]; rfl
  have ea3x : ad 3 = f3 := by rw [had]; rfl
  have ea4x : ad 4 = f4 := by rw [had]; rfl
  have ea5x : ad 5 = f5 := by rw [had]; rfl
  have ea6x : ad 6 = f6 := by rw [had]; rfl
  have ea7x : ad 7 = f7 := by rw [had]; rfl
  have ea8x : ad 8 = f8 := by rw [had]; rfl
  have ea10x : ad 10 = f10 := by rw [had]; rfl
  have ea11x : ad 11 = f11 := by rw [had]; rfl
  have ea12x : ad 12 = f12 := by rw [had]; rfl
  have ea13x : ad 13 = f13 := by rw [had]; rfl
  have ea14x : ad 14 = f14 := by rw [had]; rfl
  have ea15x : ad 15 = f15 := by rw [had]; rfl
  have ea20x : ad 20 = f20 := by rw [had]; rfl
  have ea21x : ad 21 = f21 := by rw [had]; rfl
  have ea22x : ad 22 = f22 := by rw [had]; rfl
  have ea23x : ad 23 = f23 := by rw [had]; rfl
  have ea24x : ad 24 = f24 := by rw [had]; rfl
  have ea25x : ad 25 = f25 := by rw [had]; rfl
  have ea26x : ad 26 = f26 := by rw [had]; rfl
  have ea27x : ad 27 = f27 := by rw [had]; rfl
  have ea28x : ad 28 = f28 := by rw [had]; rfl
  have ea29x : ad 29 = f29 := by rw [had]; rfl
  have ea30x : ad 30 = f30 := by rw [had]; rfl
  have ea31x : ad 31 = f31 := by rw [had]; rfl
  have ef2x : fd 2 = PySem.W.fnOf "__init__" "Sessions.__init__" (defArgs s_Sessions___init__) (defBody s_Sessions___init__) (defScope s_Sessions___init__) .none z93 z94 z95 z96 z97 z98 := by rw [hfd]; rfl
  have ef3x : fd 3 = PySem.W.fnOf "mark" "Sessions.mark" (defArgs s_Sessions_mark) (defBody s_Sessions_mark) (defScope s_Sessions_mark) .none z111 z112 z113 z114 z115 z116 := by rw [hfd]; rfl
  have ef4x : fd 4 = PySem.W.fnOf "raise_mark" "Sessions.raise_mark" (defArgs s_Sessions_raise_mark) (defBody s_Sessions_raise_mark) (defScope s_Sessions_raise_mark) .none z174 z175 z176 z177 z178 z179 := by rw [hfd]; rfl
  have ef5x : fd 5 = PySem.W.fnOf "ended" "Sessions.ended" (defArgs s_Sessions_ended) (defBody s_Sessions_ended) (defScope s_Sessions_ended) .none z183 z184 z185 z186 z187 z188 := by rw [hfd]; rfl
  have ef6x : fd 6 = PySem.W.fnOf "answered" "Sessions.answered" (defArgs s_Sessions_answered) (defBody s_Sessions_answered) (defScope s_Sessions_answered) .none z201 z202 z203 z204 z205 z206 := by rw [hfd]; rfl
  have ef7x : fd 7 = PySem.W.fnOf "lets" "Sessions.lets" (defArgs s_Sessions_lets) (defBody s_Sessions_lets) (defScope s_Sessions_lets) .none z147 z148 z149 z150 z151 z152 := by rw [hfd]; rfl
  have ef8x : fd 8 = PySem.W.fnOf "broken" "Sessions.broken" (defArgs s_Sessions_broken) (defBody s_Sessions_broken) (defScope s_Sessions_broken) .none z129 z130 z131 z132 z133 z134 := by rw [hfd]; rfl
  have ef11x : fd 11 = PySem.W.ksFn "__init__" "InvalidBook.__init__" (defArgs s_InvalidBook___init__) (defBody s_InvalidBook___init__) (defScope s_InvalidBook___init__) .none z39 z40 z41 z42 (.ref z45) z43 z46 := by rw [hfd]; rfl
  have ef12x : fd 12 = PySem.W.fnOf "check_word" "check_word" (defArgs s_check_word) (defBody s_check_word) (defScope s_check_word) .none z73 z74 z75 z76 z77 z78 := by rw [hfd]; rfl
  have ef15x : fd 15 = PySem.W.fnOf "__init__" "CopyBook.__init__" (defArgs s_CopyBook___init__) (defBody s_CopyBook___init__) (defScope s_CopyBook___init__) .none (.ref z82) z83 z84 z85 z86 z87 := by rw [hfd]; rfl
  have ef20x : fd 20 = PySem.W.fnOf "_law_box" "_law_box" (defArgs s_law_box) (defBody s_law_box) (defScope s_law_box) .none z3 z4 z5 z6 z7 z8 := by rw [hfd]; rfl
  have ef21x : fd 21 = PySem.W.fnOf "_law_draw" "_law_draw" (defArgs s_law_draw) (defBody s_law_draw) (defScope s_law_draw) .none z12 z13 z14 z15 z16 z17 := by rw [hfd]; rfl
  have ef22x : fd 22 = PySem.W.fnOf "_law_pick" "_law_pick" (defArgs s_law_pick) (defBody s_law_pick) (defScope s_law_pick) .none z21 z22 z23 z24 z25 z26 := by rw [hfd]; rfl
  have ef23x : fd 23 = PySem.W.fnOf "_law_alike" "_law_alike" (defArgs s_law_alike) (defBody s_law_alike) (defScope s_law_alike) .none z102 z103 z104 z105 z106 z107 := by rw [hfd]; rfl
  have ef24x : fd 24 = PySem.W.fnOf "_law_choice" "_law_choice" (defArgs s_law_choice) (defBody s_law_choice) (defScope s_law_choice) .none z30 z31 z32 z33 z34 z35 := by rw [hfd]; rfl
  have ef25x : fd 25 = PySem.W.fnOf "_law_mark" "_law_mark" (defArgs s_law_mark) (defBody s_law_mark) (defScope s_law_mark) .none z120 z121 z122 z123 z124 z125 := by rw [hfd]; rfl
  have ef26x : fd 26 = PySem.W.fnOf "_law_rise" "_law_rise" (defArgs s_law_rise) (defBody s_law_rise) (defScope s_law_rise) .none z192 z193 z194 z195 z196 z197 := by rw [hfd]; rfl
  have ef27x : fd 27 = PySem.W.fnOf "_law_above" "_law_above" (defArgs s_law_above) (defBody s_law_above) (defScope s_law_above) .none z138 z139 z140 z141 z142 z143 := by rw [hfd]; rfl
  have ef28x : fd 28 = PySem.W.fnOf "_law_position" "_law_position" (defArgs s_law_position) (defBody s_law_position) (defScope s_law_position) .none z165 z166 z167 z168 z169 z170 := by rw [hfd]; rfl
  have ef29x : fd 29 = PySem.W.fnOf "_law_all_fit" "_law_all_fit" (defArgs s_law_all_fit) (defBody s_law_all_fit) (defScope s_law_all_fit) .none z156 z157 z158 z159 z160 z161 := by rw [hfd]; rfl
  have ef30x : fd 30 = PySem.W.fnOf "_law_edges" "_law_edges" (defArgs s_law_edges) (defBody s_law_edges) (defScope s_law_edges) .none z210 z211 z212 z213 z214 z215 := by rw [hfd]; rfl
  have ef31x : fd 31 = PySem.W.fnOf "law" "law" (defArgs s_law) (defBody s_law) (defScope s_law) .none z219 z220 z221 z222 z223 z224 := by rw [hfd]; rfl
  have T : Txt l.prog w K mg ad fd := by
    constructor
    · rw [ea20x]; exact PySem.W.mg_of X G a20
    · rw [ea24x]; exact PySem.W.mg_of X G a24
    · rw [ea21x]; exact PySem.W.mg_of X G a21
    · rw [ea14x]; exact PySem.W.mg_of X G a14
    · rw [ea1x]; exact PySem.W.mg_of X G a1
    · rw [ea29x]; exact PySem.W.mg_of X G a29
    · rw [ea28x]; exact PySem.W.mg_of X G a28
    · rw [ea26x]; exact PySem.W.mg_of X G a26
    · rw [ea30x]; exact PySem.W.mg_of X G a30
    · rw [ea23x]; exact PySem.W.mg_of X G a23
    · rw [ea25x]; exact PySem.W.mg_of X G a25
    · rw [ea27x]; exact PySem.W.mg_of X G a27
    · rw [ea13x]; exact PySem.W.mg_of X G a13
    · rw [ea10x]; exact PySem.W.mg_of X G a10
    · rw [ea12x]; exact PySem.W.mg_of X G a12
    · rw [ea22x]; exact PySem.W.mg_of X G a22
    · rw [ea20x, ef20x]; exact F20
    · rw [ef20x]; exact b20
    · rw [ea21x, ef21x]; exact F21
    · rw [ef21x]; exact b21
    · rw [ea22x, ef22x]; exact F22
    · rw [ef22x]; exact b22
    · rw [ea24x, ef24x]; exact F24
    · rw [ef24x]; exact b24
    · rw [ea10x, ea11x, ef11x]; exact ⟨⟨z46, z45, _, _, _, _, _, _, _, _, rfl, l11, c11, ⟨⟨_, _, _, l11⟩, ⟨_, rfl, rfl⟩, ⟨_, _, _, _, _, _, oc11, ov11, of_11⟩, ⟨_, _, _, oe11⟩, om_10, PySem.W.mg_none_of X G n_super, othird, osin10, oisv10, otop⟩⟩⟩
    · rw [ef11x]; exact b11
    · rw [ea10x]; exact ⟨⟨_, _, _, _, _, _, _, _, _, _, _, _, _, _, _, ok_10, ob_10⟩, csa10, xb10, xt10, kp10⟩
    · rw [ea10x, ea11x]; exact om11
    · rw [ea11x]; exact ot10
    · rw [ea10x]; exact ofl10_part
    · rw [ea12x, ef12x]; exact F12
    · rw [ef12x]; exact vb12
    · rw [ea15x, ef15x]; exact F15
    · rw [ea2x, ef2x]; exact F2
    · rw [ef2x]; exact b2
    · rw [ea23x, ef23x]; exact F23
    · rw [ef23x]; exact b23
    · rw [ea3x, ef3x]; exact F3
    · rw [ef3x]; exact b3
    · rw [ea25x, ef25x]; exact F25
    · rw [ef25x]; exact b25
    · rw [ea8x, ef8x]; exact F8
    · rw [ef8x]; exact b8
    · rw [ea27x, ef27x]; exact F27
    · rw [ef27x]; exact b27
    · rw [ea7x, ef7x]; exact F7
    · rw [ef7x]; exact b7
    · rw [ea29x, ef29x]; exact F29
    · rw [ef29x]; exact b29
    · rw [ea28x, ef28x]; exact F28
    · rw [ef28x]; exact b28
    · rw [ea4x, ef4x]; exact F4
    · rw [ef4x]; exact b4
    · rw [ea5x, ef5x]; exact F5
    · rw [ef5x]; exact b5
    · rw [ea26x, ef26x]; exact F26
    · rw [ef26x]; exact b26
    · rw [ea6x, ef6x]; exact F6
    · rw [ef6x]; exact b6
    · rw [ea30x, ef30x]; exact F30
    · rw [ef30x]; exact b30
    · rw [ea31x, ef31x]; exact F31
    · rw [ef31x]; exact b31
    · rw [ef15x]; exact kb_CopyBook___init___1_served_marks_promises
    · rw [ea14x, ea15x]; exact ⟨mm14, om15, of15, kp14⟩
    · rw [ea1x, ea2x]; exact ⟨mm1, om2, of2, kp1⟩
    · exact PySem.W.mg_none_of X G n_range
    · rw [ea1x]; exact ⟨cpg1, chd1, cpo1, csa1⟩
    · rw [ea1x, ea5x]; exact ⟨om5, of5, k5⟩
    · rw [ea1x, ea6x]; exact ⟨om6, of6, k6⟩
    · rw [ea1x, ea3x]; exact ⟨om3, of3, k3⟩
    · rw [ea1x, ea8x]; exact ⟨om8, of8, k8⟩
    · rw [ea1x, ea7x]; exact ⟨om7, of7, k7⟩
    · exact PySem.W.mg_none_of X G n_tuple
    · exact PySem.W.mg_none_of X G n_all
    · exact ⟨fun c h => by
          simp only [List.contains_cons, List.contains_nil, Bool.or_false, Bool.or_eq_true, beq_iff_eq] at h
          rcases h with rfl
          · rw [ea1x]; exact ⟨cpg1, chd1, cpo1, csa1⟩
          , fun c h => by
          simp only [List.contains_cons, List.contains_nil, Bool.or_false, Bool.or_eq_true, beq_iff_eq] at h
          rcases h with rfl
          · rw [ea1x]; exact na1_book
          ⟩
    · exact ⟨fun c h => by
          simp only [List.contains_cons, List.contains_nil, Bool.or_false, Bool.or_eq_true, beq_iff_eq] at h
          rcases h with rfl
          · rw [ea14x]; exact ⟨cpg14, chd14, cpo14, csa14⟩
          , fun c h => by
          simp only [List.contains_cons, List.contains_nil, Bool.or_false, Bool.or_eq_true, beq_iff_eq] at h
          rcases h with rfl
          · rw [ea14x]; exact na14_marks
          ⟩
    · exact ⟨fun c h => by
          simp only [List.contains_cons, List.contains_nil, Bool.or_false, Bool.or_eq_true, beq_iff_eq] at h
          rcases h with rfl
          · rw [ea1x]; exact ⟨cpg1, chd1, cpo1, csa1⟩
          , fun c h => by
          simp only [List.contains_cons, List.contains_nil, Bool.or_false, Bool.or_eq_true, beq_iff_eq] at h
          rcases h with rfl
          · rw [ea1x]; exact na1_heights
          ⟩
    · exact PySem.W.mg_none_of X G n_isinstance
    · exact ⟨fun t c b h => blt_ok K _ _ (isiOf_mem h), fun c t b h => by
          have := isiOf_mem h
          simp [isiTab, bltTab] at this⟩
    · exact PySem.W.mg_none_of X G n_bool
    · exact PySem.W.mg_none_of X G n_int
    · exact PySem.W.mg_none_of X G n_str
    · exact PySem.W.mg_none_of X G n_len
    · exact PySem.W.mg_none_of X G n_list
    · exact ⟨fun c h => by
          simp only [List.contains_cons, List.contains_nil, Bool.or_false, Bool.or_eq_true, beq_iff_eq] at h
          rcases h with rfl
          · rw [ea14x]; exact ⟨cpg14, chd14, cpo14, csa14⟩
          , fun c h => by
          simp only [List.contains_cons, List.contains_nil, Bool.or_false, Bool.or_eq_true, beq_iff_eq] at h
          rcases h with rfl
          · rw [ea14x]; exact na14_promises
          ⟩
    · exact PySem.W.mg_none_of X G n_max
    · exact PySem.W.mg_none_of X G n_abs
    · rw [ea1x, ea4x]; exact ⟨om4, of4, k4⟩
    · intro F H; rw [ea13x]; exact (fun _ _ => .tup (vs := [(.ref z226 : V), (.ref z227 : V), (.ref z228 : V), (.ref z229 : V), (.ref z230 : V), (.ref z231 : V), (.ref z232 : V), (.ref z233 : V)]) (.inr ⟨_, _, _, r13, rfl, rfl, (by show 8 ≤ sizeLine; decide), .cons rfl (.cons rfl (.cons rfl (.cons rfl (.cons rfl (.cons rfl (.cons rfl (.cons rfl (.nil))))))))⟩) (.cons (.tup (vs := []) (.inr ⟨_, _, _, r13_0, rfl, rfl, (by show 0 ≤ sizeLine; decide), .nil⟩) (.nil)) (.cons (.tup (vs := [(.str "own" : V)]) (.inr ⟨_, _, _, r13_1, rfl, rfl, (by show 1 ≤ sizeLine; decide), .cons ⟨_, rfl⟩ (.nil)⟩) (.cons (.str _) (.nil))) (.cons (.tup (vs := [(.str "seen" : V)]) (.inr ⟨_, _, _, r13_2, rfl, rfl, (by show 1 ≤ sizeLine; decide), .cons ⟨_, rfl⟩ (.nil)⟩) (.cons (.str _) (.nil))) (.cons (.tup (vs := [(.str "main" : V)]) (.inr ⟨_, _, _, r13_3, rfl, rfl, (by show 1 ≤ sizeLine; decide), .cons ⟨_, rfl⟩ (.nil)⟩) (.cons (.str _) (.nil))) (.cons (.tup (vs := [(.str "own" : V), (.str "seen" : V)]) (.inr ⟨_, _, _, r13_4, rfl, rfl, (by show 2 ≤ sizeLine; decide), .cons ⟨_, rfl⟩ (.cons ⟨_, rfl⟩ (.nil))⟩) (.cons (.str _) (.cons (.str _) (.nil)))) (.cons (.tup (vs := [(.str "own" : V), (.str "main" : V)]) (.inr ⟨_, _, _, r13_5, rfl, rfl, (by show 2 ≤ sizeLine; decide), .cons ⟨_, rfl⟩ (.cons ⟨_, rfl⟩ (.nil))⟩) (.cons (.str _) (.cons (.str _) (.nil)))) (.cons (.tup (vs := [(.str "seen" : V), (.str "main" : V)]) (.inr ⟨_, _, _, r13_6, rfl, rfl, (by show 2 ≤ sizeLine; decide), .cons ⟨_, rfl⟩ (.cons ⟨_, rfl⟩ (.nil))⟩) (.cons (.str _) (.cons (.str _) (.nil)))) (.cons (.tup (vs := [(.str "own" : V), (.str "seen" : V), (.str "main" : V)]) (.inr ⟨_, _, _, r13_7, rfl, rfl, (by show 3 ≤ sizeLine; decide), .cons ⟨_, rfl⟩ (.cons ⟨_, rfl⟩ (.cons ⟨_, rfl⟩ (.nil)))⟩) (.cons (.str _) (.cons (.str _) (.cons (.str _) (.nil))))) (.nil)))))))))) F H
    · rw [ea14x]; exact ⟨crd14, cga14⟩
    · rw [ea14x]; exact ⟨_, _, ⟨cv14_INDEXES, rfl⟩, fun _ _ => .tup (vs := [(.str "own" : V), (.str "start" : V)]) (.inr ⟨_, _, _, ctr14_INDEXES, rfl, rfl, (by show 2 ≤ sizeLine; decide), .cons ⟨_, rfl⟩ (.cons ⟨_, rfl⟩ (.nil))⟩) (.cons (.str _) (.cons (.str _) (.nil)))⟩
    · rw [ea14x]; exact ⟨_, _, ⟨cv14_SUMMARIES, rfl⟩, fun _ _ => .tup (vs := [(.str "own" : V), (.str "main" : V)]) (.inr ⟨_, _, _, ctr14_SUMMARIES, rfl, rfl, (by show 2 ≤ sizeLine; decide), .cons ⟨_, rfl⟩ (.cons ⟨_, rfl⟩ (.nil))⟩) (.cons (.str _) (.cons (.str _) (.nil)))⟩
    · exact ⟨fun c h => by
          simp only [List.contains_cons, List.contains_nil, Bool.or_false, Bool.or_eq_true, beq_iff_eq] at h
          rcases h with rfl
          · rw [ea14x]; exact ⟨cpg14, chd14, cpo14, csa14⟩
          , fun c h => by
          simp only [List.contains_cons, List.contains_nil, Bool.or_false, Bool.or_eq_true, beq_iff_eq] at h
          rcases h with rfl
          · rw [ea14x]; exact na14_served
          ⟩
    · exact ⟨fun c h => by
          simp only [List.contains_cons, List.contains_nil, Bool.or_false, Bool.or_eq_true, beq_iff_eq] at h
          rcases h with rfl
          · rw [ea14x]; exact ⟨cpg14, chd14, cpo14, csa14⟩
          , fun c h => by
          simp only [List.contains_cons, List.contains_nil, Bool.or_false, Bool.or_eq_true, beq_iff_eq] at h
          rcases h with rfl
          · rw [ea14x]; exact na14_hides
          ⟩
    · exact ⟨fun c h => by
          simp only [List.contains_cons, List.contains_nil, Bool.or_false, Bool.or_eq_true, beq_iff_eq] at h
          rcases h with rfl
          · rw [ea14x]; exact ⟨cpg14, chd14, cpo14, csa14⟩
          , fun c h => by
          simp only [List.contains_cons, List.contains_nil, Bool.or_false, Bool.or_eq_true, beq_iff_eq] at h
          rcases h with rfl
          · rw [ea14x]; exact na14_indexes
          ⟩
    · exact ⟨fun c h => by
          simp only [List.contains_cons, List.contains_nil, Bool.or_false, Bool.or_eq_true, beq_iff_eq] at h
          rcases h with rfl
          · rw [ea14x]; exact ⟨cpg14, chd14, cpo14, csa14⟩
          , fun c h => by
          simp only [List.contains_cons, List.contains_nil, Bool.or_false, Bool.or_eq_true, beq_iff_eq] at h
          rcases h with rfl
          · rw [ea14x]; exact na14_summaries
          ⟩
  refine ⟨PySem.W.fnOf "law" "law" (defArgs s_law) (defBody s_law) (defScope s_law) .none z219 z220 z221 z222 z223 z224, fun s v => .of_eq rfl, fun base _ _ => ⟨ad, ?_⟩⟩
  have R := ok_law (P := l.prog) (base := base) T
  rw [ea31x, ef31x] at R
  rw [efa]
  exact R
end K48
open PySem PySem.W PyProof.Rows
set_option maxRecDepth 100000 in
set_option maxHeartbeats 0 in
theorem PySem.Challenge.cw_bookstogether_k48_sessions_at_copies_holds : PySem.Challenge.rw_bookstogether_k48_sessions_at_copies.Holds := by
  w_on; o_law; k_head; (case hw => w_witness2)
  k_fill
  refine K48.walk (l := PySem.Challenge.rw_bookstogether_k48_sessions_at_copies) rfl rfl (fun w h Y => PySem.W.kIn_of Y) ?F
  case F =>
    intro w mg fa h KX G hmg
    refine' K48.all_mk KX G hmg ?a14 ?a1 ?a10 ?a20 ?l20 ?c20 ?k20 ?a21 ?l21 ?c21 ?k21 ?a22 ?l22 ?c22 ?k22 ?a24 ?l24 ?c24 ?k24 ?om11 ?l11 ?c11 ?oc11 ?ov11 ?of_11 ?oe11 ?om_10 ?n_super ?othird ?osin10 ?oisv10 ?otop ?ok_10 ?ob_10 ?csa10 ?xb10 ?xt10 ?kp10 ?ot10 ?ofl10_part ?a12 ?l12 ?c12 ?k12 ?om15 ?l15 ?c15 ?k15 ?w15_0 ?w15_1 ?w15_2 ?w15_3 ?om2 ?l2 ?c2 ?k2 ?a23 ?l23 ?c23 ?k23 ?om3 ?l3 ?c3 ?k3 ?a25 ?l25 ?c25 ?k25 ?om8 ?l8 ?c8 ?k8 ?a27 ?l27 ?c27 ?k27 ?om7 ?l7 ?c7 ?k7 ?a29 ?l29 ?c29 ?k29 ?a28 ?l28 ?c28 ?k28 ?om4 ?l4 ?c4 ?k4 ?om5 ?l5 ?c5 ?k5 ?a26 ?l26 ?c26 ?k26 ?om6 ?l6 ?c6 ?k6 ?a30 ?l30 ?c30 ?k30 ?a31 ?l31 ?c31 ?k31 ?mm14 ?of15 ?kp14 ?mm1 ?of2 ?kp1 ?n_range ?cpg1 ?chd1 ?cpo1 ?csa1 ?of5 ?of6 ?of3 ?of8 ?of7 ?n_tuple ?n_all ?na1_book ?cpg14 ?chd14 ?cpo14 ?csa14 ?na14_marks ?na1_heights ?n_isinstance ?n_bool ?n_int ?n_str ?n_len ?n_list ?na14_promises ?n_max ?n_abs ?of4 ?a13 ?r13 ?r13_0 ?r13_1 ?r13_2 ?r13_3 ?r13_4 ?r13_5 ?r13_6 ?r13_7 ?ctp14 ?crd14 ?cga14 ?cv14_INDEXES ?ctr14_INDEXES ?cv14_SUMMARIES ?ctr14_SUMMARIES ?na14_served ?na14_hides ?na14_indexes ?na14_summaries
    (case a14 => k_is)
    (case a1 => k_is)
    (case a10 => k_is)
    (case a20 => k_is)
    (case l20 => k_is)
    (case c20 => k_is)
    (case k20 => k_is)
    (case a21 => k_is)
    (case l21 => k_is)
    (case c21 => k_is)
    (case k21 => k_is)
    (case a22 => k_is)
    (case l22 => k_is)
    (case c22 => k_is)
    (case k22 => k_is)
    (case a24 => k_is)
    (case l24 => k_is)
    (case c24 => k_is)
    (case k24 => k_is)
    (case om11 => k_is)
    (case l11 => k_is)
    (case c11 => k_is)
    (case oc11 => k_is)
    (case ov11 => rfl)
    (case of_11 => first | rfl | decide +kernel)
    (case oe11 => k_is)
    (case om_10 => k_is)
    (case n_super => k_is)
    (case othird => k_is)
    (case osin10 => ks_is)
    (case oisv10 => k_is)
    (case otop => first | rfl | decide +kernel)
    (case ok_10 => k_is)
    (case ob_10 => first | rfl | decide +kernel)
    (case csa10 => k_is)
    (case xb10 => k_is)
    (case xt10 => k_is)
    (case kp10 => k_is)
    (case ot10 => k_is)
    (case ofl10_part => k_is)
    (case a12 => k_is)
    (case l12 => k_is)
    (case c12 => k_is)
    (case k12 => k_is)
    (case om15 => k_is)
    (case l15 => k_is)
    (case c15 => k_is)
    (case k15 => k_is)
    (case w15_0 => k_is)
    (case w15_1 => k_is)
    (case w15_2 => k_is)
    (case w15_3 => k_is)
    (case om2 => k_is)
    (case l2 => k_is)
    (case c2 => k_is)
    (case k2 => k_is)
    (case a23 => k_is)
    (case l23 => k_is)
    (case c23 => k_is)
    (case k23 => k_is)
    (case om3 => k_is)
    (case l3 => k_is)
    (case c3 => k_is)
    (case k3 => k_is)
    (case a25 => k_is)
    (case l25 => k_is)
    (case c25 => k_is)
    (case k25 => k_is)
    (case om8 => k_is)
    (case l8 => k_is)
    (case c8 => k_is)
    (case k8 => k_is)
    (case a27 => k_is)
    (case l27 => k_is)
    (case c27 => k_is)
    (case k27 => k_is)
    (case om7 => k_is)
    (case l7 => k_is)
    (case c7 => k_is)
    (case k7 => k_is)
    (case a29 => k_is)
    (case l29 => k_is)
    (case c29 => k_is)
    (case k29 => k_is)
    (case a28 => k_is)
    (case l28 => k_is)
    (case c28 => k_is)
    (case k28 => k_is)
    (case om4 => k_is)
    (case l4 => k_is)
    (case c4 => k_is)
    (case k4 => k_is)
    (case om5 => k_is)
    (case l5 => k_is)
    (case c5 => k_is)
    (case k5 => k_is)
    (case a26 => k_is)
    (case l26 => k_is)
    (case c26 => k_is)
    (case k26 => k_is)
    (case om6 => k_is)
    (case l6 => k_is)
    (case c6 => k_is)
    (case k6 => k_is)
    (case a30 => k_is)
    (case l30 => k_is)
    (case c30 => k_is)
    (case k30 => k_is)
    (case a31 => k_is)
    (case l31 => k_is)
    (case c31 => k_is)
    (case k31 => k_is)
    (case mm14 => k_is)
    (case of15 => k_is)
    (case kp14 => k_is)
    (case mm1 => k_is)
    (case of2 => k_is)
    (case kp1 => k_is)
    (case n_range => k_is)
    (case cpg1 => k_is)
    (case chd1 => k_is)
    (case cpo1 => k_is)
    (case csa1 => k_is)
    (case of5 => k_is)
    (case of6 => k_is)
    (case of3 => k_is)
    (case of8 => k_is)
    (case of7 => k_is)
    (case n_tuple => k_is)
    (case n_all => k_is)
    (case na1_book => k_is)
    (case cpg14 => k_is)
    (case chd14 => k_is)
    (case cpo14 => k_is)
    (case csa14 => k_is)
    (case na14_marks => k_is)
    (case na1_heights => k_is)
    (case n_isinstance => k_is)
    (case n_bool => k_is)
    (case n_int => k_is)
    (case n_str => k_is)
    (case n_len => k_is)
    (case n_list => k_is)
    (case na14_promises => k_is)
    (case n_max => k_is)
    (case n_abs => k_is)
    (case of4 => k_is)
    (case a13 => k_is)
    (case r13 => k_is)
    (case r13_0 => k_is)
    (case r13_1 => k_is)
    (case r13_2 => k_is)
    (case r13_3 => k_is)
    (case r13_4 => k_is)
    (case r13_5 => k_is)
    (case r13_6 => k_is)
    (case r13_7 => k_is)
    (case ctp14 => k_is)
    (case crd14 => k_is)
    (case cga14 => k_is)
    (case cv14_INDEXES => k_is)
    (case ctr14_INDEXES => k_is)
    (case cv14_SUMMARIES => k_is)
    (case ctr14_SUMMARIES => k_is)
    (case na14_served => k_is)
    (case na14_hides => k_is)
    (case na14_indexes => k_is)
    (case na14_summaries => k_is)
