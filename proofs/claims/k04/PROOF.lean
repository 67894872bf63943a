import PyProof.Rows.All
import Wide.All
import OpenK.AllK
import Wide.FinOn
import HandS.ForMost
import HandS.SlotsOwn
import HandS.Wide
import HandS.NoneIn
import HandS.IsInst
import HandS.Star
import HandS.Defaults
import HandS.Conv
import HandS.RaiseMore
import KE.KStateDown
import Lean
import HandS.Head0
import HandS.Head1
import HandS.Head2
import HandS.HeadEnd
import HandS.HeadHook1
import HandS.HeadHook2
import HandS.HeadNt
import HandS.Style
import KE.KOpsOwn
import PyProof.InstNe
import PySem.Challenge.RW_rangehunt_k04_whole_loads_are_sources_of
set_option Elab.async false
set_option linter.all false
set_option maxRecDepth 100000
set_option maxHeartbeats 4000000
/-! A layer over HandS: what a def does, told of data alone. -/
namespace DL
open PySem PySem.Spec PyProof.Rows L2

/-- data: obj c ds is an instance with slots of the class number c, never changed; ref a an address as such -/
inductive D where
  | non | bl (b : Bool) | int (i : Int) | str (x : Str) | ty (n : String)
  | tup (ds : List D) | lst (ds : List D) | obj (c : Nat) (ds : List D) | ref (a : Addr)

mutual
inductive Rep (Cs : Nat → Addr) (Z : Addr → Prop) (H : Hp) : V → D → Prop
  | non : Rep Cs Z H .non .non
  | bl (b : Bool) : Rep Cs Z H (.bl b) (.bl b)
  | int (i : Int) : Rep Cs Z H (.int i) (.int i)
  | str (x : Str) : Rep Cs Z H (.str x) (.str x)
  | ty (n : String) : Rep Cs Z H (.ty n) (.ty n)
  | ref (a : Addr) : Rep Cs Z H (.ref a) (.ref a)
  | tup {a : Addr} {vs : List V} {ds : List D} (hz : ¬ Z a) (h : Rd H a (.tup vs)) (r : Reps Cs Z H vs ds) : Rep Cs Z H (.ref a) (.tup ds)
  | lst {a : Addr} {vs : List V} {ds : List D} (hz : ¬ Z a) (h : Rd H a (.lst vs)) (r : Reps Cs Z H vs ds) : Rep Cs Z H (.ref a) (.lst ds)
  | obj {a dx : Addr} {c : Nat} {vs : List V} {ds : List D} (hz : ¬ Z a) (hx : ¬ Z dx) (h : H a = some (SlX.SlO a (Cs c) dx (vs.map some))) (h2 : H dx = some (.xd [])) (r : Reps Cs Z H vs ds) : Rep Cs Z H (.ref a) (.obj c ds)
inductive Reps (Cs : Nat → Addr) (Z : Addr → Prop) (H : Hp) : List V → List D → Prop
  | nil : Reps Cs Z H [] []
  | cons {v : V} {d : D} {vs : List V} {ds : List D} (h : Rep Cs Z H v d) (r : Reps Cs Z H vs ds) : Reps Cs Z H (v :: vs) (d :: ds)
end

/-- what is owned: it may change -/
inductive MO where
  | lst (ds : List D)
  | slt (c : Nat) (dx : Addr) (os : List (Option D))
  | aux (a : Addr)

abbrev Mem := Addr → Option MO
def put (M : Mem) (a : Addr) (m : MO) : Mem := fun b => if b = a then some m else M b
def era (M : Mem) (a : Addr) : Mem := fun b => if b = a then none else M b
theorem put_same {M : Mem} {a : Addr} {m : MO} : put M a m a = some m := by unfold put; rw [if_pos rfl]
theorem put_ne {M : Mem} {a b : Addr} {m : MO} (h : b ≠ a) : put M a m b = M b := by unfold put; rw [if_neg h]
theorem era_same {M : Mem} {a : Addr} : era M a a = none := by unfold era; rw [if_pos rfl]
theorem era_ne {M : Mem} {a b : Addr} (h : b ≠ a) : era M a b = M b := by unfold era; rw [if_neg h]
theorem put_put {M : Mem} {a : Addr} {m n : MO} : put (put M a m) a n = put M a n := by
  funext b; unfold put; split <;> rfl
theorem era_put {M : Mem} {a : Addr} {m : MO} (h : M a = none) : era (put M a m) a = M := by
  funext b; unfold era put
  by_cases e : b = a
  · subst e; rw [if_pos rfl, h]
  · rw [if_neg e, if_neg e]
/-- what a datum keeps away from: what others own, what is owned -/
def Zf (F : Addr → Prop) (M : Mem) (a : Addr) : Prop := F a ∨ M a ≠ none

section
variable (Cs : Nat → Addr)
inductive RepO (Z : Addr → Prop) (H : Hp) : List (Option V) → List (Option D) → Prop
  | nil : RepO Z H [] []
  | none {vs : List (Option V)} {ds : List (Option D)} (r : RepO Z H vs ds) : RepO Z H (Option.none :: vs) (Option.none :: ds)
  | some {v : V} {d : D} {vs : List (Option V)} {ds : List (Option D)} (h : Rep Cs Z H v d) (r : RepO Z H vs ds) : RepO Z H (Option.some v :: vs) (Option.some d :: ds)
def MOk (F : Addr → Prop) (M : Mem) (H : Hp) (a : Addr) : MO → Prop
  | .lst ds => ∃ vs, H a = some (.lst vs) ∧ Reps Cs (Zf F M) H vs ds
  | .slt c dx os => dx ≠ a ∧ M dx = some (.aux a) ∧ ∃ vs, SlX.Slt H a (Cs c) dx vs ∧ RepO Cs (Zf F M) H vs os
  | .aux _ => ∃ o, H a = some o
structure MemAt (F : Addr → Prop) (M : Mem) (H : Hp) : Prop where
  at_ : ∀ a m, M a = some m → MOk Cs F M H a m
  ff : ∀ a, F a → M a = none ∧ H a ≠ none
abbrev Env := List (Option D)
structure At (F : Addr → Prop) (M : Mem) (H : Hp) (σ : L2.St) (ρ : Env) : Prop where
  mem : MemAt Cs F M H
  len : σ.length = ρ.length
  env : ∀ (i : Nat) (d : D), ρ[i]? = some (some d) → ∃ v, σ[i]? = some (some v) ∧ Rep Cs (Zf F M) H v d
end
/-- what a step may do: all that is not owned stays; what is owned behind was owned ahead, or is new -/
structure Post (M : Mem) (H : Hp) (M' : Mem) (H' : Hp) : Prop where
  ex : ∀ a o, M a = none → H a = some o → H' a = some o
  new : ∀ a, M' a ≠ none → M a ≠ none ∨ H a = none
section
variable {Cs : Nat → Addr} {F : Addr → Prop} {M M1 M2 : Mem} {H H1 H2 : Hp}
theorem Post.refl : Post M H M H := ⟨fun _ _ _ h => h, fun _ h => .inl h⟩
theorem Post.trans (a : Post M H M1 H1) (b : Post M1 H1 M2 H2) : Post M H M2 H2 where
  ex := fun x o hm h => b.ex x o (by
    cases e : M1 x with
    | none => rfl
    | some m =>
      rcases a.new x (by rw [e]; exact fun z => nomatch z) with z | z
      · exact absurd hm z
      · rw [z] at h; cases h) (a.ex x o hm h)
  new := fun x hm => by
    rcases b.new x hm with z | z
    · exact a.new x z
    · by_cases hx : M x = none
      · refine .inr ?_
        cases e : H x with
        | none => rfl
        | some o => rw [a.ex x o hx e] at z; cases z
      · exact .inl hx
/-- less is owned -/
theorem Post.sub (h : ∀ a, M1 a ≠ none → M a ≠ none) : Post M H M1 H := ⟨fun _ _ _ h => h, fun a q => .inl (h a q)⟩
theorem rd_ex {a : Addr} {u : HO} (p : Post M H M1 H1) (hz : ¬ Zf F M a) (h : Rd H a u) : Rd H1 a u ∧ ¬ Zf F M1 a := by
  have hm : M a = none := Classical.byContradiction fun q => hz (.inr q)
  have hs : H a ≠ none := by
    rcases h with h | ⟨o, h⟩ <;> (rw [h]; exact fun z => nomatch z)
  refine ⟨?_, fun q => ?_⟩
  · rcases h with h | ⟨o, h⟩
    · exact .inl (p.ex a _ hm h)
    · exact .inr ⟨o, p.ex a _ hm h⟩
  · rcases q with q | q
    · exact hz (.inl q)
    · rcases p.new a q with z | z
      · exact hz (.inr z)
      · exact hs z
mutual
theorem Rep.go (p : Post M H M1 H1) : ∀ {v : V} {d : D}, Rep Cs (Zf F M) H v d → Rep Cs (Zf F M1) H1 v d
  | _, _, .non => .non
  | _, _, .bl b => .bl b
  | _, _, .int i => .int i
  | _, _, .str x => .str x
  | _, _, .ty n => .ty n
  | _, _, .ref a => .ref a
  | _, _, .tup hz h r => .tup (rd_ex p hz h).2 (rd_ex p hz h).1 (Reps.go p r)
  | _, _, .lst hz h r => .lst (rd_ex p hz h).2 (rd_ex p hz h).1 (Reps.go p r)
  | _, _, .obj hz hx h h2 r => .obj (rd_ex p hz (.inl h)).2 (rd_ex p hx (.inl h2)).2 (p.ex _ _ (Classical.byContradiction fun q => hz (.inr q)) h) (p.ex _ _ (Classical.byContradiction fun q => hx (.inr q)) h2) (Reps.go p r)
theorem Reps.go (p : Post M H M1 H1) : ∀ {vs : List V} {ds : List D}, Reps Cs (Zf F M) H vs ds → Reps Cs (Zf F M1) H1 vs ds
  | _, _, .nil => .nil
  | _, _, .cons h r => .cons (Rep.go p h) (Reps.go p r)
end
theorem RepO.go (p : Post M H M1 H1) : ∀ {vs : List (Option V)} {ds : List (Option D)}, RepO Cs (Zf F M) H vs ds → RepO Cs (Zf F M1) H1 vs ds
  | _, _, .nil => .nil
  | _, _, .none r => .none (RepO.go p r)
  | _, _, .some h r => .some (h.go p) (RepO.go p r)
theorem At.go {σ : L2.St} {ρ : Env} (A : At Cs F M H σ ρ) (p : Post M H M1 H1) (m : MemAt Cs F M1 H1) : At Cs F M1 H1 σ ρ :=
  ⟨m, A.len, fun i d e => let ⟨v, h1, h2⟩ := A.env i d e; ⟨v, h1, h2.go p⟩⟩
theorem Reps.length : ∀ {Z : Addr → Prop} {vs : List V} {ds : List D}, Reps Cs Z H vs ds → vs.length = ds.length
  | _, _, _, .nil => rfl
  | _, _, _, .cons _ r => congrArg Nat.succ (Reps.length r)
theorem Reps.get : ∀ {Z : Addr → Prop} {vs : List V} {ds : List D} {i : Nat} {d : D}, Reps Cs Z H vs ds → ds[i]? = some d → ∃ v, vs[i]? = some v ∧ Rep Cs Z H v d
  | _, _, _, _, _, .nil, e => by simp at e
  | _, _, _, 0, _, .cons h _, e => by simp at e; subst e; exact ⟨_, rfl, h⟩
  | _, _, _, i + 1, d, .cons _ r, e => by
    obtain ⟨v, h1, h2⟩ := Reps.get (i := i) (d := d) r (by simpa using e)
    exact ⟨v, by simpa using h1, h2⟩
theorem Reps.getV : ∀ {Z : Addr → Prop} {vs : List V} {ds : List D} {i : Nat} {v : V}, Reps Cs Z H vs ds → vs[i]? = some v → ∃ d, ds[i]? = some d ∧ Rep Cs Z H v d
  | _, _, _, _, _, .nil, e => by simp at e
  | _, _, _, 0, _, .cons h _, e => by simp at e; subst e; exact ⟨_, rfl, h⟩
  | _, _, _, i + 1, v, .cons _ r, e => by
    obtain ⟨d, h1, h2⟩ := Reps.getV (i := i) (v := v) r (by simpa using e)
    exact ⟨d, by simpa using h1, h2⟩
theorem Reps.append : ∀ {Z : Addr → Prop} {vs ws : List V} {ds es : List D}, Reps Cs Z H vs ds → Reps Cs Z H ws es → Reps Cs Z H (vs ++ ws) (ds ++ es)
  | _, _, _, _, _, .nil, q => q
  | _, _, _, _, _, .cons h r, q => .cons h (Reps.append r q)
theorem Reps.set : ∀ {Z : Addr → Prop} {vs : List V} {ds : List D} {v : V} {d : D} (i : Nat), Reps Cs Z H vs ds → Rep Cs Z H v d → Reps Cs Z H (vs.set i v) (ds.set i d)
  | _, _, _, _, _, _, .nil, _ => .nil
  | _, _, _, _, _, 0, .cons _ r, q => .cons q r
  | _, _, _, _, _, i + 1, .cons h r, q => .cons h (Reps.set i r q)
/-- nothing but a changes -/
theorem MemAt.go (m : MemAt Cs F M H) (p : Post M H M1 H1) (k : ∀ a n, M1 a = some n → (M a = some n ∧ (∀ o, H a = some o → H1 a = some o) ∧ ∀ c dx os, n = .slt c dx os → (∀ o, H dx = some o → H1 dx = some o) ∧ M1 dx = some (.aux a)) ∨ MOk Cs F M1 H1 a n) : MemAt Cs F M1 H1 := by
  refine ⟨fun a n e => ?_, fun a h => ?_⟩
  rotate_left
  · obtain ⟨z1, z2⟩ := m.ff a h
    refine ⟨Classical.byContradiction fun q => ?_, fun q => ?_⟩
    · rcases p.new a q with z | z
      · exact z z1
      · exact z2 z
    · obtain ⟨o, ho⟩ := Option.ne_none_iff_exists'.mp z2
      rw [p.ex a o z1 ho] at q
      cases q
  rcases k a n e with ⟨h1, h2, h3⟩ | h
  · have q := m.at_ a n h1
    cases n with
    | lst ds =>
      obtain ⟨vs, e1, r⟩ := q
      exact ⟨vs, h2 _ e1, r.go p⟩
    | slt c dx os =>
      obtain ⟨hne, hz, vs, hs, r⟩ := q
      obtain ⟨h4, h5⟩ := h3 c dx os rfl
      refine ⟨hne, h5, vs, ?_, r.go p⟩
      rcases hs with ⟨h6, h7⟩ | ⟨h6, h7⟩
      · exact .inl ⟨h2 _ h6, h7⟩
      · exact .inr ⟨h2 _ h6, h4 _ h7⟩
    | aux y =>
      obtain ⟨o, e1⟩ := q
      exact ⟨o, h2 _ e1⟩
  · exact h
end
end DL
namespace DL
open PySem PySem.Spec PyProof.Rows L2

/-! ### what a piece of syntax does, as a reading of itself -/
def semE (X : Cx) (e : Expr) : TE := fun σ H Q => ∀ pins s, Inv X pins σ H s → wpAny (model X.prog X.w) X.A (eval e X.env) (EP X pins σ Q) X.xe s
def semT (X : Cx) (e : Expr) : TT := fun σ H Q => ∀ pins s, Inv X pins σ H s → wpAny (model X.prog X.w) X.A (isTrue e X.env (eval e X.env)) (TP X pins σ Q) X.xe s
def semW (X : Cx) (e : Expr) : TT := fun σ H Q => ∀ whole pins s, Inv X pins σ H s → wpAny (model X.prog X.w) X.A (isTrue e X.env whole) (TP X pins σ Q) X.xe s
def semA (X : Cx) (es : List Expr) : TA := fun σ H Q => ∀ pos pins s, Inv X pins σ H s → wpAny (model X.prog X.w) X.A (spliced (backTo pos (starEach es X.env))) (AP X pins σ Q) X.xe s
def semS (X : Cx) (st : Stmt) : TS := fun D σ H => ∀ pins s, Inv X pins σ H s → wpAny (model X.prog X.w) X.A (exec st X.env) (SP X pins D) X.xe s
def semSs (X : Cx) (sts : List Stmt) : TS := fun D σ H => ∀ pins s, Inv X pins σ H s → wpAny (model X.prog X.w) X.A (execs sts X.env) (SP X pins D) X.xe s
def semO (X : Cx) (f : Value → Value → Sem Value) : R2 := fun x y H Q => ∀ pins s σ v u, Inv X pins σ H s → RelV x v → RelV y u → wpAny (model X.prog X.w) X.A (f v u) (EP X pins σ Q) X.xe s
def semU (X : Cx) (f : Value → Sem Value) : V → Hp → VK → Prop := fun x H Q => ∀ pins s σ v, Inv X pins σ H s → RelV x v → wpAny (model X.prog X.w) X.A (f v) (EP X pins σ Q) X.xe s
def semC (X : Cx) (f : Value) : List V → Hp → VK → Prop := fun xs H Q => ∀ pins s σ us, Inv X pins σ H s → Vals xs us → wpAny (model X.prog X.w) X.A (call f us) (EP X pins σ Q) X.xe s
def semIx (X : Cx) : R2 := fun x y H Q => ∀ value slice pins s σ v u, Inv X pins σ H s → RelV x v → RelV y u → subscripted slice false v u = operate [v, u] (getItem v u) → wpAny (model X.prog X.w) X.A (subscriptTail value slice v u) (EP X pins σ Q) X.xe s
section
variable {X : Cx} {e : Expr} {es : List Expr} {st : Stmt} {sts : List Stmt}
theorem pe_sem : PE X e (semE X e) := ⟨fun pins s _ _ _ I h => h pins s I⟩
theorem pt_sem : PT X e (semT X e) := ⟨fun pins s _ _ _ I h => h pins s I⟩
theorem pw_sem : PW X e (semW X e) := ⟨fun w pins s _ _ _ I h => h w pins s I⟩
theorem pa_sem : PA X es (semA X es) := ⟨fun pos pins s _ _ _ I h => h pos pins s I⟩
theorem ps_sem : PS X st (semS X st) := ⟨fun pins s _ _ _ I h => h pins s I⟩
theorem pss_sem : PSs X sts (semSs X sts) := ⟨fun pins s _ _ _ I h => h pins s I⟩
theorem op_sem {f : Value → Value → Sem Value} : OpR X f (semO X f) := fun pins s σ _ _ _ v u _ I rx ry h => h pins s σ v u I rx ry
theorem un_sem {f : Value → Sem Value} : UnR X f (semU X f) := fun pins s σ _ _ v _ I rx h => h pins s σ v I rx
theorem call_sem {f : Value} : CallR X f (semC X f) := fun pins s σ _ _ us _ I r h => h pins s σ us I r
theorem ix_sem : IxR X (semIx X) := fun value slice pins s σ _ _ _ v u _ I rx ry h hs => h value slice pins s σ v u I rx ry hs
variable {σ : L2.St} {H : Hp}
theorem _root_.L2.PE.sem {t : TE} {Q : VK} (p : PE X e t) (h : t σ H Q) : semE X e σ H Q := fun pins s I => p.run pins s σ H Q I h
theorem _root_.L2.PT.sem {t : TT} {Q : Bool → Hp → Prop} (p : PT X e t) (h : t σ H Q) : semT X e σ H Q := fun pins s I => p.run pins s σ H Q I h
theorem _root_.L2.PW.sem {t : TT} {Q : Bool → Hp → Prop} (p : PW X e t) (h : t σ H Q) : semW X e σ H Q := fun w pins s I => p.run w pins s σ H Q I h
theorem _root_.L2.PA.sem {t : TA} {Q : List V → Hp → Prop} (p : PA X es t) (h : t σ H Q) : semA X es σ H Q := fun pos pins s I => p.run pos pins s σ H Q I h
theorem _root_.L2.PS.sem {t : TS} {D : Ends} (p : PS X st t) (h : t D σ H) : semS X st D σ H := fun pins s I => p.run pins s σ H D I h
theorem _root_.L2.PSs.sem {t : TS} {D : Ends} (p : PSs X sts t) (h : t D σ H) : semSs X sts D σ H := fun pins s I => p.run pins s σ H D I h
theorem _root_.L2.OpR.sem {f : Value → Value → Sem Value} {r : R2} {x y : V} {Q : VK} (p : OpR X f r) (h : r x y H Q) : semO X f x y H Q := fun pins s σ v u I rx ry => p pins s σ H x y v u Q I rx ry h
theorem _root_.L2.UnR.sem {f : Value → Sem Value} {r : V → Hp → VK → Prop} {x : V} {Q : VK} (p : UnR X f r) (h : r x H Q) : semU X f x H Q := fun pins s σ v I rx => p pins s σ H x v Q I rx h
theorem _root_.L2.CallR.sem {f : Value} {r : List V → Hp → VK → Prop} {xs : List V} {Q : VK} (p : CallR X f r) (h : r xs H Q) : semC X f xs H Q := fun pins s σ us I rx => p pins s σ H xs us Q I rx h
theorem _root_.L2.IxR.sem {r : R2} {x y : V} {Q : VK} (p : IxR X r) (h : r x y H Q) : semIx X x y H Q := fun value slice pins s σ v u I rx ry hs => p value slice pins s σ H x y v u Q I rx ry h hs
end

/-! ### the judgements -/
theorem sz_of {n : Nat} (h : n ≤ 100000) : n ≤ sizeLine := Nat.le_trans h (by decide)
section
variable (Cs : Nat → Addr)
def Res (F : Addr → Prop) (M : Mem) (H : Hp) (Φ : D → Mem → Prop) (Q : VK) : Prop := ∀ v d H' M', Post M H M' H' → MemAt Cs F M' H' → Rep Cs (Zf F M') H' v d → Φ d M' → Q v H'
def ResT (F : Addr → Prop) (M : Mem) (H : Hp) (Ψ : Bool → Mem → Prop) (Q : Bool → Hp → Prop) : Prop := ∀ b H' M', Post M H M' H' → MemAt Cs F M' H' → Ψ b M' → Q b H'
def ResA (F : Addr → Prop) (M : Mem) (H : Hp) (Φ : List D → Mem → Prop) (Q : List V → Hp → Prop) : Prop := ∀ vs ds H' M', Post M H M' H' → MemAt Cs F M' H' → Reps Cs (Zf F M') H' vs ds → Φ ds M' → Q vs H'
structure DE where
  nx : Env → Mem → Prop
  rt : D → Mem → Prop
  bk : Env → Mem → Prop := fun _ _ => False
  ct : Env → Mem → Prop := fun _ _ => False
structure EndsOk (F : Addr → Prop) (M : Mem) (H : Hp) (E : DE) (Dn : Ends) : Prop where
  nx : ∀ σ' ρ' H' M', Post M H M' H' → At Cs F M' H' σ' ρ' → E.nx ρ' M' → Dn.nx σ' H'
  rt : Res Cs F M H E.rt Dn.rt
  bk : ∀ σ' ρ' H' M', Post M H M' H' → At Cs F M' H' σ' ρ' → E.bk ρ' M' → Dn.bk σ' H'
  ct : ∀ σ' ρ' H' M', Post M H M' H' → At Cs F M' H' σ' ρ' → E.ct ρ' M' → Dn.ct σ' H'
structure WE (X : Cx) (e : Expr) (ρ : Env) (M : Mem) (Φ : D → Mem → Prop) : Prop where
  run : ∀ (F : Addr → Prop) σ H, At Cs F M H σ ρ → ∀ Q, Res Cs F M H Φ Q → semE X e σ H Q
structure WT (X : Cx) (e : Expr) (ρ : Env) (M : Mem) (Ψ : Bool → Mem → Prop) : Prop where
  run : ∀ (F : Addr → Prop) σ H, At Cs F M H σ ρ → ∀ Q, ResT Cs F M H Ψ Q → semT X e σ H Q
structure WW (X : Cx) (e : Expr) (ρ : Env) (M : Mem) (Ψ : Bool → Mem → Prop) : Prop where
  run : ∀ (F : Addr → Prop) σ H, At Cs F M H σ ρ → ∀ Q, ResT Cs F M H Ψ Q → semW X e σ H Q
structure WA (X : Cx) (es : List Expr) (ρ : Env) (M : Mem) (Φ : List D → Mem → Prop) : Prop where
  run : ∀ (F : Addr → Prop) σ H, At Cs F M H σ ρ → ∀ Q, ResA Cs F M H Φ Q → semA X es σ H Q
structure WS (X : Cx) (st : Stmt) (ρ : Env) (M : Mem) (E : DE) : Prop where
  run : ∀ (F : Addr → Prop) σ H, At Cs F M H σ ρ → ∀ Dn, EndsOk Cs F M H E Dn → semS X st Dn σ H
structure WSs (X : Cx) (sts : List Stmt) (ρ : Env) (M : Mem) (E : DE) : Prop where
  run : ∀ (F : Addr → Prop) σ H, At Cs F M H σ ρ → ∀ Dn, EndsOk Cs F M H E Dn → semSs X sts Dn σ H
structure WO (X : Cx) (f : Value → Value → Sem Value) (x y : D) (M : Mem) (Φ : D → Mem → Prop) : Prop where
  run : ∀ (F : Addr → Prop) H vx vy, MemAt Cs F M H → Rep Cs (Zf F M) H vx x → Rep Cs (Zf F M) H vy y → ∀ Q, Res Cs F M H Φ Q → semO X f vx vy H Q
structure WU (X : Cx) (f : Value → Sem Value) (x : D) (M : Mem) (Φ : D → Mem → Prop) : Prop where
  run : ∀ (F : Addr → Prop) H vx, MemAt Cs F M H → Rep Cs (Zf F M) H vx x → ∀ Q, Res Cs F M H Φ Q → semU X f vx H Q
structure WC (X : Cx) (f : Value) (xs : List D) (M : Mem) (Φ : D → Mem → Prop) : Prop where
  run : ∀ (F : Addr → Prop) H vs, MemAt Cs F M H → Reps Cs (Zf F M) H vs xs → ∀ Q, Res Cs F M H Φ Q → semC X f vs H Q
structure WIx (X : Cx) (x y : D) (M : Mem) (Φ : D → Mem → Prop) : Prop where
  run : ∀ (F : Addr → Prop) H vx vy, MemAt Cs F M H → Rep Cs (Zf F M) H vx x → Rep Cs (Zf F M) H vy y → ∀ Q, Res Cs F M H Φ Q → semIx X vx vy H Q
/-- a def told of data -/
abbrev FS := List D → Mem → (D → Mem → Prop) → Prop
def spD (S : FS) : Sp := fun vs H Q _ => ∃ F ds M Φ, MemAt Cs F M H ∧ Reps Cs (Zf F M) H vs ds ∧ S ds M Φ ∧ Res Cs F M H Φ Q
end
section
variable {Cs : Nat → Addr} {F : Addr → Prop} {X : Cx} {ρ : Env} {M : Mem} {a b c e : Expr} {es : List Expr} {pos : Pos} {Φ : D → Mem → Prop} {Ψ : Bool → Mem → Prop}
theorem Res.here {H : Hp} {Q : VK} (k : Res Cs F M H Φ Q) {v : V} {d : D} (m : MemAt Cs F M H) (r : Rep Cs (Zf F M) H v d) (h : Φ d M) : Q v H := k v d H M .refl m r h
theorem Res.from {M1 : Mem} {H H1 : Hp} {Q : VK} (k : Res Cs F M H Φ Q) (p : Post M H M1 H1) : Res Cs F M1 H1 Φ Q := fun v d H' M' p' m r h => k v d H' M' (p.trans p') m r h
theorem ResT.from {M1 : Mem} {H H1 : Hp} {Q : Bool → Hp → Prop} (k : ResT Cs F M H Ψ Q) (p : Post M H M1 H1) : ResT Cs F M1 H1 Ψ Q := fun b H' M' p' m h => k b H' M' (p.trans p') m h
theorem ResA.from {M1 : Mem} {H H1 : Hp} {Θ : List D → Mem → Prop} {Q : List V → Hp → Prop} (k : ResA Cs F M H Θ Q) (p : Post M H M1 H1) : ResA Cs F M1 H1 Θ Q := fun vs ds H' M' p' m r h => k vs ds H' M' (p.trans p') m r h
theorem EndsOk.from {M1 : Mem} {H H1 : Hp} {E : DE} {Dn : Ends} (k : EndsOk Cs F M H E Dn) (p : Post M H M1 H1) : EndsOk Cs F M1 H1 E Dn :=
  ⟨fun σ' ρ' H' M' q => k.nx σ' ρ' H' M' (p.trans q), k.rt.from p, fun σ' ρ' H' M' q => k.bk σ' ρ' H' M' (p.trans q), fun σ' ρ' H' M' q => k.ct σ' ρ' H' M' (p.trans q)⟩

/-! ### names, constants -/
theorem we_var {x : Str} (i : Nat) {d : D} (hN : X.N[i]? = some x) (hv : Vis X.env.scope x) (he : ρ[i]? = some (some d)) (h : Φ d M) (hd : (x == ("__debug__" : Str)) = false := by decide) (hcd : (x == ("__classdict__" : Str)) = false := by decide) : WE Cs X (.Name x pos) ρ M Φ :=
  .mk fun F σ H A Q k => (pe_var hN hv hd hcd).sem (by
    obtain ⟨v, h1, h2⟩ := A.env i d he
    exact ⟨v, h1, k.here A.mem h2 h⟩)
theorem we_int {i : Int} {j : Nat} (h : Φ (.int i) M) : WE Cs X (.Constant (.int i) j pos) ρ M Φ := .mk fun F σ H A Q k => pe_int.sem (k.here A.mem (.int i) h)
theorem we_bl {b : Bool} {j : Nat} (h : Φ (.bl b) M) : WE Cs X (.Constant (.bool b) j pos) ρ M Φ := .mk fun F σ H A Q k => pe_bl.sem (k.here A.mem (.bl b) h)
theorem we_non {j : Nat} (h : Φ .non M) : WE Cs X (.Constant .none j pos) ρ M Φ := .mk fun F σ H A Q k => pe_non.sem (k.here A.mem .non h)
theorem we_str {x : String} {j : Nat} (h : Φ (.str x) M) : WE Cs X (.Constant (.str x) j pos) ρ M Φ := .mk fun F σ H A Q k => pe_str.sem (k.here A.mem (.str _) h)
/-- a module's int -/
theorem we_gint {x : Str} {i : Int} {t : Tok} (hg : Gl X x) (hm : X.mg x = some (.int i t)) (h : Φ (.int i) M) (hd : (x == ("__debug__" : Str)) = false := by decide) : WE Cs X (.Name x pos) ρ M Φ :=
  .mk fun F σ H A Q k => (pe_glob (v := .int i) hg hm ⟨t, rfl⟩ hd).sem (k.here A.mem (.int i) h)
theorem we_gref {x : Str} {p : Addr} (hg : Gl X x) (hm : X.mg x = some (.ref p)) (h : Φ (.ref p) M) (hd : (x == ("__debug__" : Str)) = false := by decide) : WE Cs X (.Name x pos) ρ M Φ :=
  .mk fun F σ H A Q k => (pe_glob (v := .ref p) hg hm rfl hd).sem (k.here A.mem (.ref p) h)
theorem we_gty {x : Str} {n : String} (hg : Gl X x) (hm : X.mg x = none) (hv : bootBuiltins x = some (.type n)) (h : Φ (.ty n) M) (hn : x ≠ "__name__" := by decide) (hd : (x == ("__debug__" : Str)) = false := by decide) : WE Cs X (.Name x pos) ρ M Φ :=
  .mk fun F σ H A Q k => (pe_bltn (v := .ty n) hg hm hv rfl hn hd).sem (k.here A.mem (.ty n) h)

/-! ### operators -/
theorem two {t : TE} {Q : VK} {σ : L2.St} {H : Hp} {r : R2} (A : At Cs F M H σ ρ) (k : Res Cs F M H Φ Q) (W : D → D → Mem → (D → Mem → Prop) → Prop)
    (hW : ∀ x y M2 H2 vx vy, W x y M2 Φ → MemAt Cs F M2 H2 → Rep Cs (Zf F M2) H2 vx x → Rep Cs (Zf F M2) H2 vy y → Res Cs F M2 H2 Φ Q → r vx vy H2 Q)
    (h : WE Cs X a ρ M fun x M1 => WE Cs X b ρ M1 fun y M2 => W x y M2 Φ) : tOp r (semE X a) (semE X b) σ H Q :=
  h.run _ σ H A _ fun vx x H1 M1 p1 m1 r1 h1 => h1.run _ σ H1 (A.go p1 m1) _ fun vy y H2 M2 p2 m2 r2 h2 => hW x y M2 H2 vx vy h2 m2 (r1.go p2) r2 (k.from (p1.trans p2))
theorem we_bin {op : Operator} (h : WE Cs X a ρ M fun x M1 => WE Cs X b ρ M1 fun y M2 => WO Cs X (binaryOp op) x y M2 Φ) : WE Cs X (.BinOp a op b pos) ρ M Φ :=
  .mk fun F σ H A Q k => (pe_op op_sem pe_sem pe_sem).sem (two (t := semE X a) A k _ (fun x y M2 H2 vx vy w m rx ry k2 => w.run _ H2 vx vy m rx ry Q k2) h)
theorem we_cmp {op : CmpOp} (h : WE Cs X a ρ M fun x M1 => WE Cs X b ρ M1 fun y M2 => WO Cs X (compareOp op) x y M2 Φ) (hm : behindInMarks op b = false := by first | exact nomark _ | rfl) : WE Cs X (.Compare a [op] [b] pos) ρ M Φ :=
  .mk fun F σ H A Q k => (pe_cmpR op_sem pe_sem pe_sem hm).sem (two (t := semE X a) A k _ (fun x y M2 H2 vx vy w m rx ry k2 => w.run _ H2 vx vy m rx ry Q k2) h)
theorem we_ix (h : WE Cs X a ρ M fun x M1 => WE Cs X b ρ M1 fun y M2 => WIx Cs X x y M2 Φ) (hs : PlainIx b := by intro _ _; rfl) : WE Cs X (.Subscript a b pos) ρ M Φ :=
  .mk fun F σ H A Q k => (pe_ix ix_sem pe_sem pe_sem hs).sem (two (t := semE X a) A k _ (fun x y M2 H2 vx vy w m rx ry k2 => w.run _ H2 vx vy m rx ry Q k2) h)
theorem we_un {op : UnaryOp} (h : WE Cs X a ρ M fun x M1 => WU Cs X (unaryOp op) x M1 Φ) : WE Cs X (.UnaryOp op a pos) ρ M Φ :=
  .mk fun F σ H A Q k => (pe_un un_sem pe_sem).sem (h.run _ σ H A _ fun vx x H1 M1 p1 m1 r1 h1 => h1.run _ H1 vx m1 r1 Q (k.from p1))
def bT (Ψ : Bool → Mem → Prop) : D → Mem → Prop := fun d M => ∃ b, d = .bl b ∧ Ψ b M
theorem ResT.bT {H : Hp} {Q : Bool → Hp → Prop} (k : ResT Cs F M H Ψ Q) : Res Cs F M H (DL.bT Ψ) fun x H' => ∃ c, x = .bl c ∧ Q c H' := fun v d H' M' p m r h => by
  obtain ⟨b, rfl, h⟩ := h
  cases r
  exact ⟨b, rfl, k b H' M' p m h⟩
theorem wt_cmp {op : CmpOp} (h : WE Cs X a ρ M fun x M1 => WE Cs X b ρ M1 fun y M2 => WO Cs X (compareOp op) x y M2 (bT Ψ)) (hm : behindInMarks op b = false := by first | exact nomark _ | rfl) : WT Cs X (.Compare a [op] [b] pos) ρ M Ψ :=
  .mk fun F σ H A Q k => (pt_cmpR op_sem pe_sem pe_sem hm).sem (two (t := semE X a) A k.bT _ (fun x y M2 H2 vx vy w m rx ry k2 => w.run _ H2 vx vy m rx ry _ k2) h)
theorem wt_val (h : WE Cs X e ρ M (bT Ψ)) (he : ∀ whole, isTrue e X.env whole = (do let v ← whole; standAt e.pos; holding [v] (truthy v)) := by intro _; rfl) : WT Cs X e ρ M Ψ :=
  .mk fun F σ H A Q k => (pt_val pe_sem he).sem (h.run _ σ H A _ k.bT)
theorem wt_not (h : WT Cs X a ρ M fun b M1 => Ψ (!b) M1) : WT Cs X (.UnaryOp .Not a pos) ρ M Ψ :=
  .mk fun F σ H A Q k => (pt_not pt_sem).sem (h.run _ σ H A _ fun b H1 M1 p m q => k (!b) H1 M1 p m q)
theorem WW.wt (h : WW Cs X e ρ M Ψ) : WT Cs X e ρ M Ψ := .mk fun F σ H A Q k pins s I => h.run _ σ H A Q k _ pins s I
theorem ww_and1 (h : WT Cs X a ρ M Ψ) : WW Cs X (.BoolOp .And [a] pos) ρ M Ψ := .mk fun F σ H A Q k => (pw_and1 pt_sem).sem (h.run _ σ H A Q k)
theorem ww_or1 (h : WT Cs X a ρ M Ψ) : WW Cs X (.BoolOp .Or [a] pos) ρ M Ψ := .mk fun F σ H A Q k => (pw_or1 pt_sem).sem (h.run _ σ H A Q k)
theorem ww_and {rest : List Expr} (h : WT Cs X a ρ M fun c M1 => (c = true → WW Cs X (.BoolOp .And (b :: rest) pos) ρ M1 Ψ) ∧ (c = false → Ψ false M1)) : WW Cs X (.BoolOp .And (a :: b :: rest) pos) ρ M Ψ :=
  .mk fun F σ H A Q k => (pw_and pt_sem pw_sem).sem (h.run _ σ H A _ fun c H1 M1 p m q => by
    cases c with
    | true => rw [if_pos rfl]; exact (q.1 rfl).run _ σ H1 (A.go p m) Q (k.from p)
    | false => rw [if_neg Bool.false_ne_true]; exact k false H1 M1 p m (q.2 rfl))
theorem ww_or {rest : List Expr} (h : WT Cs X a ρ M fun c M1 => (c = true → Ψ true M1) ∧ (c = false → WW Cs X (.BoolOp .Or (b :: rest) pos) ρ M1 Ψ)) : WW Cs X (.BoolOp .Or (a :: b :: rest) pos) ρ M Ψ :=
  .mk fun F σ H A Q k => (pw_or pt_sem pw_sem).sem (h.run _ σ H A _ fun c H1 M1 p m q => by
    cases c with
    | true => rw [if_pos rfl]; exact k true H1 M1 p m (q.1 rfl)
    | false => rw [if_neg Bool.false_ne_true]; exact (q.2 rfl).run _ σ H1 (A.go p m) Q (k.from p))
theorem we_one {op : BoolOp} (h : WE Cs X a ρ M Φ) : WE Cs X (.BoolOp op [a] pos) ρ M Φ := .mk fun F σ H A Q k => (pe_one pe_sem).sem (h.run _ σ H A Q k)
theorem we_and {rest : List Expr} (h : WE Cs X a ρ M fun d M1 => ∃ c, d = .bl c ∧ (c = true → WE Cs X (.BoolOp .And (b :: rest) pos) ρ M1 Φ) ∧ (c = false → Φ (.bl false) M1)) : WE Cs X (.BoolOp .And (a :: b :: rest) pos) ρ M Φ :=
  .mk fun F σ H A Q k => (pe_and pe_sem pe_sem).sem (h.run _ σ H A _ fun v d H1 M1 p m r q => by
    obtain ⟨c, rfl, q1, q2⟩ := q
    cases r
    refine ⟨c, rfl, ?_⟩
    cases c with
    | true => rw [if_pos rfl]; exact (q1 rfl).run _ σ H1 (A.go p m) Q (k.from p)
    | false => rw [if_neg Bool.false_ne_true]; exact k _ _ H1 M1 p m (.bl false) (q2 rfl))
theorem we_or {rest : List Expr} (h : WE Cs X a ρ M fun d M1 => ∃ c, d = .bl c ∧ (c = true → Φ (.bl true) M1) ∧ (c = false → WE Cs X (.BoolOp .Or (b :: rest) pos) ρ M1 Φ)) : WE Cs X (.BoolOp .Or (a :: b :: rest) pos) ρ M Φ :=
  .mk fun F σ H A Q k => (pe_or pe_sem pe_sem).sem (h.run _ σ H A _ fun v d H1 M1 p m r q => by
    obtain ⟨c, rfl, q1, q2⟩ := q
    cases r
    refine ⟨c, rfl, ?_⟩
    cases c with
    | true => rw [if_pos rfl]; exact k _ _ H1 M1 p m (.bl true) (q1 rfl)
    | false => rw [if_neg Bool.false_ne_true]; exact (q2 rfl).run _ σ H1 (A.go p m) Q (k.from p))
theorem we_not (h : WE Cs X a ρ M fun d M1 => ∃ c, d = .bl c ∧ Φ (.bl (!c)) M1) : WE Cs X (.UnaryOp .Not a pos) ρ M Φ :=
  .mk fun F σ H A Q k => (pe_not pe_sem).sem (h.run _ σ H A _ fun v d H1 M1 p m r q => by
    obtain ⟨c, rfl, q1⟩ := q
    cases r
    exact ⟨c, rfl, k _ _ H1 M1 p m (.bl _) q1⟩)
theorem we_if (h : WT Cs X c ρ M fun t M1 => (t = true → WE Cs X a ρ M1 Φ) ∧ (t = false → WE Cs X b ρ M1 Φ)) : WE Cs X (.IfExp c a b pos) ρ M Φ :=
  .mk fun F σ H A Q k => (pe_ifExp pt_sem pe_sem pe_sem).sem (h.run _ σ H A _ fun t H1 M1 p m q => by
    cases t with
    | true => rw [if_pos rfl]; exact (q.1 rfl).run _ σ H1 (A.go p m) Q (k.from p)
    | false => rw [if_neg Bool.false_ne_true]; exact (q.2 rfl).run _ σ H1 (A.go p m) Q (k.from p))
/-- a op1 b op2 c -/
theorem chain {op op' : CmpOp} {σ : L2.St} {H : Hp} {Q : VK} (A : At Cs F M H σ ρ) (k : Res Cs F M H Φ Q)
    (h : WE Cs X a ρ M fun x M1 => WE Cs X b ρ M1 fun y M2 => WO Cs X (compareOp op) x y M2 fun d M3 => ∃ t, d = .bl t ∧ (t = true → WE Cs X c ρ M3 fun z M4 => WO Cs X (compareOp op') y z M4 Φ) ∧ (t = false → Φ (.bl false) M3)) :
    tChain (semO X (compareOp op)) (semO X (compareOp op')) (semE X a) (semE X b) (semE X c) σ H Q :=
  h.run _ σ H A _ fun vx x H1 M1 p1 m1 r1 h1 => h1.run _ σ H1 (A.go p1 m1) _ fun vy y H2 M2 p2 m2 r2 h2 => h2.run _ H2 vx vy m2 (r1.go p2) r2 _ fun v d H3 M3 p3 m3 r3 h3 => by
    obtain ⟨t, rfl, q1, q2⟩ := h3
    cases r3
    refine ⟨t, rfl, ?_⟩
    cases t with
    | true =>
      rw [if_pos rfl]
      exact (q1 rfl).run _ σ H3 (A.go ((p1.trans p2).trans p3) m3) _ fun vz z H4 M4 p4 m4 r4 h4 => h4.run _ H4 vy vz m4 (r2.go (p3.trans p4)) r4 Q (k.from (((p1.trans p2).trans p3).trans p4))
    | false => rw [if_neg Bool.false_ne_true]; exact k _ _ H3 M3 ((p1.trans p2).trans p3) m3 (.bl false) (q2 rfl)
theorem we_chain {op op' : CmpOp} (h : WE Cs X a ρ M fun x M1 => WE Cs X b ρ M1 fun y M2 => WO Cs X (compareOp op) x y M2 fun d M3 => ∃ t, d = .bl t ∧ (t = true → WE Cs X c ρ M3 fun z M4 => WO Cs X (compareOp op') y z M4 Φ) ∧ (t = false → Φ (.bl false) M3))
    (hm : lastMarks [op, op'] [b, c] = false := by with_unfolding_all rfl) : WE Cs X (.Compare a [op, op'] [b, c] pos) ρ M Φ :=
  .mk fun F σ H A Q k => (pe_chain op_sem op_sem pe_sem pe_sem pe_sem hm).sem (chain A k h)
theorem wt_chain {op op' : CmpOp} (h : WE Cs X a ρ M fun x M1 => WE Cs X b ρ M1 fun y M2 => WO Cs X (compareOp op) x y M2 fun d M3 => ∃ t, d = .bl t ∧ (t = true → WE Cs X c ρ M3 fun z M4 => WO Cs X (compareOp op') y z M4 (bT Ψ)) ∧ (t = false → Ψ false M3))
    (hm : lastMarks [op, op'] [b, c] = false := by with_unfolding_all rfl) : WT Cs X (.Compare a [op, op'] [b, c] pos) ρ M Ψ :=
  .mk fun F σ H A Q k => (pt_chain op_sem op_sem pe_sem pe_sem pe_sem hm).sem (chain (Φ := bT Ψ) A k.bT (.mk fun F' σ' H' A' Q' k' => h.run F' σ' H' A' Q' fun v d H1 M1 p m r q => k' v d H1 M1 p m r (.mk fun F2 σ2 H2 A2 Q2 k2 => q.run F2 σ2 H2 A2 Q2 fun v d H1 M1 p m r q => k2 v d H1 M1 p m r (.mk fun F3 H3 vx vy m3 rx ry Q3 k3 => q.run F3 H3 vx vy m3 rx ry Q3 fun v d H1 M1 p m r ⟨t, e, q1, q2⟩ => k3 v d H1 M1 p m r ⟨t, e, q1, fun z => ⟨false, rfl, q2 z⟩⟩))))

/-! ### arguments, displays -/
theorem wa_nil {Θ : List D → Mem → Prop} (h : Θ [] M) : WA Cs X [] ρ M Θ := .mk fun F σ H A Q k => pa_nil.sem (k [] [] H M .refl A.mem .nil h)
theorem wa_cons {Θ : List D → Mem → Prop} (h : WE Cs X e ρ M fun d M1 => WA Cs X es ρ M1 fun ds M2 => Θ (d :: ds) M2) (hs : starEach (e :: es) X.env = (false, eval e X.env) :: starEach es X.env := by rfl) : WA Cs X (e :: es) ρ M Θ :=
  .mk fun F σ H A Q k => (pa_cons pe_sem pa_sem hs).sem (h.run _ σ H A _ fun v d H1 M1 p1 m1 r1 h1 => h1.run _ σ H1 (A.go p1 m1) _ fun vs ds H2 M2 p2 m2 r2 h2 => k _ _ H2 M2 (p1.trans p2) m2 (.cons (r1.go p2) r2) h2)
theorem MemAt.old {H : Hp} (m : MemAt Cs F M H) {p : Addr} (hp : H p = none) : M p = none := by
  cases e : M p with
  | none => rfl
  | some n =>
    have q := m.at_ p n e
    cases n with
    | lst ds => obtain ⟨vs, z, _⟩ := q; rw [hp] at z; cases z
    | slt c dx os =>
      obtain ⟨_, _, vs, z, _⟩ := q
      rcases z with ⟨z, _⟩ | ⟨z, _⟩ <;> (rw [hp] at z; cases z)
    | aux y => obtain ⟨o, z⟩ := q; rw [hp] at z; cases z
theorem MemAt.notZ {H : Hp} (m : MemAt Cs F M H) {p : Addr} (hp : H p = none) : ¬ Zf F M p := fun z => by
  rcases z with z | z
  · exact (m.ff p z).2 hp
  · exact z (m.old hp)
theorem post_new {H : Hp} {p : Addr} {o : HO} (hp : H p = none) : Post M H M (upd H p o) := ⟨fun a u _ h => by rw [upd_ne (ne_of_none h hp)]; exact h, fun _ h => .inl h⟩
theorem MemAt.new {H : Hp} {p : Addr} {o : HO} (m : MemAt Cs F M H) (hp : H p = none) : MemAt Cs F M (upd H p o) := m.go (post_new hp) fun a n e =>
  .inl ⟨e, fun u h => by rw [upd_ne (ne_of_none h hp)]; exact h, fun c dx os e2 => ⟨fun u h => by rw [upd_ne (ne_of_none h hp)]; exact h, by
    subst e2
    exact (m.at_ a _ e).2.1⟩⟩
theorem we_tup {kk : Nat} (h : WA Cs X es ρ M fun ds M1 => ds.length ≤ 100000 ∧ Φ (.tup ds) M1) : WE Cs X (.Tuple es kk pos) ρ M Φ :=
  .mk fun F σ H A Q k => (pe_tup pa_sem).sem (h.run _ σ H A _ fun vs ds H1 M1 p1 m1 r1 h1 => ⟨by rw [r1.length]; exact sz_of h1.1, fun p hp => k _ _ _ M1 (p1.trans (post_new hp)) (m1.new hp) (.tup (m1.notZ hp) (.inl upd_same) (r1.go (post_new hp))) h1.2⟩)
/-- [a, ..], never changed -/
theorem we_lst (h : WA Cs X es ρ M fun ds M1 => ds.length ≤ 100000 ∧ Φ (.lst ds) M1) : WE Cs X (.List es pos) ρ M Φ :=
  .mk fun F σ H A Q k => (pe_lst pa_sem).sem (h.run _ σ H A _ fun vs ds H1 M1 p1 m1 r1 h1 => ⟨by rw [r1.length]; exact sz_of h1.1, fun p hp => k _ _ _ M1 (p1.trans (post_new hp)) (m1.new hp) (.lst (m1.notZ hp) (.inl upd_same) (r1.go (post_new hp))) h1.2⟩)
theorem post_own {H : Hp} {p : Addr} {o : HO} {n : MO} (hp : H p = none) : Post M H (put M p n) (upd H p o) := ⟨fun a u _ h => by rw [upd_ne (ne_of_none h hp)]; exact h, fun a h => by
  by_cases e : a = p
  · exact .inr (by rw [e]; exact hp)
  · rw [put_ne e] at h; exact .inl h⟩
theorem MemAt.own {H : Hp} {p : Addr} {o : HO} {n : MO} (m : MemAt Cs F M H) (hp : H p = none) (hn : MOk Cs F (put M p n) (upd H p o) p n) : MemAt Cs F (put M p n) (upd H p o) := m.go (post_own hp) fun a n' e => by
  by_cases ea : a = p
  · subst ea; rw [put_same] at e; cases e; exact .inr hn
  · rw [put_ne ea] at e
    refine .inl ⟨e, fun u h => by rw [upd_ne (ne_of_none h hp)]; exact h, fun c dx os e2 => ⟨fun u h => by rw [upd_ne (ne_of_none h hp)]; exact h, ?_⟩⟩
    subst e2
    have q := (m.at_ a _ e).2.1
    rw [put_ne (fun z => by rw [z, m.old hp] at q; cases q)]
    exact q
/-- [a, ..], owned -/
theorem we_lstO (h : WA Cs X es ρ M fun ds M1 => ds.length ≤ 100000 ∧ ∀ p, M1 p = none → Φ (.ref p) (put M1 p (.lst ds))) : WE Cs X (.List es pos) ρ M Φ :=
  .mk fun F σ H A Q k => (pe_lst pa_sem).sem (h.run _ σ H A _ fun vs ds H1 M1 p1 m1 r1 h1 => ⟨by rw [r1.length]; exact sz_of h1.1, fun p hp => k _ _ _ (put M1 p (.lst ds)) (p1.trans (post_own hp)) (m1.own hp ⟨vs, upd_same, r1.go (post_own hp)⟩) (.ref p) (h1.2 p (m1.old hp))⟩)
end
end DL
namespace DL
open PySem PySem.Spec PyProof.Rows L2
/-! ### room, with no guard around -/
structure Rm (k : Nat) (A : Around) : Prop where
  rm : Room k A
  gd : A.guards = some []
theorem Rm.mono {j k : Nat} {A : Around} (r : Rm k A) (h : j ≤ k) : Rm j A := ⟨r.rm.mono h, r.gd⟩
theorem Rm.deeper {k : Nat} {A : Around} (r : Rm (k + 1) A) (env : PySem.Env) : Rm k (A.deeper env) := ⟨r.rm.deeper env, r.gd⟩
theorem Rm.in1 {k : Nat} {A : Around} (r : Rm (k + 1) A) : Rm k A.in1 := ⟨r.rm.in1, r.gd⟩
theorem Rm.make {k : Nat} {A : Around} (r : Rm (k + 1) A) (C : Addr) (us : List Value) (kw : List (Str × Value)) : Rm k (A.under (.builtin "type.__call__" ⟨.ref C :: us, kw⟩)) :=
  ⟨r.rm.make C us kw, by
    have e : (Code.builtin "type.__call__" ⟨.ref C :: us, kw⟩).guards = [] := by first | rfl | simp [Code.guards, Code.isGuard, guardIds]
    have e2 : (A.under (.builtin "type.__call__" ⟨.ref C :: us, kw⟩)).guards = pushGuards (Code.builtin "type.__call__" ⟨.ref C :: us, kw⟩).guards A.guards := by
      unfold Around.under
      rfl
    rw [e2, e, r.gd]
    rfl⟩
/-- a promise by positional values -/
def FnG (P : Program) (w : World) (K : PySem.W.Frag) (mg : Str → Option Value) (base : Heap) (CX : CXT) (k : Nat) (f : Addr) (sp : Sp) : Prop :=
  ∀ (A : Around) (outer : List PySem.Env) (s : Shared) (H : Hp) (us : List Value) (vs : List V) (Q : VK) (E : XK), Rm k A → Env0 P w K mg base A outer s H → Vals vs us → sp vs H Q E →
    codeAny (model P w) A (.call (.ref f) ⟨us, []⟩) (CR CX outer P w H s Q E) s
theorem FnG.mono {P : Program} {w : World} {K : PySem.W.Frag} {mg : Str → Option Value} {base : Heap} {CX : CXT} {j k : Nat} {f : Addr} {sp : Sp} (F : FnG P w K mg base CX j f sp) (h : j ≤ k) : FnG P w K mg base CX k f sp := fun A outer s H us vs Q E hr => F A outer s H us vs Q E (hr.mono h)
theorem FnG.imp {P : Program} {w : World} {K : PySem.W.Frag} {mg : Str → Option Value} {base : Heap} {CX : CXT} {k : Nat} {f : Addr} {sp sp' : Sp} (F : FnG P w K mg base CX k f sp) (h : ∀ vs H Q E, sp' vs H Q E → sp vs H Q E) : FnG P w K mg base CX k f sp' :=
  fun A outer s H us vs Q E hr e0 r hs => F A outer s H us vs Q E hr e0 r (h _ _ _ _ hs)
/-- THE RULE for a def: by its body -/
theorem fn_g {CX : CXT} {P : Program} {w : World} {K : PySem.W.Frag} {mg : Str → Option Value} {base : Heap} {k : Nat} {f : Addr} {fd : FuncData} {name qual : Str} {params : Arguments} {body : List Stmt} {scope : Scope} {dvs dws : List V} {kws : List (Str × V)} {ds : List Value}
    {N ps : List Str} {sp : Sp} (F : FunD K name qual params body scope dvs kws f fd) (S : FnScope N ps scope) (hb : Binds K fd ps ds) (hd : Vals dws ds)
    (len : ∀ vs H Q E, sp (vs ++ dws) H Q E → (vs ++ dws).length = ps.length)
    (hbody : ∀ (cdv : Value) (A : Around) (outer : List PySem.Env) (s : Shared) (H : Hp) (vs : List V) (Q : VK) (E : XK), Rm k (A.deeper (envOfC qual scope s.heap.objs.size f cdv)) → sp vs H Q E →
      ∃ t, PSs (cxOf CX P w K mg base N qual scope f cdv A outer s H E) body t ∧ t { nx := fun _ H' => Q .non H', rt := Q } (start N vs) H) :
    FnG P w K mg base CX (k + 1) f (fun vs H Q E => sp (vs ++ dws) H Q E) := by
  obtain ⟨oc, od, dV, kV, doc, pm, an, cdv, ct, osl, rfl, lk, hcd, _, _⟩ := F.ex
  intro A outer s H us0 vs0 Q E hr e0 r0 hsp
  have hl := len _ _ _ _ hsp
  have r : Vals (vs0 ++ dws) (us0 ++ ds) := r0.append hd
  have KX : K.In s.heap := e0.mod.kin.keeps fun b o e => (e0.bs b o e).1
  have lim : s.heap.NoLimit := e0.mod.nolimit.keeps fun b o e => (e0.bs b o e).1
  have hb' := hb s us0 KX (by rw [← r.length]; exact hl)
  generalize hus : us0 ++ ds = us at hb' r
  generalize hvs : vs0 ++ dws = vs at hl r hsp
  have hkind : ∀ y ∈ ps.zip us, scope.names.lookup y.1 = some .local ∨ (scope.names.lookup y.1 = some .cell ∧ ((cellsFrom (s.heap.objs.size + 1) scope.names []).lookup y.1).isSome = true) := fun ⟨n, v⟩ hy => by
    rcases S.par n (List.of_mem_zip hy).1 with q | q
    · exact .inl q
    · exact .inr ⟨q, PySem.W.cellsFrom_some _ _ _ (.inl q)⟩
  refine codeAny_call_function hr.rm.depth (KX _ _ lk) rfl S.co S.gen rfl (PySem.W.codeRec_of KX hcd) (hb' _ _ _ _ ?_)
  refine wpAny_newFunctionEnv_cells S.kind hkind fun env he s1 x => ?_
  subst he
  refine ⟨lim.keeps x.toInCall.keep, codeAny_func ?_⟩
  obtain ⟨t, ht, hq⟩ := hbody cdv A outer s H vs Q E (hr.deeper _) hsp
  have I : Inv (cxOf CX P w K mg base N qual scope f cdv A outer s H E) [] (start N vs) H s1 := inv_start S hr.rm.hd e0 hl r x
  refine wpAny_mono (ht.run [] s1 (start N vs) H _ I hq) (fun fl s' hs => ?_) fun e s' hs => hs
  have fin : ∀ {σ' : L2.St} {H' : Hp} {v : V} {u : Value}, Inv (cxOf CX P w K mg base N qual scope f cdv A outer s H E) [] σ' H' s' → RelV v u → Q v H' → CE outer P w H s Q u s' :=
    fun {σ' H' v u} J rv q => ⟨v, H', J.os, J.bare, J.base, J.hok, rv, q⟩
  cases fl with
  | ret u =>
    obtain ⟨v, σ', H', J, rv, q⟩ := hs
    exact fin J rv q
  | next =>
    obtain ⟨σ', H', J, q⟩ := hs
    exact fin (v := V.non) (u := Value.none) J rfl q
  | brk =>
    obtain ⟨_, _, _, q⟩ := hs
    exact False.elim q
  | cont =>
    obtain ⟨_, _, _, q⟩ := hs
    exact False.elim q
section
variable {X : Cx} {CX : CXT} {k n : Nat} {f g C : Addr} {sp : Sp} {E : XK} {x m : Str} {p pos apos : Pos} {e o : Expr} {es : List Expr} {t : TA} {ta : TE} {pins : List (Addr × Obj)} {σ : L2.St} {H : Hp} {s : Shared} {Q : VK} {us : List Value} {vs : List V}
theorem run_g (F : FnG X.prog X.w X.K X.mg X.base CX k f sp) (hr : Rm k X.A) (hx : Passes CX X E) (I : Inv X pins σ H s) (r : Vals vs us) (h : sp vs H Q E) :
    codeAny (model X.prog X.w) X.A (.call (.ref f) ⟨us, []⟩) (fun r s' => match r with | .ok (.ret v) => EP X pins σ Q v s' | .ok _ => False | .error e => X.xe e s') s := by
  refine codeAny_mono (F X.A X.stack s H us vs Q E hr I.env0 r h) fun r s' hq => ?_
  cases r with
  | error e => exact hx pins σ H s e s' I hq
  | ok fl =>
    cases fl with
    | ret u => exact I.after hq
    | next => exact False.elim hq
    | brk => exact False.elim hq
    | cont => exact False.elim hq
theorem pe_callG (F : FnG X.prog X.w X.K X.mg X.base CX k f sp) (hr : Rm k X.A) (hg : Gl X x) (hm : X.mg x = some (.ref f)) (hk : PySem.W.keepIn X.K (.ref f) = true)
    (hx : Passes CX X E) (ha : PA X (e :: es) t) (hdb : (x == ("__debug__" : Str)) = false := by decide) (he : starEach (e :: es) X.env = (false, eval e X.env) :: starEach es X.env := by rfl) (hpl : (backTo pos (starEach es X.env)).any (·.1) = false := by rfl) :
    PE X (.Call (.Name x p) (e :: es) [] pos) (fun σ H Q => t σ H fun vs H1 => sp vs H1 Q E) := by
  refine ⟨fun pins s σ H Q I h => ?_⟩
  refine wpAny_Call_Name_kw (ld_glob I hg hm ?_ hdb)
  refine PySem.W.callWith_K (h₀ := X.base) I.ok.mod.kin hk (thn (ha.run pos pins s σ H _ I h) fun us s1 ⟨vs, H1, I1, r, q⟩ => ⟨I1.kIn, ?_⟩) he hpl
  exact wpAny_call (run_g F hr hx I1 r q)
theorem pe_callG0 (F : FnG X.prog X.w X.K X.mg X.base CX k f sp) (hr : Rm k X.A) (hg : Gl X x) (hm : X.mg x = some (.ref f)) (hk : PySem.W.keepIn X.K (.ref f) = true)
    (hx : Passes CX X E) (hdb : (x == ("__debug__" : Str)) = false := by decide) : PE X (.Call (.Name x p) [] [] pos) (fun σ H Q => sp [] H Q E) := by
  refine ⟨fun pins s σ H Q I h => ?_⟩
  refine wpAny_Call_Name_kw (ld_glob I hg hm ?_ hdb)
  exact PySem.W.callWith_K0 I.kIn hk (wpAny_call (run_g (us := []) F hr hx I .nil h))
theorem getprop_g {b : Bool} {f : Str} {a dx p : Addr} {vs : List (Option V)} (I : Inv X pins σ H s) (h : SlX.Slt H a C dx vs) (c : SlX.SCls X.K C) (at_ : PySem.W.findIn X.K (.ref C) f = some (some (.ref p))) (get : PySem.W.specialIn X.K (.ref p) "__get__" = some (some (.builtin "property.__get__")))
    (tk : PySem.W.takesIn X.K (.ref p) = some true) (rc : ∃ rest, PySem.W.recIn X.K p "property" = some (.ref g :: rest)) (F : FnG X.prog X.w X.K X.mg X.base CX n g sp) (hr : Rm (n + 1) X.A)
    (hx : ∀ (H : Hp) (s : Shared) (e : Value) (s' : Shared), CX X.stack H s E e s' → False) (q : sp [.ref a] H Q E) : wpAny (model X.prog X.w) X.A (getAttr (.ref a) f b) (EP X pins σ Q) X.xe s := by
  obtain ⟨sl, od, _, J, _⟩ := SlX.slt_inst I h
  obtain ⟨rest, hrec⟩ := rc
  have I1 : Inv X pins σ H { s with toks := s.toks + 1 } := I.tok (s.toks + 1)
  refine PySem.W.get_bind I.kIn J (PySem.W.plainGet_of (c.get f)).1 (PySem.W.findObj_data c.ic at_ get tk) (PySem.W.plainGet_of (c.get f)).2 (wpAny_call (PySem.W.prop_get (s := { s with toks := s.toks + 1 }) I.kIn hrec ?_))
  refine codeAny_mono (F X.A.in1 X.stack { s with toks := s.toks + 1 } H [.ref a] [.ref a] Q E hr.in1 I1.env0.in1 (.cons rfl .nil) q) fun r s' hq => ?_
  cases r with
  | error e => exact (hx _ _ _ _ hq).elim
  | ok fl =>
    cases fl with
    | ret u =>
      obtain ⟨v, H', I2, rv, q⟩ := I1.after hq
      exact wpAny_of_eq (PySem.W.handedOut_of (handed_of rv)) ⟨v, H', I2, rv, q⟩
    | next => exact False.elim hq
    | brk => exact False.elim hq
    | cont => exact False.elim hq
theorem pe_methG {pl : Sem Bool} (he : PE X o ta) (c : SlX.SCls X.K C) (hm : Meth X.K C m g) (F : FnG X.prog X.w X.K X.mg X.base CX k g sp) (hr : Rm k X.A) (hx : Passes CX X E) (ha : PA X (e :: es) t)
    (hst : starEach (e :: es) X.env = (false, eval e X.env) :: starEach es X.env := by rfl) (hpl : (backTo pos (starEach es X.env)).any (·.1) = false := by rfl)
    (ht : eval (.Call (.Attribute o m apos) (e :: es) [] pos) X.env = (do
      let ov ← eval o X.env
      standAt apos.atName
      let (f, first) ← holding [ov] (getMethod ov m pl)
      callWith pos f first (backTo pos (starEach (e :: es) X.env)) (backToKw pos (keywordEach [] X.env))) := by rfl) :
    PE X (.Call (.Attribute o m apos) (e :: es) [] pos) (SlX.tMethSl C sp E ta t) := by
  refine ⟨fun pins s σ H Q I h => ?_⟩
  refine PySem.W.methodCall_KW (pl := pl) (thn (he.run pins s σ H _ I h) fun u s1 ⟨x, H1, I1, rx, a, dx, vs, ex, hsl, q⟩ => ?_) ht
  subst ex
  obtain rfl : u = Value.ref a := rx
  refine SlX.getmethsl_ok I1 hsl c hm ?_
  refine PySem.W.callWith_K (first := [.ref a]) (h₀ := X.base) I.ok.mod.kin hm.kp (thn (ha.run pos pins s1 σ H1 _ I1 q) fun us s2 ⟨ws, H2, I2, r, q2⟩ => ⟨I2.kIn, ?_⟩) hst hpl
  exact wpAny_call (run_g (us := .ref a :: us) (vs := .ref a :: ws) F hr hx I2 (.cons rfl r) q2)
theorem pe_methG0 {pl : Sem Bool} (he : PE X o ta) (c : SlX.SCls X.K C) (hm : Meth X.K C m g) (F : FnG X.prog X.w X.K X.mg X.base CX k g sp) (hr : Rm k X.A) (hx : Passes CX X E)
    (ht : eval (.Call (.Attribute o m apos) [] [] pos) X.env = (do
      let ov ← eval o X.env
      standAt apos.atName
      let (f, first) ← holding [ov] (getMethod ov m pl)
      callWith pos f first (backTo pos (starEach [] X.env)) (backToKw pos (keywordEach [] X.env))) := by rfl) :
    PE X (.Call (.Attribute o m apos) [] [] pos) (SlX.tMethSl C sp E ta tNil) := by
  refine ⟨fun pins s σ H Q I h => ?_⟩
  refine PySem.W.methodCall_KW (pl := pl) (thn (he.run pins s σ H _ I h) fun u s1 ⟨x, H1, I1, rx, a, dx, vs, ex, hsl, q⟩ => ?_) ht
  subst ex
  obtain rfl : u = Value.ref a := rx
  refine SlX.getmethsl_ok I1 hsl c hm ?_
  exact PySem.W.callWith_K0 (first := [.ref a]) I1.kIn hm.kp (wpAny_call (run_g (us := [.ref a]) (vs := [.ref a]) F hr hx I1 (.cons rfl .nil) q))
theorem run_makeG (M : Mk X.K C f) (F : FnG X.prog X.w X.K X.mg X.base CX k f sp) (hr : Rm (k + 1) X.A) (hx : Passes CX X E) (I : Inv X pins σ H s) (r : Vals vs us)
    (h : ∀ x dx, H x = Option.none → H dx = Option.none → dx ≠ x → sp (V.ref x :: vs) (upd (upd H dx (.own x)) x (.ins C dx [])) (fun v H2 => v = .non ∧ Q (.ref x) H2) E) :
    wpAny (model X.prog X.w) X.A (call (.ref C) us) (EP X pins σ Q) X.xe s := by
  have hq := h (s.heap.objs.size + 1) s.heap.objs.size (I.hok.fresh (Nat.le_succ _)) (I.hok.fresh (Nat.le_refl _)) (Nat.ne_of_lt (Nat.lt_succ_self _))
  have I2 := Inv.made (C := C) I
  have r2 : Vals (V.ref (s.heap.objs.size + 1) :: vs) (Value.ref (s.heap.objs.size + 1) :: us) := .cons rfl r
  refine wpAny_call (make_map (f := f) I.kIn M.makes M.init (beq_iff_eq.mp M.fn) (codeAny_mono (F _ X.stack _ _ (Value.ref (s.heap.objs.size + 1) :: us) _ _ E (hr.make C us []) (I2.env0.make C us []) r2 hq) fun r s' hq' => ?_))
  cases r with
  | error e => exact hx pins σ _ _ e s' I2 hq'
  | ok fl =>
    cases fl with
    | ret u =>
      obtain ⟨v, H', I3, rv, ev, q3⟩ := I2.after hq'
      subst ev
      exact ⟨rv, ⟨V.ref (s.heap.objs.size + 1), H', I3, rfl, q3⟩⟩
    | next => exact False.elim hq'
    | brk => exact False.elim hq'
    | cont => exact False.elim hq'
theorem pe_makeG (M : Mk X.K C f) (F : FnG X.prog X.w X.K X.mg X.base CX k f sp) (hr : Rm (k + 1) X.A) (hg : Gl X x) (hm : X.mg x = some (.ref C)) (hx : Passes CX X E) (ha : PA X (e :: es) t) (hdb : (x == ("__debug__" : Str)) = false := by decide)
    (he : starEach (e :: es) X.env = (false, eval e X.env) :: starEach es X.env := by rfl) (hpl : (backTo pos (starEach es X.env)).any (·.1) = false := by rfl) : PE X (.Call (.Name x p) (e :: es) [] pos) (StX.tMakeR C sp E t) := by
  refine ⟨fun pins s σ H Q I h => ?_⟩
  refine wpAny_Call_Name_kw (ld_glob I hg hm ?_ hdb)
  refine PySem.W.callWith_K (h₀ := X.base) I.ok.mod.kin M.kp (thn (ha.run pos pins s σ H _ I h) fun us s1 ⟨vs, H1, I1, r, q⟩ => ⟨I1.kIn, ?_⟩) he hpl
  exact run_makeG M F hr hx I1 r q
/-- x op y by an own def of x's class, y of the same class -/
theorem bin_g {op : Operator} {a b dx dy : Addr} {vs ws : List (Option V)} (hsf : PySem.W.selfFirst X.K C = true) (hs : PySem.W.findIn X.K (.ref C) (PySem.dunder op.info.2) = some (some (.ref g))) (hf : PySem.W.isFn X.K (.ref g) = true)
    (F : FnG X.prog X.w X.K X.mg X.base CX k g sp) (hr : Rm k X.A) (hx : Passes CX X E) (I : Inv X pins σ H s) (ha : SlX.Slt H a C dx vs) (hb : SlX.Slt H b C dy ws) (q : sp [.ref a, .ref b] H Q E) :
    wpAny (model X.prog X.w) X.A (binaryOp op (.ref a) (.ref b)) (EP X pins σ Q) X.xe s := by
  obtain ⟨sl, od, _, J, _⟩ := SlX.slt_inst I ha
  obtain ⟨sl', od', _, J', _⟩ := SlX.slt_inst I hb
  obtain ⟨m, hF⟩ := I.fr
  refine PySem.W.binop_K hF I.ok.mod.kin J J'.type hsf hs hf ?_
  refine wpAny_mono (wpAny_call (run_g (us := [.ref a, .ref b]) (vs := [.ref a, .ref b]) F hr hx I (.cons rfl (.cons rfl .nil)) q)) (fun w s' z => ?_) fun _ _ x => x
  obtain ⟨z', H', I', rz, qz⟩ := z
  exact SlX.cmpback rz ⟨z', H', I', rz, qz⟩
theorem cmp_g {op : CmpOp} {a b dx dy C' : Addr} {vs ws : List (Option V)} (hop : ∀ a b, compareOp op a b = richCompare op a b) (hn : PySem.W.notFirst X.K C (.ref C') = true) (hs : PySem.W.findIn X.K (.ref C) (cmpInfo op).2.1 = some (some (.ref g))) (hf : PySem.W.isFn X.K (.ref g) = true)
    (F : FnG X.prog X.w X.K X.mg X.base CX k g sp) (hr : Rm k X.A) (hx : Passes CX X E) (I : Inv X pins σ H s) (ha : SlX.Slt H a C dx vs) (hb : SlX.Slt H b C' dy ws) (q : sp [.ref a, .ref b] H Q E) :
    wpAny (model X.prog X.w) X.A (compareOp op (.ref a) (.ref b)) (EP X pins σ Q) X.xe s := by
  obtain ⟨sl, od, _, J, _⟩ := SlX.slt_inst I ha
  obtain ⟨sl', od', _, J', _⟩ := SlX.slt_inst I hb
  obtain ⟨m, hF⟩ := I.fr
  rw [hop]
  refine PySem.W.cmp_K (op := op) (tb := .ref C') hr.rm.units0 hF I.ok.mod.kin J J'.type hn hs hf ?_
  refine wpAny_mono (wpAny_call (run_g (us := [.ref a, .ref b]) (vs := [.ref a, .ref b]) F hr hx I (.cons rfl (.cons rfl .nil)) q)) (fun w s' z => ?_) fun _ _ x => x
  obtain ⟨z', H', I', rz, qz⟩ := z
  exact SlX.cmpback rz ⟨z', H', I', rz, qz⟩
end
end DL
namespace DL
open PySem PySem.Spec PyProof.Rows L2

def semG (X : Cx) (tg : Expr) : TG := fun v σ H Q => ∀ pins s u, Inv X pins σ H s → RelV v u → wpAny (model X.prog X.w) X.A (assign tg X.env u) (fun _ s' => ∃ σ' H', Inv X pins σ' H' s' ∧ Q σ' H') X.xe s
def semGs (X : Cx) (ts : List Expr) : TGs := fun vs σ H Q => ∀ pins s us, Inv X pins σ H s → Vals vs us → wpAny (model X.prog X.w) X.A (assignInOrder ((assignEach ts X.env).map (·.2)) us) (fun _ s' => ∃ σ' H', Inv X pins σ' H' s' ∧ Q σ' H') X.xe s
def semAt (X : Cx) (f : Str) : V → Hp → VK → Prop := fun x H Q => ∀ pins s σ v, Inv X pins σ H s → RelV x v → wpAny (model X.prog X.w) X.A (getAttr v f true) (EP X pins σ Q) X.xe s
section
variable {X : Cx}
theorem pg_sem {tg : Expr} : PG X tg (semG X tg) := ⟨fun pins s _ _ _ u _ I r h => h pins s u I r⟩
theorem pgs_sem {ts : List Expr} : PGs X ts (semGs X ts) := ⟨fun pins s _ _ _ us _ I r h => h pins s us I r⟩
theorem _root_.L2.PG.sem {tg : Expr} {t : TG} {v : V} {σ : L2.St} {H : Hp} {Q : L2.St → Hp → Prop} (p : PG X tg t) (h : t v σ H Q) : semG X tg v σ H Q := fun pins s u I r => p.run pins s σ H v u Q I r h
theorem _root_.L2.PGs.sem {ts : List Expr} {t : TGs} {vs : List V} {σ : L2.St} {H : Hp} {Q : L2.St → Hp → Prop} (p : PGs X ts t) (h : t vs σ H Q) : semGs X ts vs σ H Q := fun pins s us I r => p.run pins s σ H vs us Q I r h
theorem pe_attr {e : Expr} {f : Str} {pos : Pos} {t : TE} (he : PE X e t) (hb : attributeBase e f X.env (eval e X.env) = eval e X.env := by rfl) : PE X (.Attribute e f pos) (fun σ H Q => t σ H fun x H1 => semAt X f x H1 Q) :=
  ⟨fun pins s σ H Q I h => attr_of hb (thn (he.run pins s σ H _ I h) fun u s1 ⟨x, H1, I1, rx, q⟩ => q pins s1 σ u I1 rx)⟩
end

section
variable (Cs : Nat → Addr)
structure WG (X : Cx) (tg : Expr) (d : D) (ρ : Env) (M : Mem) (K : Env → Mem → Prop) : Prop where
  run : ∀ (F : Addr → Prop) σ H v, At Cs F M H σ ρ → Rep Cs (Zf F M) H v d → ∀ Q, (∀ σ' ρ' H' M', Post M H M' H' → At Cs F M' H' σ' ρ' → K ρ' M' → Q σ' H') → semG X tg v σ H Q
structure WGs (X : Cx) (ts : List Expr) (ds : List D) (ρ : Env) (M : Mem) (K : Env → Mem → Prop) : Prop where
  run : ∀ (F : Addr → Prop) σ H vs, At Cs F M H σ ρ → Reps Cs (Zf F M) H vs ds → ∀ Q, (∀ σ' ρ' H' M', Post M H M' H' → At Cs F M' H' σ' ρ' → K ρ' M' → Q σ' H') → semGs X ts vs σ H Q
structure WAt (X : Cx) (f : Str) (x : D) (M : Mem) (Φ : D → Mem → Prop) : Prop where
  run : ∀ (F : Addr → Prop) H vx, MemAt Cs F M H → Rep Cs (Zf F M) H vx x → ∀ Q, Res Cs F M H Φ Q → semAt X f vx H Q
/-- the def at f does S, by at most level k -/
abbrev FnD (X : Cx) (k : Nat) (f : Addr) (S : FS) : Prop := FnG X.prog X.w X.K X.mg X.base CX0 k f (spD Cs S)
end
section
variable {Cs : Nat → Addr} {F : Addr → Prop} {X : Cx} {ρ : Env} {M : Mem} {a b c e : Expr} {es : List Expr} {pos p apos : Pos} {Φ : D → Mem → Prop} {Ψ : Bool → Mem → Prop} {st : Stmt} {sts rest body : List Stmt} {E : DE} {x f m : Str}

/-! ### calls -/
theorem we_call {k : Nat} {g : Addr} {S : FS} (Fn : FnD Cs X k g S) (hr : Rm k X.A) (hg : Gl X x) (hm : X.mg x = some (.ref g)) (hk : PySem.W.keepIn X.K (.ref g) = true) (h : WA Cs X (e :: es) ρ M fun ds M1 => S ds M1 Φ)
    (hdb : (x == ("__debug__" : Str)) = false := by decide) (he : starEach (e :: es) X.env = (false, eval e X.env) :: starEach es X.env := by rfl) (hpl : (backTo pos (starEach es X.env)).any (·.1) = false := by rfl) : WE Cs X (.Call (.Name x p) (e :: es) [] pos) ρ M Φ :=
  .mk fun F σ H A Q k => (pe_callG Fn hr hg hm hk pass0 pa_sem hdb he hpl).sem (h.run _ σ H A _ fun vs ds H1 M1 p1 m1 r1 h1 => ⟨_, ds, M1, Φ, m1, r1, h1, k.from p1⟩)
theorem we_call0 {k : Nat} {g : Addr} {S : FS} (Fn : FnD Cs X k g S) (hr : Rm k X.A) (hg : Gl X x) (hm : X.mg x = some (.ref g)) (hk : PySem.W.keepIn X.K (.ref g) = true) (h : S [] M Φ) (hdb : (x == ("__debug__" : Str)) = false := by decide) : WE Cs X (.Call (.Name x p) [] [] pos) ρ M Φ :=
  .mk fun F σ H A Q k => (pe_callG0 Fn hr hg hm hk pass0 hdb).sem ⟨_, [], M, Φ, A.mem, .nil, h, k⟩
theorem we_callB {id : String} (hg : Gl X x) (hm : X.mg x = none) (hv : bootBuiltins x = some (.builtin id)) (h : WA Cs X (e :: es) ρ M fun ds M1 => WC Cs X (.builtin id) ds M1 Φ) (hn : x ≠ "__name__" := by decide) (hdb : (x == ("__debug__" : Str)) = false := by decide)
    (he : starEach (e :: es) X.env = (false, eval e X.env) :: starEach es X.env := by rfl) (hpl : (backTo pos (starEach es X.env)).any (·.1) = false := by rfl) : WE Cs X (.Call (.Name x p) (e :: es) [] pos) ρ M Φ :=
  .mk fun F σ H A Q k => (pe_callB call_sem hg hm hv pa_sem hn hdb he hpl).sem (h.run _ σ H A _ fun vs ds H1 M1 p1 m1 r1 h1 => h1.run _ H1 vs m1 r1 Q (k.from p1))
theorem we_callTy {T : String} (hg : Gl X x) (hm : X.mg x = none) (hv : bootBuiltins x = some (.type T)) (h : WA Cs X (e :: es) ρ M fun ds M1 => WC Cs X (.type T) ds M1 Φ) (hn : x ≠ "__name__" := by decide) (hdb : (x == ("__debug__" : Str)) = false := by decide)
    (he : starEach (e :: es) X.env = (false, eval e X.env) :: starEach es X.env := by rfl) (hpl : (backTo pos (starEach es X.env)).any (·.1) = false := by rfl) : WE Cs X (.Call (.Name x p) (e :: es) [] pos) ρ M Φ :=
  .mk fun F σ H A Q k => (pe_callTy call_sem hg hm hv pa_sem hn hdb he hpl).sem (h.run _ σ H A _ fun vs ds H1 M1 p1 m1 r1 h1 => h1.run _ H1 vs m1 r1 Q (k.from p1))
theorem run_D {k : Nat} {g : Addr} {S : FS} {pins : List (Addr × Obj)} {σ : L2.St} {H : Hp} {s : Shared} {Q : VK} {us : List Value} {vs : List V} {ds : List D} (Fn : FnD Cs X k g S) (hr : Rm k X.A) (I : Inv X pins σ H s) (r : Vals vs us) (m : MemAt Cs F M H) (rs : Reps Cs (Zf F M) H vs ds) (h : S ds M Φ) (q : Res Cs F M H Φ Q) :
    wpAny (model X.prog X.w) X.A (call (.ref g) us) (EP X pins σ Q) X.xe s := wpAny_call (run_g Fn hr pass0 (E := E0) I r ⟨_, ds, M, Φ, m, rs, h, q⟩)

/-! ### instances with slots -/
theorem rep_slt {H : Hp} {v : V} {c : Nat} {ds : List D} (r : Rep Cs (Zf F M) H v (.obj c ds)) : ∃ q dx vs, v = .ref q ∧ SlX.Slt H q (Cs c) dx (vs.map some) ∧ Reps Cs (Zf F M) H vs ds := by
  cases r with
  | obj hz hx h h2 r => exact ⟨_, _, _, rfl, .inr ⟨h, h2⟩, r⟩
theorem we_attr (h : WE Cs X e ρ M fun x M1 => WAt Cs X f x M1 Φ) (hb : attributeBase e f X.env (eval e X.env) = eval e X.env := by rfl) : WE Cs X (.Attribute e f pos) ρ M Φ :=
  .mk fun F σ H A Q k => (pe_attr pe_sem hb).sem (h.run _ σ H A _ fun v d H1 M1 p1 m1 r1 h1 => h1.run _ H1 v m1 r1 Q (k.from p1))
theorem wat_slot {c i : Nat} {q : Addr} {ds : List D} {d : D} (hc : SlX.SCls X.K (Cs c)) (hs : SlX.Slot1 X.K (Cs c) f q i) (hi : ds[i]? = some d) (h : Φ d M) : WAt Cs X f (.obj c ds) M Φ := .mk fun F H vx m r Q k pins s σ v I rv => by
  obtain ⟨qa, dx, vs, rfl, hsl, rs⟩ := rep_slt r
  obtain ⟨w, hw, rw'⟩ := rs.get hi
  cases rv
  exact SlX.getslot_ok I hsl hc hs (v := w) (by rw [List.getElem?_map, hw]; rfl) fun u s' I' ru => ⟨w, H, I', ru, k.here m rw' h⟩
theorem wat_prop {c k : Nat} {q g : Addr} {ds : List D} {S : FS} (hc : SlX.SCls X.K (Cs c)) (at_ : PySem.W.findIn X.K (.ref (Cs c)) f = some (some (.ref q))) (get : PySem.W.specialIn X.K (.ref q) "__get__" = some (some (.builtin "property.__get__")))
    (tk : PySem.W.takesIn X.K (.ref q) = some true) (rc : ∃ rest, PySem.W.recIn X.K q "property" = some (.ref g :: rest)) (Fn : FnD Cs X k g S) (hr : Rm (k + 1) X.A) (h : S [.obj c ds] M Φ) : WAt Cs X f (.obj c ds) M Φ := .mk fun F H vx m r Q k pins s σ v I rv => by
  obtain ⟨qa, dx, vs, rfl, hsl, rs⟩ := rep_slt r
  cases rv
  exact getprop_g (E := E0) I hsl hc at_ get tk rc Fn hr (fun _ _ _ _ z => z) ⟨_, _, M, Φ, m, .cons r .nil, h, k⟩
/-- o.m(e, ..) -/
theorem we_meth {c k : Nat} {g : Addr} {S : FS} {pl : Sem Bool} (hc : SlX.SCls X.K (Cs c)) (hm : Meth X.K (Cs c) m g) (Fn : FnD Cs X k g S) (hr : Rm k X.A) (h : WE Cs X a ρ M fun x M1 => ∃ ds, x = .obj c ds ∧ WA Cs X (e :: es) ρ M1 fun as M2 => S (.obj c ds :: as) M2 Φ)
    (hst : starEach (e :: es) X.env = (false, eval e X.env) :: starEach es X.env := by rfl) (hpl : (backTo pos (starEach es X.env)).any (·.1) = false := by rfl)
    (ht : eval (.Call (.Attribute a m apos) (e :: es) [] pos) X.env = (do
      let ov ← eval a X.env
      standAt apos.atName
      let (f, first) ← holding [ov] (getMethod ov m pl)
      callWith pos f first (backTo pos (starEach (e :: es) X.env)) (backToKw pos (keywordEach [] X.env))) := by rfl) : WE Cs X (.Call (.Attribute a m apos) (e :: es) [] pos) ρ M Φ :=
  .mk fun F σ H A Q k => (pe_methG (E := E0) (pl := pl) pe_sem hc hm Fn hr pass0 pa_sem hst hpl ht).sem (h.run _ σ H A _ fun v d H1 M1 p1 m1 r1 h1 => by
    obtain ⟨ds, rfl, h1⟩ := h1
    obtain ⟨qa, dx, vs, rfl, hsl, rs⟩ := rep_slt r1
    exact ⟨qa, dx, _, rfl, hsl, h1.run _ σ H1 (A.go p1 m1) _ fun ws as H2 M2 p2 m2 r2 h2 => ⟨_, _, M2, Φ, m2, .cons (r1.go p2) r2, h2, k.from (p1.trans p2)⟩⟩)
theorem we_meth0 {c k : Nat} {g : Addr} {S : FS} {pl : Sem Bool} (hc : SlX.SCls X.K (Cs c)) (hm : Meth X.K (Cs c) m g) (Fn : FnD Cs X k g S) (hr : Rm k X.A) (h : WE Cs X a ρ M fun x M1 => ∃ ds, x = .obj c ds ∧ S [.obj c ds] M1 Φ)
    (ht : eval (.Call (.Attribute a m apos) [] [] pos) X.env = (do
      let ov ← eval a X.env
      standAt apos.atName
      let (f, first) ← holding [ov] (getMethod ov m pl)
      callWith pos f first (backTo pos (starEach [] X.env)) (backToKw pos (keywordEach [] X.env))) := by rfl) : WE Cs X (.Call (.Attribute a m apos) [] [] pos) ρ M Φ :=
  .mk fun F σ H A Q k => (pe_methG0 (E := E0) (pl := pl) pe_sem hc hm Fn hr pass0 ht).sem (h.run _ σ H A _ fun v d H1 M1 p1 m1 r1 h1 => by
    obtain ⟨ds, rfl, h1⟩ := h1
    obtain ⟨qa, dx, vs, rfl, hsl, rs⟩ := rep_slt r1
    exact ⟨qa, dx, _, rfl, hsl, _, _, M1, Φ, m1, .cons r1 .nil, h1, k.from p1⟩)

/-! ### statements -/
theorem wss_nil (h : E.nx ρ M) : WSs Cs X [] ρ M E := .mk fun F σ H A Dn k => pss_nil.sem (k.nx σ ρ H M .refl A h)
theorem wss_cons (h : WS Cs X st ρ M { E with nx := fun ρ' M' => WSs Cs X rest ρ' M' E }) : WSs Cs X (st :: rest) ρ M E :=
  .mk fun F σ H A Dn k => (pss_cons ps_sem pss_sem).sem (h.run _ σ H A { Dn with nx := semSs X rest Dn } ⟨fun σ' ρ' H' M' p A' w => w.run _ σ' H' A' Dn (k.from p), k.rt, k.bk, k.ct⟩)
theorem wss_one (h : WS Cs X st ρ M E) : WSs Cs X [st] ρ M E := .mk fun F σ H A Dn k => (pss_one ps_sem).sem (h.run _ σ H A Dn k)
theorem ws_ret (h : WE Cs X e ρ M E.rt) : WS Cs X (.Return (some e) pos) ρ M E := .mk fun F σ H A Dn k => (ps_ret pe_sem).sem (h.run _ σ H A _ k.rt)
theorem ws_retN (h : E.rt .non M) : WS Cs X (.Return none pos) ρ M E := .mk fun F σ H A Dn k => ps_retN.sem (k.rt _ _ H M .refl A.mem .non h)
theorem ws_pass (h : E.nx ρ M) : WS Cs X (.Pass pos) ρ M E := .mk fun F σ H A Dn k => ps_pass.sem (k.nx σ ρ H M .refl A h)
theorem ws_break (h : E.bk ρ M) : WS Cs X (.Break pos) ρ M E := .mk fun F σ H A Dn k => ps_break.sem (k.bk σ ρ H M .refl A h)
theorem ws_cont (h : E.ct ρ M) : WS Cs X (.Continue pos) ρ M E := .mk fun F σ H A Dn k => ps_continue.sem (k.ct σ ρ H M .refl A h)
theorem ws_expr (h : WE Cs X e ρ M fun _ M1 => E.nx ρ M1) (hs : swapsWith e none pos.line X.env = pure false := by rfl) : WS Cs X (.Expr e pos) ρ M E :=
  .mk fun F σ H A Dn k => (ps_expr pe_sem hs).sem (h.run _ σ H A _ fun v d H1 M1 p1 m1 r1 h1 => k.nx σ ρ H1 M1 p1 (A.go p1 m1) h1)
theorem ws_if {s1 s2 : List Stmt} (h : WT Cs X c ρ M fun t M1 => (t = true → WSs Cs X s1 ρ M1 E) ∧ (t = false → WSs Cs X s2 ρ M1 E)) : WS Cs X (.If c s1 s2 pos) ρ M E :=
  .mk fun F σ H A Dn k => (ps_if pt_sem pss_sem pss_sem).sem (h.run _ σ H A _ fun t H1 M1 p1 m1 h1 => by
    cases t with
    | true => rw [if_pos rfl]; exact (h1.1 rfl).run _ σ H1 (A.go p1 m1) Dn (k.from p1)
    | false => rw [if_neg Bool.false_ne_true]; exact (h1.2 rfl).run _ σ H1 (A.go p1 m1) Dn (k.from p1))
theorem At.set {H : Hp} {σ : L2.St} (A : At Cs F M H σ ρ) {v : V} {d : D} (i : Nat) (r : Rep Cs (Zf F M) H v d) : At Cs F M H (σ.set i (some v)) (ρ.set i (some d)) :=
  ⟨A.mem, by rw [List.length_set, List.length_set, A.len], fun j d' e => by
    by_cases hj : j = i
    · subst hj
      by_cases hl : j < ρ.length
      · rw [List.getElem?_set_self hl] at e
        cases e
        exact ⟨v, by rw [List.getElem?_set_self (by rw [A.len]; exact hl)], r⟩
      · rw [List.getElem?_eq_none_iff.mpr (by rw [List.length_set]; omega)] at e
        cases e
    · rw [List.getElem?_set_ne (Ne.symm hj)] at e
      obtain ⟨w, h1, h2⟩ := A.env j d' e
      exact ⟨w, by rw [List.getElem?_set_ne (Ne.symm hj)]; exact h1, h2⟩⟩
theorem ws_set {pos' : Pos} (i : Nat) (hN : X.N.Nodup) (hi : X.N[i]? = some x) (hx : Loc X.env.scope x) (h : WE Cs X e ρ M fun d M1 => E.nx (ρ.set i (some d)) M1) (hs : swapsWith e (some (.Name x pos')) pos.line X.env = pure false := by rfl)
    (hf : X.fn x = true ∨ X.env.scope.names.lookup x = some .local := by first | exact .inl rfl | exact .inr rfl) : WS Cs X (.Assign [.Name x pos'] e pos) ρ M E :=
  .mk fun F σ H A Dn k => (ps_set hN hi hx pe_sem hs hf).sem (h.run _ σ H A _ fun v d H1 M1 p1 m1 r1 h1 => k.nx _ _ H1 M1 p1 ((A.go p1 m1).set i r1) h1)
/-! ### targets -/
theorem wg_name {d : D} {K : Env → Mem → Prop} (i : Nat) (hN : X.N.Nodup) (hi : X.N[i]? = some x) (hx : Loc X.env.scope x) (h : K (ρ.set i (some d)) M) (hf : X.fn x = true ∨ X.env.scope.names.lookup x = some .local := by first | exact .inl rfl | exact .inr rfl) : WG Cs X (.Name x pos) d ρ M K :=
  .mk fun F σ H v A r Q k => (pg_name hN hi hx hf).sem (k _ _ H M .refl (A.set i r) h)
theorem wgs_nil {K : Env → Mem → Prop} (h : K ρ M) : WGs Cs X [] [] ρ M K := .mk fun F σ H vs A r Q k => pgs_nil.sem (by cases r; exact ⟨rfl, k _ _ H M .refl A h⟩)
theorem wgs_cons {d : D} {ds : List D} {K : Env → Mem → Prop} (h : WG Cs X e d ρ M fun ρ1 M1 => WGs Cs X es ds ρ1 M1 K) (hs : (assignEach (e :: es) X.env).map (·.2) = assign e X.env :: (assignEach es X.env).map (·.2) := by rfl) : WGs Cs X (e :: es) (d :: ds) ρ M K :=
  .mk fun F σ H vs A r Q k => (pgs_cons pg_sem pgs_sem hs).sem (by
    cases r with
    | cons r rr => exact ⟨_, _, rfl, h.run _ σ H _ A r _ fun σ1 ρ1 H1 M1 p1 A1 w => w.run _ σ1 H1 _ A1 (rr.go p1) Q fun σ2 ρ2 H2 M2 p2 A2 w2 => k σ2 ρ2 H2 M2 (p1.trans p2) A2 w2⟩)
theorem wg_tup {ds : List D} {kk n : Nat} {K : Env → Mem → Prop} (hc : X.calm = true) (hl : ds.length = n) (h : WGs Cs X es ds ρ M K) (hn : (assignEach es X.env).length = n := by rfl) (hst : (assignEach es X.env).findIdx? (·.1) = none := by rfl) : WG Cs X (.Tuple es kk pos) (.tup ds) ρ M K :=
  .mk fun F σ H v A r Q k => (pg_tup hc pgs_sem hn hst).sem (by
    cases r with
    | tup hz hr rs => exact ⟨_, _, rfl, .inl hr, by rw [rs.length]; exact hl, h.run _ σ H _ A rs Q k⟩)
theorem wg_unl {ds : List D} {kk n : Nat} {K : Env → Mem → Prop} (hc : X.calm = true) (hl : ds.length = n) (h : WGs Cs X es ds ρ M K) (hn : (assignEach es X.env).length = n := by rfl) (hst : (assignEach es X.env).findIdx? (·.1) = none := by rfl) : WG Cs X (.Tuple es kk pos) (.lst ds) ρ M K :=
  .mk fun F σ H v A r Q k => (pg_unl hc pgs_sem hn hst).sem (by
    cases r with
    | lst hz hr rs => exact ⟨_, _, rfl, .inl hr, by rw [rs.length]; exact hl, h.run _ σ H _ A rs Q k⟩)
theorem ws_asg {tg : Expr} (h : WE Cs X e ρ M fun d M1 => WG Cs X tg d ρ M1 E.nx) (hs : swapsWithSole [tg] e pos.line X.env = pure false := by rfl) (hw : swappedStores [tg] e X.env = pure none := by rfl)
    (h1 : (assignEach [tg] X.env).map (·.2) = [assign tg X.env] := by rfl) : WS Cs X (.Assign [tg] e pos) ρ M E :=
  .mk fun F σ H A Dn k => (ps_asg pe_sem pg_sem hs hw h1).sem (h.run _ σ H A _ fun v d H1 M1 p1 m1 r1 w => w.run _ σ H1 v (A.go p1 m1) r1 _ fun σ2 ρ2 H2 M2 p2 A2 w2 => k.nx σ2 ρ2 H2 M2 (p1.trans p2) A2 w2)
/-- x, y = a, b -/
theorem ws_par {y : Str} {px py pt pt2 : Pos} {kt k2 : Nat} (i j : Nat) (hc : X.calm = true) (hN : X.N.Nodup) (hi : X.N[i]? = some x) (hj : X.N[j]? = some y) (hij : i ≠ j)
    (hx : X.env.scope.names.lookup x = some .local) (hy : X.env.scope.names.lookup y = some .local)
    (hw : swappedStores [.Tuple [.Name x px, .Name y py] kt pt] (.Tuple [a, b] k2 pt2) X.env = pure (some [x, y]))
    (h : WA Cs X [a, b] ρ M fun ds M1 => ∃ d1 d2, ds = [d1, d2] ∧ E.nx ((ρ.set i (some d1)).set j (some d2)) M1)
    (hs : swapsWithSole [.Tuple [.Name x px, .Name y py] kt pt] (.Tuple [a, b] k2 pt2) pos.line X.env = pure false := by rfl) : WS Cs X (.Assign [.Tuple [.Name x px, .Name y py] kt pt] (.Tuple [a, b] k2 pt2) pos) ρ M E :=
  .mk fun F σ H A Dn k => (ps_par hc hN hi hj hij hx hy pa_sem hw hs).sem (h.run _ σ H A _ fun vs ds H1 M1 p1 m1 r1 h1 => by
    obtain ⟨d1, d2, rfl, h1⟩ := h1
    cases r1 with
    | cons r1 rr =>
      cases rr with
      | cons r2 rr =>
        cases rr
        exact ⟨_, _, rfl, k.nx _ _ H1 M1 p1 (((A.go p1 m1).set i r1).set j r2) h1⟩)

/-! ### loops -/
def Loop (Cs : Nat → Addr) (X : Cx) (tg : Expr) (body : List Stmt) (ds : List D) (ρ : Env) (M : Mem) (E : DE) : Prop := ∃ I : Nat → Env → Mem → Prop, I 0 ρ M ∧
  (∀ i d ρ' M', ds[i]? = some d → I i ρ' M' → WG Cs X tg d ρ' M' fun ρ2 M2 => WSs Cs X body ρ2 M2 { E with nx := I (i + 1), ct := I (i + 1), bk := E.nx }) ∧ ∀ ρ' M', I ds.length ρ' M' → E.nx ρ' M'
theorem loop_turn {I : Nat → Env → Mem → Prop} {Dn : Ends} {M1 M' : Mem} {H1 H' : Hp} {σ' : L2.St} {ρ' : Env} {v : V} {d : D} {i : Nat} {tg : Expr} (k : EndsOk Cs F M1 H1 E Dn) (p : Post M1 H1 M' H') (A : At Cs F M' H' σ' ρ') (r : Rep Cs (Zf F M') H' v d)
    (w : WG Cs X tg d ρ' M' fun ρ2 M2 => WSs Cs X body ρ2 M2 { E with nx := I (i + 1), ct := I (i + 1), bk := E.nx }) :
    semG X tg v σ' H' fun σ2 H2 => semSs X body { Dn with nx := fun σ3 H3 => ∃ ρ3 M3, Post M1 H1 M3 H3 ∧ At Cs F M3 H3 σ3 ρ3 ∧ I (i + 1) ρ3 M3, ct := fun σ3 H3 => ∃ ρ3 M3, Post M1 H1 M3 H3 ∧ At Cs F M3 H3 σ3 ρ3 ∧ I (i + 1) ρ3 M3, bk := Dn.nx } σ2 H2 :=
  w.run _ σ' H' v A r _ fun σ2 ρ2 H2 M2 p2 A2 w2 => w2.run _ σ2 H2 A2 _ ⟨fun σ3 ρ3 H3 M3 p3 A3 q => ⟨ρ3, M3, (p.trans p2).trans p3, A3, q⟩, (k.from (p.trans p2)).rt, (k.from (p.trans p2)).nx, fun σ3 ρ3 H3 M3 p3 A3 q => ⟨ρ3, M3, (p.trans p2).trans p3, A3, q⟩⟩
theorem ws_forL {tg : Expr} (hp : PassesOwn (model X.prog X.w) X.A X.env X.xe) (hc : X.calm = true) (h : WE Cs X e ρ M fun x M1 => ∃ ds, x = .lst ds ∧ Loop Cs X tg body ds ρ M1 E)
    (hs : ∀ x, foldedSetIterable e X.env x = pure x := by intro _; rfl) : WS Cs X (.For tg e body [] pos) ρ M E :=
  .mk fun F σ H A Dn k => (ps_for hp hc (pi_list pe_sem) pg_sem pss_sem hs).sem (h.run _ σ H A _ fun v d H1 M1 p1 m1 r1 h1 => by
    obtain ⟨ds, rfl, I, h0, ht, hd⟩ := h1
    cases r1 with
    | @lst al vl _ hz hr rs =>
      refine ⟨_, rfl, ⟨_, .inl hr⟩, for_list (xs := vl) (fun i σ' H' => ∃ ρ' M', Post M1 H1 M' H' ∧ At Cs F M' H' σ' ρ' ∧ I i ρ' M') ⟨ρ, M1, .refl, A.go p1 m1, h0⟩ ?_ ?_ ?_⟩
      · rintro i σ' H' _ ⟨ρ', M', p', A', q⟩
        exact .inl (rd_ex p' hz hr).1
      · rintro i x σ' H' hi ⟨ρ', M', p', A', q⟩
        obtain ⟨d, hd', rd⟩ := (rs.go p').getV hi
        exact loop_turn (k.from p1) p' A' rd (ht i d ρ' M' hd' q)
      · rintro σ' H' ⟨ρ', M', p', A', q⟩
        rw [rs.length] at q
        exact k.nx σ' ρ' H' M' (p1.trans p') A' (hd ρ' M' q))
theorem ws_forT {tg : Expr} (hp : PassesOwn (model X.prog X.w) X.A X.env X.xe) (hc : X.calm = true) (h : WE Cs X e ρ M fun x M1 => ∃ ds, x = .tup ds ∧ Loop Cs X tg body ds ρ M1 E)
    (hs : ∀ x, foldedSetIterable e X.env x = pure x := by intro _; rfl) : WS Cs X (.For tg e body [] pos) ρ M E :=
  .mk fun F σ H A Dn k => (ps_for hp hc (pi_tup pe_sem) pg_sem pss_sem hs).sem (h.run _ σ H A _ fun v d H1 M1 p1 m1 r1 h1 => by
    obtain ⟨ds, rfl, I, h0, ht, hd⟩ := h1
    cases r1 with
    | @tup al vl _ hz hr rs =>
      refine ⟨_, rfl, ⟨_, .inl hr⟩, for_tup (xs := vl) (fun i σ' H' => ∃ ρ' M', Post M1 H1 M' H' ∧ At Cs F M' H' σ' ρ' ∧ I i ρ' M') ⟨ρ, M1, .refl, A.go p1 m1, h0⟩ ?_ ?_ ?_⟩
      · rintro i σ' H' _ ⟨ρ', M', p', A', q⟩
        exact .inl (rd_ex p' hz hr).1
      · rintro i x σ' H' hi ⟨ρ', M', p', A', q⟩
        obtain ⟨d, hd', rd⟩ := (rs.go p').getV hi
        exact loop_turn (k.from p1) p' A' rd (ht i d ρ' M' hd' q)
      · rintro σ' H' ⟨ρ', M', p', A', q⟩
        rw [rs.length] at q
        exact k.nx σ' ρ' H' M' (p1.trans p') A' (hd ρ' M' q))
def upTo (n : Nat) : List D := (List.range n).map fun i : Nat => D.int (i : Int)
theorem ws_forR {tg : Expr} (hp : PassesOwn (model X.prog X.w) X.A X.env X.xe) (hc : X.calm = true) (hg : Gl X "range") (hm : X.mg "range" = none) (h : WE Cs X e ρ M fun x M1 => ∃ n : Nat, x = .int (n : Int) ∧ n ≤ 100000 ∧ Loop Cs X tg body (upTo n) ρ M1 E)
    (hs : ∀ x, foldedSetIterable (.Call (.Name "range" p) [e] [] apos) X.env x = pure x := by intro _; rfl) (hst : starEach [e] X.env = [(false, eval e X.env)] := by rfl) : WS Cs X (.For tg (.Call (.Name "range" p) [e] [] apos) body [] pos) ρ M E :=
  .mk fun F σ H A Dn k => (ps_for hp hc (pi_range1 hg hm (pa_cons pe_sem pa_nil hst) hst) pg_sem pss_sem hs).sem (h.run _ σ H A _ fun v d H1 M1 p1 m1 r1 h1 => by
    obtain ⟨n, rfl, hn, I, h0, ht, hd⟩ := h1
    cases r1
    refine ⟨(n : Int), rfl, by omega, by omega, for_range (lo := 0) (n := (n : Int).toNat) (fun i σ' H' => ∃ ρ' M', Post M1 H1 M' H' ∧ At Cs F M' H' σ' ρ' ∧ I i ρ' M') ⟨ρ, M1, .refl, A.go p1 m1, h0⟩ ?_ ?_⟩
    · rintro i σ' H' hi ⟨ρ', M', p', A', q⟩
      have hi' : i < n := by omega
      have e0 : (0 : Int) + (i : Int) = (i : Int) := Int.zero_add _
      rw [e0]
      exact loop_turn (k.from p1) p' A' (.int _) (ht i (.int (i : Int)) ρ' M' (by unfold upTo; rw [List.getElem?_map, List.getElem?_range hi']; rfl) q)
    · rintro σ' H' ⟨ρ', M', p', A', q⟩
      refine k.nx σ' ρ' H' M' (p1.trans p') A' (hd ρ' M' ?_)
      have e : (upTo n).length = (n : Int).toNat := by unfold upTo; rw [List.length_map, List.length_range]; omega
      rw [e]; exact q)
theorem ws_while {W : Nat → Env → Mem → Prop} (hp : PassesOwn (model X.prog X.w) X.A X.env X.xe) (m0 : Nat) (h0 : W m0 ρ M)
    (hs : ∀ m ρ' M', W m ρ' M' → WT Cs X c ρ' M' fun t M1 => (t = true → WSs Cs X body ρ' M1 { E with nx := fun ρ2 M2 => ∃ m', m' < m ∧ W m' ρ2 M2, ct := fun ρ2 M2 => ∃ m', m' < m ∧ W m' ρ2 M2, bk := E.nx }) ∧ (t = false → E.nx ρ' M1)) : WS Cs X (.While c body [] pos) ρ M E :=
  .mk fun F σ H A Dn k => (ps_while hp pt_sem pss_sem).sem (by
    refine ⟨fun m σ' H' => ∃ ρ' M', Post M H M' H' ∧ At Cs F M' H' σ' ρ' ∧ W m ρ' M', ⟨m0, ρ, M, .refl, A, h0⟩, ?_⟩
    rintro m σ' H' ⟨ρ', M', p', A', w⟩
    refine (hs m ρ' M' w).run _ σ' H' A' _ fun t H1 M1 p1 m1 h1 => ?_
    cases t with
    | true =>
      rw [if_pos rfl]
      refine ⟨fun σ2 H2 => ∃ m', m' < m ∧ ∃ ρ2 M2, Post M H M2 H2 ∧ At Cs F M2 H2 σ2 ρ2 ∧ W m' ρ2 M2, fun σ2 H2 ⟨m', hm, q⟩ => ⟨m', hm, q⟩, ?_⟩
      have pp := p'.trans p1
      exact (h1.1 rfl).run _ σ' H1 (A'.go p1 m1) _ ⟨fun σ3 ρ3 H3 M3 p3 A3 ⟨m', hm, q⟩ => ⟨m', hm, ρ3, M3, pp.trans p3, A3, q⟩, (k.from pp).rt, (k.from pp).nx, fun σ3 ρ3 H3 M3 p3 A3 ⟨m', hm, q⟩ => ⟨m', hm, ρ3, M3, pp.trans p3, A3, q⟩⟩
    | false =>
      rw [if_neg Bool.false_ne_true]
      exact k.nx σ' ρ' H1 M1 (p'.trans p1) (A'.go p1 m1) (h1.2 rfl))
end
end DL
namespace DL
open PySem PySem.Spec PyProof.Rows L2
section
variable {Cs : Nat → Addr} {F : Addr → Prop} {X : Cx} {ρ : Env} {M : Mem} {a b c e : Expr} {es : List Expr} {pos p apos : Pos} {Φ : D → Mem → Prop} {Ψ : Bool → Mem → Prop} {st : Stmt} {sts rest body : List Stmt} {E : DE} {x f m : Str}

/-! ### stores into slots -/
def putO (i : Nat) (d : D) (os : List (Option D)) : List (Option D) := (os ++ List.replicate (i + 1 - os.length) none).set i (some d)
theorem RepO.length {Z : Addr → Prop} {H : Hp} : ∀ {vs : List (Option V)} {os : List (Option D)}, RepO Cs Z H vs os → vs.length = os.length
  | _, _, .nil => rfl
  | _, _, .none r => congrArg Nat.succ (RepO.length r)
  | _, _, .some _ r => congrArg Nat.succ (RepO.length r)
theorem RepO.nones {Z : Addr → Prop} {H : Hp} : ∀ n : Nat, RepO Cs Z H (List.replicate n Option.none) (List.replicate n Option.none)
  | 0 => .nil
  | n + 1 => .none (RepO.nones n)
theorem RepO.append {Z : Addr → Prop} {H : Hp} : ∀ {vs ws : List (Option V)} {os us : List (Option D)}, RepO Cs Z H vs os → RepO Cs Z H ws us → RepO Cs Z H (vs ++ ws) (os ++ us)
  | _, _, _, _, .nil, q => q
  | _, _, _, _, .none r, q => .none (RepO.append r q)
  | _, _, _, _, .some h r, q => .some h (RepO.append r q)
theorem RepO.set {Z : Addr → Prop} {H : Hp} {v : V} {d : D} (q : Rep Cs Z H v d) : ∀ {vs : List (Option V)} {os : List (Option D)} (i : Nat), RepO Cs Z H vs os → RepO Cs Z H (vs.set i (Option.some v)) (os.set i (Option.some d))
  | _, _, _, .nil => .nil
  | _, _, 0, .none r => .some q r
  | _, _, 0, .some _ r => .some q r
  | _, _, i + 1, .none r => .none (RepO.set q i r)
  | _, _, i + 1, .some h r => .some h (RepO.set q i r)
theorem RepO.put {Z : Addr → Prop} {H : Hp} {v : V} {d : D} {vs : List (Option V)} {os : List (Option D)} (r : RepO Cs Z H vs os) (q : Rep Cs Z H v d) (i : Nat) : RepO Cs Z H (SlX.putS i v vs) (putO i d os) := by
  unfold SlX.putS putO
  rw [r.length]
  exact RepO.set q i (r.append (RepO.nones _))
theorem RepO.all {Z : Addr → Prop} {H : Hp} : ∀ {vs : List (Option V)} {ds : List D}, RepO Cs Z H vs (ds.map Option.some) → ∃ ws : List V, vs = ws.map Option.some ∧ Reps Cs Z H ws ds
  | _, [], .nil => ⟨[], rfl, .nil⟩
  | _, d :: ds, .some h r => by
    obtain ⟨ws, e, q⟩ := RepO.all (ds := ds) r
    exact ⟨_ :: ws, by rw [e]; rfl, .cons h q⟩
/-- o.f = e, o an instance with slots that is being made -/
theorem ws_slot {c i : Nat} {q : Addr} {o : Expr} {pos' : Pos} (hc : SlX.SCls X.K (Cs c)) (hs : SlX.Slot1 X.K (Cs c) f q i)
    (h : WE Cs X e ρ M fun d M1 => WE Cs X o ρ M1 fun x M2 => ∃ a dx os, x = .ref a ∧ M2 a = some (.slt c dx os) ∧ E.nx ρ (put M2 a (.slt c dx (putO i d os))))
    (hsw : swapsWith e (some (.Attribute o f pos')) pos.line X.env = pure false := by rfl) : WS Cs X (.Assign [.Attribute o f pos'] e pos) ρ M E :=
  .mk fun F σ H A Dn k => (SlX.ps_sl pe_sem pe_sem hsw).sem (h.run _ σ H A _ fun vy d H1 M1 p1 m1 r1 h1 => h1.run _ σ H1 (A.go p1 m1) _ fun vx x H2 M2 p2 m2 r2 h2 => by
    obtain ⟨a, dx, os, rfl, hM, hn⟩ := h2
    cases r2
    obtain ⟨ne, hx, vs, hsl, ro⟩ := m2.at_ a _ hM
    refine ⟨a, Cs c, dx, q, vs, i, rfl, hsl, hc, hs, ?_⟩
    have hxa : dx ≠ a := ne
    have pp : Post M2 H2 (put M2 a (.slt c dx (putO i d os))) (SlX.slH H2 a (Cs c) dx (SlX.putS i vy vs)) := by
      refine ⟨fun b o hb ho => ?_, fun b hb => ?_⟩
      · rw [SlX.slH_ne (fun z => by rw [z, hM] at hb; cases hb) (fun z => by rw [z, hx] at hb; cases hb)]
        exact ho
      · by_cases e : b = a
        · left; rw [e, hM]; exact fun z => nomatch z
        · rw [put_ne e] at hb; exact .inl hb
    have mm : MemAt Cs F (put M2 a (.slt c dx (putO i d os))) (SlX.slH H2 a (Cs c) dx (SlX.putS i vy vs)) := by
      refine m2.go pp fun b n hb => ?_
      by_cases e : b = a
      · subst e
        rw [put_same] at hb
        cases hb
        refine .inr ⟨ne, by rw [put_ne ne]; exact hx, _, SlX.slH_slt ne, ?_⟩
        exact (ro.go pp).put ((r1.go p2).go pp) i
      · rw [put_ne e] at hb
        by_cases e2 : b = dx
        · subst e2
          rw [hx] at hb
          cases hb
          refine .inr ⟨.xd [], ?_⟩
          unfold SlX.slH
          rw [upd_ne e, upd_same]
        · have key : ∀ o, H2 b = some o → SlX.slH H2 a (Cs c) dx (SlX.putS i vy vs) b = some o := fun o ho => by rw [SlX.slH_ne e e2]; exact ho
          cases n with
          | lst ds =>
            exact .inl ⟨hb, key, fun _ _ _ z => nomatch z⟩
          | aux y => exact .inl ⟨hb, key, fun _ _ _ z => nomatch z⟩
          | slt c' dx' os' =>
            obtain ⟨ne', hx', vs', hsl', ro'⟩ := m2.at_ b _ hb
            have hda : dx' ≠ a := fun z => by rw [z, hM] at hx'; cases hx'
            refine .inr ⟨ne', by rw [put_ne hda]; exact hx', vs', ?_, ro'.go pp⟩
            rcases hsl' with ⟨z1, z2⟩ | ⟨z1, z2⟩
            · exact .inl ⟨key _ z1, z2⟩
            · refine .inr ⟨key _ z1, ?_⟩
              unfold SlX.slH
              rw [upd_ne hda]
              by_cases e3 : dx' = dx
              · rw [e3, upd_same]
              · rw [upd_ne e3]; exact z2
    exact k.nx σ ρ _ _ ((p1.trans p2).trans pp) ((A.go (p1.trans p2) m2).go pp mm) hn)
/-- C(e, ..) of a class with slots: told by the data of its slots when __init__ is through -/
theorem we_make {n k : Nat} {g : Addr} {S : FS} (Mk' : Mk X.K (Cs n) g) (Fn : FnD Cs X k g S) (hr : Rm (k + 1) X.A) (hg : Gl X x) (hm : X.mg x = some (.ref (Cs n)))
    (h : WA Cs X (e :: es) ρ M fun ds M1 => ∀ a dx, M1 a = none → M1 dx = none → dx ≠ a → S (.ref a :: ds) (put (put M1 dx (.aux a)) a (.slt n dx [])) fun d M2 => d = .non ∧ ∃ ds', ds' ≠ [] ∧ M2 a = some (.slt n dx (ds'.map some)) ∧ Φ (.obj n ds') (era (era M2 a) dx))
    (hdb : (x == ("__debug__" : Str)) = false := by decide) (he : starEach (e :: es) X.env = (false, eval e X.env) :: starEach es X.env := by rfl) (hpl : (backTo pos (starEach es X.env)).any (·.1) = false := by rfl) : WE Cs X (.Call (.Name x p) (e :: es) [] pos) ρ M Φ :=
  .mk fun F σ H A Q k => (pe_makeG (E := E0) Mk' Fn hr hg hm pass0 pa_sem hdb he hpl).sem (h.run _ σ H A _ fun vs ds H1 M1 p1 m1 r1 h1 => fun y dx hy hdx ne => by
    have py : Post M1 H1 (put (put M1 dx (.aux y)) y (.slt n dx [])) (upd (upd H1 dx (.own y)) y (.ins (Cs n) dx [])) := by
      refine ⟨fun b o hb ho => ?_, fun b hb => ?_⟩
      · rw [upd_ne (ne_of_none ho hy), upd_ne (ne_of_none ho hdx)]; exact ho
      · by_cases e1 : b = y
        · exact .inr (by rw [e1]; exact hy)
        · rw [put_ne e1] at hb
          by_cases e2 : b = dx
          · exact .inr (by rw [e2]; exact hdx)
          · rw [put_ne e2] at hb; exact .inl hb
    have my : MemAt Cs F (put (put M1 dx (.aux y)) y (.slt n dx [])) (upd (upd H1 dx (.own y)) y (.ins (Cs n) dx [])) := by
      refine m1.go py fun b nn hb => ?_
      by_cases e1 : b = y
      · subst e1
        rw [put_same] at hb
        cases hb
        exact .inr ⟨ne, by rw [put_ne ne, put_same], [], .inl ⟨upd_same, rfl⟩, .nil⟩
      · rw [put_ne e1] at hb
        by_cases e2 : b = dx
        · subst e2
          rw [put_same] at hb
          cases hb
          exact .inr ⟨.own y, by rw [upd_ne e1, upd_same]⟩
        · rw [put_ne e2] at hb
          have key : ∀ z o, H1 z = some o → upd (upd H1 dx (.own y)) y (.ins (Cs n) dx []) z = some o := fun z o ho => by rw [upd_ne (ne_of_none ho hy), upd_ne (ne_of_none ho hdx)]; exact ho
          refine .inl ⟨hb, key b, fun c' dx' os' z => ⟨key dx', ?_⟩⟩
          subst z
          have q := (m1.at_ b _ hb).2.1
          rw [put_ne (fun z => by rw [z, m1.old hy] at q; cases q), put_ne (fun z => by rw [z, m1.old hdx] at q; cases q)]
          exact q
    refine ⟨F, .ref y :: ds, _, _, my, .cons (.ref y) (r1.go py), h1 y dx (m1.old hy) (m1.old hdx) ne, fun v d H2 M2 p2 m2 r2 h2 => ?_⟩
    obtain ⟨rfl, ds', hne, hM2, hΦ⟩ := h2
    cases r2
    refine ⟨rfl, ?_⟩
    obtain ⟨ne2, hx2, ws, hsl, ro⟩ := m2.at_ y _ hM2
    obtain ⟨us, rfl, rs⟩ := RepO.all ro
    have hle : ∀ b, era (era M2 y) dx b ≠ none → M2 b ≠ none := fun b hb => by
      by_cases e1 : b = dx
      · rw [e1, era_same] at hb; exact absurd rfl hb
      · rw [era_ne e1] at hb
        by_cases e2 : b = y
        · rw [e2, era_same] at hb; exact absurd rfl hb
        · rw [era_ne e2] at hb; exact hb
    have p3 : Post M2 H2 (era (era M2 y) dx) H2 := Post.sub hle
    have hy2 : ¬ Zf F (era (era M2 y) dx) y := fun z => by
      rcases z with z | z
      · exact (m1.ff y z).2 hy
      · rw [era_ne (Ne.symm ne), era_same] at z; exact z rfl
    have hdx2 : ¬ Zf F (era (era M2 y) dx) dx := fun z => by
      rcases z with z | z
      · exact (m1.ff dx z).2 hdx
      · rw [era_same] at z; exact z rfl
    have m3 : MemAt Cs F (era (era M2 y) dx) H2 := by
      refine m2.go p3 fun b nn hb => ?_
      have b1 : b ≠ dx := fun z => by rw [z, era_same] at hb; cases hb
      rw [era_ne b1] at hb
      have b2 : b ≠ y := fun z => by rw [z, era_same] at hb; cases hb
      rw [era_ne b2] at hb
      refine .inl ⟨hb, fun _ z => z, fun c' dx' os' z => ⟨fun _ z => z, ?_⟩⟩
      subst z
      have q := (m2.at_ b _ hb).2.1
      rw [era_ne (fun z => by rw [z, hx2] at q; cases q; exact b2 rfl), era_ne (fun z => by rw [z, hM2] at q; cases q)]
      exact q
    refine k _ _ H2 _ ((p1.trans (py.trans p2)).trans p3) m3 ?_ hΦ
    have hsl2 : H2 y = some (SlX.SlO y (Cs n) dx (us.map some)) ∧ H2 dx = some (.xd []) := by
      rcases hsl with ⟨z1, z2⟩ | z
      · have e0 : us = [] := by simpa using z2
        have l0 := rs.length
        rw [e0] at l0
        exact absurd (List.length_eq_zero_iff.mp l0.symm) hne
      · exact z
    exact .obj hy2 hdx2 hsl2.1 hsl2.2 (rs.go p3))
end
end DL
namespace DL
open PySem PySem.Spec PyProof.Rows L2
section
variable {Cs : Nat → Addr} {F : Addr → Prop} {X : Cx} {ρ : Env} {M : Mem} {a b c e : Expr} {es : List Expr} {pos p apos : Pos} {Φ : D → Mem → Prop} {Ψ : Bool → Mem → Prop} {st : Stmt} {sts rest body : List Stmt} {E : DE} {x f m : Str}

/-! ### ints -/
theorem wo_I {f : Value → Value → Sem Value} {C : Int → Int → Prop} {g : Int → Int → Int} {i j : Int} (ho : OpR X f (rI C fun i j => .int (g i j))) (hc : C i j) (h : Φ (.int (g i j)) M) : WO Cs X f (.int i) (.int j) M Φ := .mk fun F H vx vy m rx ry Q k => by
  cases rx; cases ry
  exact ho.sem ⟨i, j, rfl, rfl, hc, k.here m (.int _) h⟩
theorem wo_I0 {f : Value → Value → Sem Value} {g : Int → Int → Int} {i j : Int} (ho : OpR X f (rI0 fun i j => .int (g i j))) (h : Φ (.int (g i j)) M) : WO Cs X f (.int i) (.int j) M Φ := .mk fun F H vx vy m rx ry Q k => by
  cases rx; cases ry
  exact ho.sem ⟨i, j, rfl, rfl, k.here m (.int _) h⟩
theorem wo_B0 {f : Value → Value → Sem Value} {g : Int → Int → Bool} {i j : Int} (ho : OpR X f (rI0 fun i j => .bl (g i j))) (h : Φ (.bl (g i j)) M) : WO Cs X f (.int i) (.int j) M Φ := .mk fun F H vx vy m rx ry Q k => by
  cases rx; cases ry
  exact ho.sem ⟨i, j, rfl, rfl, k.here m (.bl _) h⟩
theorem wo_add {i j : Int} (h : Φ (.int (i + j)) M) : WO Cs X (binaryOp .Add) (.int i) (.int j) M Φ := wo_I0 op_add h
theorem wo_sub {i j : Int} (h : Φ (.int (i - j)) M) : WO Cs X (binaryOp .Sub) (.int i) (.int j) M Φ := wo_I0 op_sub h
theorem wo_mul {i j : Int} (hc : CMulW i j) (h : Φ (.int (i * j)) M) : WO Cs X (binaryOp .Mult) (.int i) (.int j) M Φ := wo_I op_mulW hc h
theorem wo_fdiv {i j : Int} (hc : CDivW i j) (h : Φ (.int (i / j)) M) : WO Cs X (binaryOp .FloorDiv) (.int i) (.int j) M Φ := wo_I op_fdivW hc h
theorem wo_mod {i j : Int} (hc : 0 < j) (h : Φ (.int (i % j)) M) : WO Cs X (binaryOp .Mod) (.int i) (.int j) M Φ := wo_I op_mod hc h
theorem op_powG : OpR X (binaryOp .Pow) (rI (fun i j => 0 ≤ j ∧ (Builtin.Int.intBits i : Int) * j ≤ 2 ^ 27) fun i j => .int (i ^ j.toNat)) := opI fun _ _ _ _ _ _ _ hc q => pow_int hc.1 hc.2 q
theorem wo_pow {i j : Int} (hc : 0 ≤ j ∧ (Builtin.Int.intBits i : Int) * j ≤ 2 ^ 27) (h : Φ (.int (i ^ j.toNat)) M) : WO Cs X (binaryOp .Pow) (.int i) (.int j) M Φ := wo_I op_powG hc h
theorem wo_lt {i j : Int} (h : Φ (.bl (decide (i < j))) M) : WO Cs X (compareOp .Lt) (.int i) (.int j) M Φ := wo_B0 op_lt h
theorem wo_le {i j : Int} (h : Φ (.bl (decide (i ≤ j))) M) : WO Cs X (compareOp .LtE) (.int i) (.int j) M Φ := wo_B0 op_le h
theorem wo_gt {i j : Int} (h : Φ (.bl (decide (j < i))) M) : WO Cs X (compareOp .Gt) (.int i) (.int j) M Φ := wo_B0 op_gt h
theorem wo_ge {i j : Int} (h : Φ (.bl (decide (j ≤ i))) M) : WO Cs X (compareOp .GtE) (.int i) (.int j) M Φ := wo_B0 op_ge h
theorem dec_int (i j : Int) : decide (V.int i = V.int j) = decide (i = j) := by
  by_cases h : i = j
  · rw [h, decide_eq_true rfl, decide_eq_true rfl]
  · rw [decide_eq_false h, decide_eq_false (fun z => h (V.int.inj z))]
theorem dec_bl (i j : Bool) : decide (V.bl i = V.bl j) = decide (i = j) := by
  by_cases h : i = j
  · rw [h, decide_eq_true rfl, decide_eq_true rfl]
  · rw [decide_eq_false h, decide_eq_false (fun z => h (V.bl.inj z))]
theorem dec_str (i j : Str) : decide (V.str i = V.str j) = decide (i = j) := by
  by_cases h : i = j
  · rw [h, decide_eq_true rfl, decide_eq_true rfl]
  · rw [decide_eq_false h, decide_eq_false (fun z => h (V.str.inj z))]
theorem wo_eqI {i j : Int} (h : Φ (.bl (decide (i = j))) M) : WO Cs X (compareOp .Eq) (.int i) (.int j) M Φ := .mk fun F H vx vy m rx ry Q k => by
  cases rx; cases ry
  exact op_eq.sem ⟨rfl, by rw [dec_int]; exact k.here m (.bl _) h⟩
theorem wo_neI {i j : Int} (h : Φ (.bl (!decide (i = j))) M) : WO Cs X (compareOp .NotEq) (.int i) (.int j) M Φ := .mk fun F H vx vy m rx ry Q k => by
  cases rx; cases ry
  exact op_ne.sem ⟨rfl, by rw [dec_int]; exact k.here m (.bl _) h⟩
theorem wo_eqB {i j : Bool} (h : Φ (.bl (decide (i = j))) M) : WO Cs X (compareOp .Eq) (.bl i) (.bl j) M Φ := .mk fun F H vx vy m rx ry Q k => by
  cases rx; cases ry
  exact op_eq.sem ⟨rfl, by rw [dec_bl]; exact k.here m (.bl _) h⟩
theorem wo_neB {i j : Bool} (h : Φ (.bl (!decide (i = j))) M) : WO Cs X (compareOp .NotEq) (.bl i) (.bl j) M Φ := .mk fun F H vx vy m rx ry Q k => by
  cases rx; cases ry
  exact op_ne.sem ⟨rfl, by rw [dec_bl]; exact k.here m (.bl _) h⟩
theorem wo_eqS {i j : Str} (h : Φ (.bl (decide (i = j))) M) : WO Cs X (compareOp .Eq) (.str i) (.str j) M Φ := .mk fun F H vx vy m rx ry Q k => by
  cases rx; cases ry
  exact op_eq.sem ⟨rfl, by rw [dec_str]; exact k.here m (.bl _) h⟩
theorem wo_neS {i j : Str} (h : Φ (.bl (!decide (i = j))) M) : WO Cs X (compareOp .NotEq) (.str i) (.str j) M Φ := .mk fun F H vx vy m rx ry Q k => by
  cases rx; cases ry
  exact op_ne.sem ⟨rfl, by rw [dec_str]; exact k.here m (.bl _) h⟩
def _root_.DL.D.isNon : D → Bool
  | .non => true
  | _ => false
theorem rep_non {Z : Addr → Prop} {H : Hp} {v : V} {d : D} (r : Rep Cs Z H v d) : decide (v = .non) = d.isNon := by
  cases r <;> rfl
theorem wo_isN {d : D} (h : Φ (.bl d.isNon) M) : WO Cs X (compareOp .Is) d .non M Φ := .mk fun F H vx vy m rx ry Q k => by
  cases ry
  exact op_isN.sem ⟨rfl, by rw [rep_non rx]; exact k.here m (.bl _) h⟩
theorem wo_notN {d : D} (h : Φ (.bl (!d.isNon)) M) : WO Cs X (compareOp .IsNot) d .non M Φ := .mk fun F H vx vy m rx ry Q k => by
  cases ry
  exact op_notN.sem ⟨rfl, by rw [rep_non rx]; exact k.here m (.bl _) h⟩
theorem wu_neg {i : Int} (h : Φ (.int (-i)) M) : WU Cs X (unaryOp .USub) (.int i) M Φ := .mk fun F H vx m rx Q k => by
  cases rx
  exact un_neg.sem ⟨i, rfl, k.here m (.int _) h⟩

/-! ### places of sequences -/
theorem ixn_len {n : Nat} {i : Int} {j : Nat} (h : ixN n i = some j) : j < n := by
  unfold ixN at h
  split at h
  · split at h
    · cases h; omega
    · cases h
  · split at h
    · cases h; omega
    · cases h
theorem atI_rep {Z : Addr → Prop} {H : Hp} {vs : List V} {ds : List D} {i : Int} {d : D} (r : Reps Cs Z H vs ds) (h : atI ds i = some d) : ∃ v, atI vs i = some v ∧ Rep Cs Z H v d := by
  unfold atI at h ⊢
  rw [r.length]
  cases e : ixN ds.length i with
  | none => rw [e] at h; cases h
  | some j =>
    rw [e] at h
    obtain ⟨v, h1, h2⟩ := r.get (show ds[j]? = some d from h)
    exact ⟨v, h1, h2⟩
theorem wix_tup {ds : List D} {i : Int} {d : D} (hi : atI ds i = some d) (h : Φ d M) : WIx Cs X (.tup ds) (.int i) M Φ := .mk fun F H vx vy m rx ry Q k => by
  cases ry
  cases rx with
  | tup hz hr rs =>
    obtain ⟨v, h1, h2⟩ := atI_rep rs hi
    exact ix_tup.sem ⟨_, _, i, v, rfl, rfl, .inl hr, h1, k.here m h2 h⟩
theorem wix_lst {ds : List D} {i : Int} {d : D} (hi : atI ds i = some d) (h : Φ d M) : WIx Cs X (.lst ds) (.int i) M Φ := .mk fun F H vx vy m rx ry Q k => by
  cases ry
  cases rx with
  | lst hz hr rs =>
    obtain ⟨v, h1, h2⟩ := atI_rep rs hi
    exact ix_list.sem ⟨_, _, i, v, rfl, rfl, .inl hr, h1, k.here m h2 h⟩
theorem wix_own {q : Addr} {ds : List D} {i : Int} {d : D} (hM : M q = some (.lst ds)) (hi : atI ds i = some d) (h : Φ d M) : WIx Cs X (.ref q) (.int i) M Φ := .mk fun F H vx vy m rx ry Q k => by
  cases ry
  cases rx
  obtain ⟨vs, h0, rs⟩ := m.at_ q _ hM
  obtain ⟨v, h1, h2⟩ := atI_rep rs hi
  exact ix_list.sem ⟨_, _, i, v, rfl, rfl, .inl (.inl h0), h1, k.here m h2 h⟩
/-- an owned list is changed -/
theorem lst_new {H : Hp} {q : Addr} {ds ds' : List D} {vs' : List V} (m : MemAt Cs F M H) (hM : M q = some (.lst ds)) (r : Reps Cs (Zf F M) H vs' ds') : Post M H (put M q (.lst ds')) (upd H q (.lst vs')) ∧ MemAt Cs F (put M q (.lst ds')) (upd H q (.lst vs')) := by
  have pp : Post M H (put M q (.lst ds')) (upd H q (.lst vs')) := ⟨fun b o hb ho => by rw [upd_ne (fun z => by rw [z, hM] at hb; cases hb)]; exact ho, fun b hb => by
    by_cases e : b = q
    · left; rw [e, hM]; exact fun z => nomatch z
    · rw [put_ne e] at hb; exact .inl hb⟩
  refine ⟨pp, m.go pp fun b n hb => ?_⟩
  by_cases e : b = q
  · subst e
    rw [put_same] at hb
    cases hb
    exact .inr ⟨vs', upd_same, r.go pp⟩
  · rw [put_ne e] at hb
    refine .inl ⟨hb, fun o ho => by rw [upd_ne e]; exact ho, fun c' dx os z => ?_⟩
    subst z
    have q1 := (m.at_ b _ hb).2.1
    have ne : dx ≠ q := fun z => by rw [z, hM] at q1; cases q1
    exact ⟨fun o ho => by rw [upd_ne ne]; exact ho, by rw [put_ne ne]; exact q1⟩
/-- o[i] = e, o an owned list -/
theorem wg_sub {o i : Expr} {d : D} {K : Env → Mem → Prop} (h : WE Cs X o ρ M fun x M1 => WE Cs X i ρ M1 fun y M2 => ∃ q ds n j, x = .ref q ∧ y = .int n ∧ M2 q = some (.lst ds) ∧ ixN ds.length n = some j ∧ K ρ (put M2 q (.lst (ds.set j d))))
    (ha : ∀ v, assign (.Subscript o i pos) X.env v = (do
      let ov ← holding [v] (eval o X.env)
      let iv ← holding [v, ov] (eval i X.env)
      standAt pos
      holding [v, ov, iv] (setItem ov iv v)
      release [v, ov, iv] []) := by intro _; rfl) : WG Cs X (.Subscript o i pos) d ρ M K :=
  .mk fun F σ H v A r Q k => (pg_sub pe_sem pe_sem set_list ha).sem (h.run _ σ H A _ fun vx x H1 M1 p1 m1 r1 h1 => h1.run _ σ H1 (A.go p1 m1) _ fun vy y H2 M2 p2 m2 r2 h2 => by
    obtain ⟨q, ds, n, j, rfl, rfl, hM, hj, hK⟩ := h2
    cases r1
    cases r2
    obtain ⟨vs, h0, rs⟩ := m2.at_ q _ hM
    obtain ⟨pp, mm⟩ := lst_new m2 hM (rs.set j ((r.go p1).go p2))
    exact ⟨q, vs, n, j, rfl, rfl, h0, by rw [rs.length]; exact hj, k _ _ _ _ ((p1.trans p2).trans pp) ((A.go (p1.trans p2) m2).go pp mm) hK⟩)
/-- o.append(e), o an owned list -/
theorem we_append {o : Expr} (h : WE Cs X o ρ M fun x M1 => ∃ q ds0, x = .ref q ∧ M1 q = some (.lst ds0) ∧ WE Cs X e ρ M1 fun d M2 => ∃ ds, M2 q = some (.lst ds) ∧ ds.length < 100000 ∧ Φ .non (put M2 q (.lst (ds ++ [d]))))
    (hbase : attributeBase o "append" X.env (eval o X.env) = eval o X.env := by rfl)
    (hfew : ((backTo pos (starEach [e] X.env)).all (fun x => !x.1) && (backToKw pos (keywordEach [] X.env)).all (fun x => x.1.isSome)
      && decide ([e].length + ([] : List Keyword).length + (if ([] : List Keyword).isEmpty then 0 else 1) < 30)) = true := by rfl)
    (hline : (apos.endLine == pos.line) = true := by rfl) (hst : starEach [e] X.env = (false, eval e X.env) :: starEach [] X.env := by rfl) (hpl : (backTo pos (starEach [] X.env)).any (·.1) = false := by rfl) : WE Cs X (.Call (.Attribute o "append" apos) [e] [] pos) ρ M Φ := by
  refine .mk fun F σ H A Q k => ?_
  refine (pe_bm PySem.F.plainAttrs_list PySem.F.slot_list_append PySem.F.type_list_append mt_append pe_sem (pa_cons pe_sem pa_nil hst) hbase hfew hline hst hpl).sem ?_
  refine h.run _ σ H A _ fun vx x H1 M1 p1 m1 r1 h1 => ?_
  obtain ⟨q, ds0, rfl, hM1, h1⟩ := h1
  cases r1
  obtain ⟨vs0, e0, _⟩ := m1.at_ q _ hM1
  refine ⟨.inl ⟨rfl, _, .inl (.inl e0)⟩, h1.run _ σ H1 (A.go p1 m1) _ fun vy d H2 M2 p2 m2 r2 h2 => ?_⟩
  obtain ⟨ds, hM2, hl, hΦ⟩ := h2
  obtain ⟨vs, e2, rs⟩ := m2.at_ q _ hM2
  obtain ⟨pp, mm⟩ := lst_new m2 hM2 (rs.append (.cons r2 .nil))
  exact ⟨q, vs, vy, rfl, rfl, e2, by rw [rs.length]; exact Nat.lt_of_lt_of_le hl (by decide), k _ _ _ _ ((p1.trans p2).trans pp) mm .non hΦ⟩

/-! ### built-ins -/
theorem wc_of {g : Value} {r : List V → Hp → VK → Prop} {xs : List D} (ho : CallR X g r) (h : ∀ {F : Addr → Prop} H vs Q, MemAt Cs F M H → Reps Cs (Zf F M) H vs xs → Res Cs F M H Φ Q → r vs H Q) : WC Cs X g xs M Φ := .mk fun F H vs m rs Q k => ho.sem (h H vs Q m rs k)
theorem reps1 {Z : Addr → Prop} {H : Hp} {vs : List V} {d : D} (r : Reps Cs Z H vs [d]) : ∃ v, vs = [v] ∧ Rep Cs Z H v d := by
  cases r with
  | cons h r => cases r; exact ⟨_, rfl, h⟩
theorem reps2 {Z : Addr → Prop} {H : Hp} {vs : List V} {d d' : D} (r : Reps Cs Z H vs [d, d']) : ∃ v v', vs = [v, v'] ∧ Rep Cs Z H v d ∧ Rep Cs Z H v' d' := by
  cases r with
  | cons h r =>
    cases r with
    | cons h' r => cases r; exact ⟨_, _, rfl, h, h'⟩
theorem wc_abs {i : Int} (h : Φ (.int (if i < 0 then -i else i)) M) : WC Cs X (.builtin "abs") [.int i] M Φ := wc_of call_abs fun H vs Q m rs k => by
  obtain ⟨v, rfl, r⟩ := reps1 rs
  cases r
  exact ⟨i, rfl, k.here m (.int _) h⟩
theorem wc_max {i j : Int} (hc : X.calm = true) (h : Φ (.int (if j > i then j else i)) M) : WC Cs X (.builtin "max") [.int i, .int j] M Φ := wc_of (call_max2 hc) fun H vs Q m rs k => by
  obtain ⟨v, v', rfl, r, r'⟩ := reps2 rs
  cases r; cases r'
  exact ⟨i, j, rfl, k.here m (.int _) h⟩
theorem wc_min {i j : Int} (hc : X.calm = true) (h : Φ (.int (if j < i then j else i)) M) : WC Cs X (.builtin "min") [.int i, .int j] M Φ := wc_of (call_min2 hc) fun H vs Q m rs k => by
  obtain ⟨v, v', rfl, r, r'⟩ := reps2 rs
  cases r; cases r'
  exact ⟨i, j, rfl, k.here m (.int _) h⟩
theorem wc_int {i : Int} (h : Φ (.int i) M) : WC Cs X (.type "int") [.int i] M Φ := wc_of call_int1 fun H vs Q m rs k => by
  obtain ⟨v, rfl, r⟩ := reps1 rs
  cases r
  exact .inl ⟨i, rfl, k.here m (.int _) h⟩
theorem wc_intB {t : Bool} (h : Φ (.int (if t then 1 else 0)) M) : WC Cs X (.type "int") [.bl t] M Φ := wc_of call_int1 fun H vs Q m rs k => by
  obtain ⟨v, rfl, r⟩ := reps1 rs
  cases r
  exact .inr ⟨t, rfl, k.here m (.int _) h⟩
theorem wc_lenL {ds : List D} (h : Φ (.int ds.length) M) : WC Cs X (.builtin "len") [.lst ds] M Φ := wc_of call_len_seq fun H vs Q m rs k => by
  obtain ⟨v, rfl, r⟩ := reps1 rs
  cases r with
  | lst hz hr r => exact ⟨_, _, rfl, .inl (.inl hr), by rw [r.length]; exact k.here m (.int _) h⟩
theorem wc_lenT {ds : List D} (h : Φ (.int ds.length) M) : WC Cs X (.builtin "len") [.tup ds] M Φ := wc_of call_len_seq fun H vs Q m rs k => by
  obtain ⟨v, rfl, r⟩ := reps1 rs
  cases r with
  | tup hz hr r => exact ⟨_, _, rfl, .inr (.inl hr), by rw [r.length]; exact k.here m (.int _) h⟩
theorem wc_lenO {q : Addr} {ds : List D} (hM : M q = some (.lst ds)) (h : Φ (.int ds.length) M) : WC Cs X (.builtin "len") [.ref q] M Φ := wc_of call_len_seq fun H vs Q m rs k => by
  obtain ⟨v, rfl, r⟩ := reps1 rs
  cases r
  obtain ⟨vs, e0, r⟩ := m.at_ q _ hM
  exact ⟨_, _, rfl, .inl (.inl (.inl e0)), by rw [r.length]; exact k.here m (.int _) h⟩
theorem reps_bl {Z : Addr → Prop} {H : Hp} : ∀ {vs : List V} {bs : List Bool}, Reps Cs Z H vs (bs.map D.bl) → vs = bs.map V.bl
  | _, [], .nil => rfl
  | _, b :: bs, .cons h r => by
    cases h
    rw [reps_bl (bs := bs) r]
    rfl
theorem wc_all {bs : List Bool} (hc : X.calm = true) (h : Φ (.bl (bs.all id)) M) : WC Cs X (.builtin "all") [.lst (bs.map D.bl)] M Φ := wc_of (cr_all hc) fun H vs Q m rs k => by
  obtain ⟨v, rfl, r⟩ := reps1 rs
  cases r with
  | lst hz hr r =>
    have e := reps_bl r
    subst e
    exact ⟨_, bs, rfl, .inl hr, k.here m (.bl _) h⟩
theorem wc_any {bs : List Bool} (hc : X.calm = true) (h : Φ (.bl (bs.any id)) M) : WC Cs X (.builtin "any") [.lst (bs.map D.bl)] M Φ := wc_of (cr_any hc) fun H vs Q m rs k => by
  obtain ⟨v, rfl, r⟩ := reps1 rs
  cases r with
  | lst hz hr r =>
    have e := reps_bl r
    subst e
    exact ⟨_, bs, rfl, .inl hr, k.here m (.bl _) h⟩
/-- list(range(n)) -/
theorem reps_up {Z : Addr → Prop} {H : Hp} : ∀ (f : Nat → Nat) (l : List Nat), Reps Cs Z H (l.map fun i => V.int ((f i : Nat) : Int)) (l.map fun i => D.int ((f i : Nat) : Int))
  | _, [] => .nil
  | f, i :: l => .cons (.int _) (reps_up f l)
theorem we_listR {p' q' : Pos} (hc : X.calm = true) (hg : Gl X "list") (hm : X.mg "list" = none) (hg' : Gl X "range") (hm' : X.mg "range" = none) (h : WE Cs X e ρ M fun d M1 => ∃ n : Nat, d = .int (n : Int) ∧ n ≤ 100000 ∧ Φ (.lst (upTo n)) M1)
    (na : starEach [.Call (.Name "range" p') [e] [] q'] X.env = (false, eval (.Call (.Name "range" p') [e] [] q') X.env) :: starEach [] X.env := by rfl) (nb : starEach [e] X.env = (false, eval e X.env) :: starEach [] X.env := by rfl) :
    WE Cs X (.Call (.Name "list" p) [.Call (.Name "range" p') [e] [] q'] [] pos) ρ M Φ :=
  .mk fun F σ H A Q k => (pe_listRg hc hg hm (prg_1 hg' hm' pe_sem nb) na).sem (h.run _ σ H A _ fun v d H1 M1 p1 m1 r1 h1 => by
    obtain ⟨n, rfl, hn, hΦ⟩ := h1
    cases r1
    refine ⟨_, rfl, RgOk.of_le (by omega) (by omega) (by omega) (by omega), fun q hq => ?_⟩
    refine k _ _ _ M1 (p1.trans (post_new hq)) (m1.new hq) (.lst (m1.notZ hq) (.inl upd_same) ?_) hΦ
    have e1 : rgV 0 (n : Int) = (List.range n).map fun i : Nat => V.int ((i : Nat) : Int) := by
      unfold rgV
      have e2 : ((n : Int) - 0).toNat = n := by omega
      rw [e2]
      exact List.map_congr_left fun i _ => by rw [Int.zero_add]
    rw [e1]
    exact reps_up (fun i => i) (List.range n))

/-! ### isinstance -/
def tyD (Cs : Nat → Addr) : D → Value
  | .non => .type "NoneType"
  | .bl _ => .type "bool"
  | .int _ => .type "int"
  | .str _ => .type "str"
  | .tup _ => .type "tuple"
  | .lst _ => .type "list"
  | .obj c _ => .ref (Cs c)
  | _ => .none
end
end DL
namespace DL
open PySem PySem.Spec PyProof.Rows L2
section
variable {Cs : Nat → Addr} {F : Addr → Prop} {X : Cx} {ρ : Env} {M : Mem} {a b c e : Expr} {es : List Expr} {pos p apos : Pos} {Φ : D → Mem → Prop} {Ψ : Bool → Mem → Prop} {st : Stmt} {sts rest body : List Stmt} {E : DE} {x f m : Str}
/-- isinstance(x, T), x no instance of an own class -/
theorem wc_isi {d : D} {n : String} {t : Bool} (hd : (match d with | .obj _ _ => false | .ref _ => false | .ty _ => false | _ => true) = true) (hk : PySem.W.kitOne X.K (tyD Cs d) (.type n) = some t) (h : Φ (.bl t) M) : WC Cs X (.builtin "isinstance") [d, .ty n] M Φ := wc_of call_isi fun H vs Q m rs k => by
  obtain ⟨v, v', rfl, r, r'⟩ := reps2 rs
  cases r'
  refine ⟨v, .ty n, tyD Cs d, .type n, t, rfl, .ty n, ?_, hk, k.here m (.bl _) h⟩
  cases r with
  | non => exact .base .non
  | bl b => exact .base (.bl b)
  | int i => exact .base (.int i)
  | str x => exact .base (.str x)
  | ty n => cases hd
  | ref a => cases hd
  | tup hz hr rs =>
    rcases hr with hr | ⟨o, hr⟩
    · exact .base (.tup hr)
    · exact .fTuple hr
  | lst hz hr rs =>
    rcases hr with hr | ⟨o, hr⟩
    · exact .base (.lst hr)
    · exact .base (.frz hr)
  | obj => cases hd
/-- isinstance(x, C), C an own class, x no instance of an own class -/
theorem wc_isiC {d : D} {C : Addr} {t : Bool} (hd : (match d with | .obj _ _ => false | .ref _ => false | .ty _ => false | _ => true) = true) (hk : PySem.W.kitOne X.K (tyD Cs d) (.ref C) = some t) (h : Φ (.bl t) M) : WC Cs X (.builtin "isinstance") [d, .ref C] M Φ := wc_of call_isi fun H vs Q m rs k => by
  obtain ⟨v, v', rfl, r, r'⟩ := reps2 rs
  cases r'
  refine ⟨v, .ref C, tyD Cs d, .ref C, t, rfl, .own C, ?_, hk, k.here m (.bl _) h⟩
  cases r with
  | non => exact .base .non
  | bl b => exact .base (.bl b)
  | int i => exact .base (.int i)
  | str x => exact .base (.str x)
  | ty n => cases hd
  | ref a => cases hd
  | tup hz hr rs =>
    rcases hr with hr | ⟨o, hr⟩
    · exact .base (.tup hr)
    · exact .fTuple hr
  | lst hz hr rs =>
    rcases hr with hr | ⟨o, hr⟩
    · exact .base (.lst hr)
    · exact .base (.frz hr)
  | obj => cases hd
/-- isinstance(x, T), x an instance with slots -/
theorem wc_isiS {c : Nat} {ds : List D} {y : D} {u : Value} {t : Bool} (hy : (∃ n, y = .ty n ∧ u = .type n) ∨ (∃ C, y = .ref C ∧ u = .ref C)) (hc : SlX.SCls X.K (Cs c)) (hi : SlX.SIsi X.K (Cs c)) (hk : PySem.W.kitOne X.K (.ref (Cs c)) u = some t) (h : Φ (.bl t) M) : WC Cs X (.builtin "isinstance") [.obj c ds, y] M Φ := wc_of (SlX.call_isiSl u) fun H vs Q m rs k => by
  obtain ⟨v, v', rfl, r, r'⟩ := reps2 rs
  obtain ⟨q, dx, ws, rfl, hsl, _⟩ := rep_slt r
  refine ⟨q, Cs c, dx, _, v', t, rfl, ?_, ?_, hsl, hc, hi, hk, k.here m (.bl _) h⟩
  · rcases hy with ⟨n, rfl, rfl⟩ | ⟨C, rfl, rfl⟩ <;> (cases r'; rfl)
  · rcases hy with ⟨n, rfl, rfl⟩ | ⟨C, rfl, rfl⟩ <;> (cases r'; intro w hw; exact hw)

/-! ### own operators -/
theorem wo_bin {op : Operator} {n k : Nat} {g : Addr} {S : FS} {ds es : List D} (hsf : PySem.W.selfFirst X.K (Cs n) = true) (hs : PySem.W.findIn X.K (.ref (Cs n)) (PySem.dunder op.info.2) = some (some (.ref g))) (hf : PySem.W.isFn X.K (.ref g) = true)
    (Fn : FnD Cs X k g S) (hr : Rm k X.A) (h : S [.obj n ds, .obj n es] M Φ) : WO Cs X (binaryOp op) (.obj n ds) (.obj n es) M Φ := .mk fun F H vx vy m rx ry Q k pins s σ v u I rv ru => by
  obtain ⟨q, dx, ws, rfl, hsl, _⟩ := rep_slt rx
  obtain ⟨q', dx', ws', rfl, hsl', _⟩ := rep_slt ry
  cases rv; cases ru
  exact bin_g (E := E0) hsf hs hf Fn hr pass0 I hsl hsl' ⟨F, _, M, Φ, m, .cons rx (.cons ry .nil), h, k⟩
theorem wo_own {op : CmpOp} {n n' k : Nat} {g : Addr} {S : FS} {ds es : List D} (hop : ∀ a b, compareOp op a b = richCompare op a b) (hn : PySem.W.notFirst X.K (Cs n) (.ref (Cs n')) = true) (hs : PySem.W.findIn X.K (.ref (Cs n)) (cmpInfo op).2.1 = some (some (.ref g))) (hf : PySem.W.isFn X.K (.ref g) = true)
    (Fn : FnD Cs X k g S) (hr : Rm k X.A) (h : S [.obj n ds, .obj n' es] M Φ) : WO Cs X (compareOp op) (.obj n ds) (.obj n' es) M Φ := .mk fun F H vx vy m rx ry Q k pins s σ v u I rv ru => by
  obtain ⟨q, dx, ws, rfl, hsl, _⟩ := rep_slt rx
  obtain ⟨q', dx', ws', rfl, hsl', _⟩ := rep_slt ry
  cases rv; cases ru
  exact cmp_g (E := E0) hop hn hs hf Fn hr pass0 I hsl hsl' ⟨F, _, M, Φ, m, .cons rx (.cons ry .nil), h, k⟩

/-! ### data that Python has, too -/
mutual
def _root_.DL.D.py : D → PyData
  | .non => .none
  | .bl b => .bool b
  | .int i => .int i
  | .str x => .str x
  | .tup ds => .tuple (pys ds)
  | .lst ds => .list (pys ds)
  | _ => .none
def pys : List D → List PyData
  | [] => []
  | d :: ds => d.py :: pys ds
end
mutual
def _root_.DL.D.isPy : D → Bool
  | .non => true
  | .bl _ => true
  | .int _ => true
  | .str _ => true
  | .tup ds => arePy ds
  | .lst ds => arePy ds
  | _ => false
def arePy : List D → Bool
  | [] => true
  | d :: ds => d.isPy && arePy ds
end
mutual
theorem Rep.dp {K : PySem.W.Frag} {Z : Addr → Prop} {H : Hp} : ∀ {v : V} {d : D}, Rep Cs Z H v d → d.isPy = true → Dp K H v d.py
  | _, _, .non, _ => .non
  | _, _, .bl b, _ => .bl b
  | _, _, .int i, _ => .int i
  | _, _, .str x, _ => .str x
  | _, _, .ty n, h => by simp [D.isPy] at h
  | _, _, .ref a, h => by simp [D.isPy] at h
  | _, _, .tup hz hr rs, h => by
    rw [D.py]
    exact .tup (.inl hr) (Reps.dp rs (by rw [D.isPy] at h; exact h))
  | _, _, .lst hz hr rs, h => by
    rw [D.py]
    exact .lst (.inl hr) (Reps.dp rs (by rw [D.isPy] at h; exact h))
  | _, _, .obj _ _ _ _ _, h => by simp [D.isPy] at h
theorem Reps.dp {K : PySem.W.Frag} {Z : Addr → Prop} {H : Hp} : ∀ {vs : List V} {ds : List D}, Reps Cs Z H vs ds → arePy ds = true → DpAll K H vs (pys ds)
  | _, _, .nil, _ => by rw [pys]; exact .nil
  | _, _, .cons h r, q => by
    rw [arePy, Bool.and_eq_true] at q
    rw [pys]
    exact .cons (Rep.dp h q.1) (Reps.dp r q.2)
end
theorem wo_eqD {d d' : D} {k : Nat} (hr : Rm k X.A) (h1 : d.isPy = true) (h2 : d'.isPy = true) (s1 : SeqAt.shaped d.py = true) (s2 : SeqAt.shaped d'.py = true) (h : Φ (.bl (PyData.eqv d.py d'.py)) M) : WO Cs X (compareOp .Eq) d d' M Φ := .mk fun F H vx vy m rx ry Q k =>
  (op_eqD hr.rm.units).sem ⟨_, _, rx.dp h1, ry.dp h2, s1, s2, k.here m (.bl _) h⟩
theorem wo_neD {d d' : D} {k : Nat} (hr : Rm k X.A) (h1 : d.isPy = true) (h2 : d'.isPy = true) (s1 : SeqAt.shaped d.py = true) (s2 : SeqAt.shaped d'.py = true) (h : Φ (.bl (!PyData.eqv d.py d'.py)) M) : WO Cs X (compareOp .NotEq) d d' M Φ := .mk fun F H vx vy m rx ry Q k =>
  (op_neD hr.rm.units).sem ⟨_, _, rx.dp h1, ry.dp h2, s1, s2, k.here m (.bl _) h⟩
end
end DL
namespace DL
open PySem PySem.Spec PyProof.Rows L2
/-! ### repr -/
section
variable {Cs : Nat → Addr} {F : Addr → Prop} {X : Cx} {ρ : Env} {M : Mem} {Φ : D → Mem → Prop}
theorem wc_repr {d : D} {k : Nat} (hr : Rm k X.A) (h1 : d.isPy = true) (h2 : d.py.showable = true) (h3 : d.py.hasDict = false) (h4 : d.py.depth ≤ 60) (h5 : d.py.shown.length ≤ sizeLine) (h : Φ (.str d.py.shown) M) : WC Cs X (.builtin "repr") [d] M Φ := .mk fun F H vs m rs Q k pins s σ us I rv => by
  obtain ⟨v, rfl, r⟩ := reps1 rs
  obtain ⟨u, rfl, ru⟩ := rv.one
  obtain ⟨as, rd⟩ := Dp.reads (X := X) I d.py v u (r.dp h1) ru
  cases r with
  | non =>
    cases ru
    exact P.repr_of_none ⟨.str "None", H, I.tok _, ⟨_, rfl⟩, k.here m (.str _) (by simpa [D.py, PyData.shown] using h)⟩
  | bl b =>
    cases ru
    exact P.repr_of_bool ⟨.str (if b then "True" else "False"), H, I.tok _, ⟨_, rfl⟩, k.here m (.str _) (by simpa [D.py, PyData.shown] using h)⟩
  | int i =>
    obtain ⟨t, rfl⟩ := ru
    exact P.repr_of_int (by simpa [D.py, PyData.showable] using h2) ⟨.str (toString i), H, I.tok _, ⟨_, rfl⟩, k.here m (.str _) (by simpa [D.py, PyData.shown] using h)⟩
  | str x =>
    obtain ⟨t, rfl⟩ := ru
    exact P.repr_of_str ⟨.str (reprText x), H, I.tok _, ⟨_, rfl⟩, k.here m (.str _) (by simpa [D.py, PyData.shown] using h)⟩ (by simpa [D.py, PyData.shown] using h5)
  | ty n => simp [D.isPy] at h1
  | ref a => simp [D.isPy] at h1
  | obj => simp [D.isPy] at h1
  | tup hz hr' rs =>
    cases ru
    refine repr_of_reads' rd h2 (PyData.noDict_hsm h3) hr.gd (by have := hr.rm.units; omega) (fun _ _ z => z) (fun h' u tk hk => ?_) h5
    exact ⟨.str _, H, I.kept hk, ⟨u, rfl⟩, k.here m (.str _) h⟩
  | lst hz hr' rs =>
    cases ru
    refine repr_of_reads' rd h2 (PyData.noDict_hsm h3) hr.gd (by have := hr.rm.units; omega) (fun _ _ z => z) (fun h' u tk hk => ?_) h5
    exact ⟨.str _, H, I.kept hk, ⟨u, rfl⟩, k.here m (.str _) h⟩
end
/-! ### list comprehensions -/
mutual
theorem Rep.less {Cs : Nat → Addr} {Z Z' : Addr → Prop} {H : Hp} (l : ∀ a, Z' a → Z a) : ∀ {v : V} {d : D}, Rep Cs Z H v d → Rep Cs Z' H v d
  | _, _, .non => .non
  | _, _, .bl b => .bl b
  | _, _, .int i => .int i
  | _, _, .str x => .str x
  | _, _, .ty n => .ty n
  | _, _, .ref a => .ref a
  | _, _, .tup hz h r => .tup (fun z => hz (l _ z)) h (Reps.less l r)
  | _, _, .lst hz h r => .lst (fun z => hz (l _ z)) h (Reps.less l r)
  | _, _, .obj hz hx h h2 r => .obj (fun z => hz (l _ z)) (fun z => hx (l _ z)) h h2 (Reps.less l r)
theorem Reps.less {Cs : Nat → Addr} {Z Z' : Addr → Prop} {H : Hp} (l : ∀ a, Z' a → Z a) : ∀ {vs : List V} {ds : List D}, Reps Cs Z H vs ds → Reps Cs Z' H vs ds
  | _, _, .nil => .nil
  | _, _, .cons h r => .cons (Rep.less l h) (Reps.less l r)
end
theorem RepO.less {Cs : Nat → Addr} {Z Z' : Addr → Prop} {H : Hp} (l : ∀ a, Z' a → Z a) : ∀ {vs : List (Option V)} {ds : List (Option D)}, RepO Cs Z H vs ds → RepO Cs Z' H vs ds
  | _, _, .nil => .nil
  | _, _, .none r => .none (RepO.less l r)
  | _, _, .some h r => .some (h.less l) (RepO.less l r)
theorem rd_ne {H : Hp} {a p : Addr} {u : HO} (h : Rd H a u) (hp : H p = none) : a ≠ p := by
  rcases h with h | ⟨o, h⟩ <;> exact ne_of_none h hp
theorem rd_upd {H : Hp} {a p : Addr} {u o : HO} (h : Rd H a u) (ne : a ≠ p) : Rd (upd H p o) a u := by
  rcases h with h | ⟨o', h⟩
  · exact .inl (by rw [upd_ne ne]; exact h)
  · exact .inr ⟨o', by rw [upd_ne ne]; exact h⟩
mutual
/-- what is not there is not used -/
theorem Rep.avoid {Cs : Nat → Addr} {Z Z' : Addr → Prop} {H : Hp} {p : Addr} (hp : H p = none) (l : ∀ a, Z' a → Z a ∨ a = p) : ∀ {v : V} {d : D}, Rep Cs Z H v d → Rep Cs Z' H v d
  | _, _, .non => .non
  | _, _, .bl b => .bl b
  | _, _, .int i => .int i
  | _, _, .str x => .str x
  | _, _, .ty n => .ty n
  | _, _, .ref a => .ref a
  | _, _, .tup hz h r => .tup (fun z => (l _ z).elim hz (rd_ne h hp)) h (Reps.avoid hp l r)
  | _, _, .lst hz h r => .lst (fun z => (l _ z).elim hz (rd_ne h hp)) h (Reps.avoid hp l r)
  | _, _, .obj hz hx h h2 r => .obj (fun z => (l _ z).elim hz (ne_of_none h hp)) (fun z => (l _ z).elim hx (ne_of_none h2 hp)) h h2 (Reps.avoid hp l r)
theorem Reps.avoid {Cs : Nat → Addr} {Z Z' : Addr → Prop} {H : Hp} {p : Addr} (hp : H p = none) (l : ∀ a, Z' a → Z a ∨ a = p) : ∀ {vs : List V} {ds : List D}, Reps Cs Z H vs ds → Reps Cs Z' H vs ds
  | _, _, .nil => .nil
  | _, _, .cons h r => .cons (Rep.avoid hp l h) (Reps.avoid hp l r)
end
theorem RepO.avoid {Cs : Nat → Addr} {Z Z' : Addr → Prop} {H : Hp} {p : Addr} (hp : H p = Option.none) (l : ∀ a, Z' a → Z a ∨ a = p) : ∀ {vs : List (Option V)} {ds : List (Option D)}, RepO Cs Z H vs ds → RepO Cs Z' H vs ds
  | _, _, .nil => .nil
  | _, _, .none r => .none (RepO.avoid hp l r)
  | _, _, .some h r => .some (h.avoid hp l) (RepO.avoid hp l r)
theorem zne {Z : Addr → Prop} {a p : Addr} (hz : ¬ Z a) (hp : Z p) : a ≠ p := fun z => hz (by rw [z]; exact hp)
mutual
theorem Rep.upd {Cs : Nat → Addr} {Z : Addr → Prop} {H : Hp} {p : Addr} {o : HO} (hp : Z p) : ∀ {v : V} {d : D}, Rep Cs Z H v d → Rep Cs Z (upd H p o) v d
  | _, _, .non => .non
  | _, _, .bl b => .bl b
  | _, _, .int i => .int i
  | _, _, .str x => .str x
  | _, _, .ty n => .ty n
  | _, _, .ref a => .ref a
  | _, _, .tup hz h r => .tup hz (rd_upd h (fun z => hz (z ▸ hp))) (Reps.upd hp r)
  | _, _, .lst hz h r => .lst hz (rd_upd h (fun z => hz (z ▸ hp))) (Reps.upd hp r)
  | _, _, .obj hz hx h h2 r => .obj hz hx ((upd_ne (zne hz hp)).trans h) ((upd_ne (zne hx hp)).trans h2) (Reps.upd hp r)
theorem Reps.upd {Cs : Nat → Addr} {Z : Addr → Prop} {H : Hp} {p : Addr} {o : HO} (hp : Z p) : ∀ {vs : List V} {ds : List D}, Reps Cs Z H vs ds → Reps Cs Z (upd H p o) vs ds
  | _, _, .nil => .nil
  | _, _, .cons h r => .cons (Rep.upd hp h) (Reps.upd hp r)
end
theorem RepO.upd {Cs : Nat → Addr} {Z : Addr → Prop} {H : Hp} {p : Addr} {o : HO} (hp : Z p) : ∀ {vs : List (Option V)} {ds : List (Option D)}, RepO Cs Z H vs ds → RepO Cs Z (L2.upd H p o) vs ds
  | _, _, .nil => .nil
  | _, _, .none r => .none (RepO.upd hp r)
  | _, _, .some h r => .some (h.upd hp) (RepO.upd hp r)
/-- p is hidden from now on -/
def Hid (F : Addr → Prop) (p : Addr) : Addr → Prop := fun a => F a ∨ a = p
section
variable {Cs : Nat → Addr} {F : Addr → Prop} {X : Cx} {ρ : Env} {M M1 : Mem} {H H1 : Hp} {q : Addr} {o : HO}
theorem zf_hid {a : Addr} (h : Zf (Hid F q) M a) : Zf F M a ∨ a = q := by
  rcases h with (h | h) | h
  · exact .inl (.inl h)
  · exact .inr h
  · exact .inl (.inr h)
theorem MemAt.hide (m : MemAt Cs F M H) (hq : H q = none) : MemAt Cs (Hid F q) M (upd H q o) := by
  have hM := m.old hq
  have z : Zf (Hid F q) M q := .inl (.inr rfl)
  refine ⟨fun a n e => ?_, fun a h => ?_⟩
  · have w := m.at_ a n e
    have ne : a ≠ q := fun y => by rw [y, hM] at e; cases e
    cases n with
    | lst ds =>
      obtain ⟨vs, e1, r⟩ := w
      exact ⟨vs, by rw [upd_ne ne]; exact e1, (r.avoid hq fun _ => zf_hid).upd z⟩
    | slt c dx os =>
      obtain ⟨n1, n2, vs, hs, r⟩ := w
      refine ⟨n1, n2, vs, ?_, (r.avoid hq fun _ => zf_hid).upd z⟩
      rcases hs with ⟨z1, z2⟩ | ⟨z1, z2⟩
      · exact .inl ⟨by rw [upd_ne ne]; exact z1, z2⟩
      · exact .inr ⟨by rw [upd_ne ne]; exact z1, by rw [upd_ne (fun y => by rw [y, hM] at n2; cases n2)]; exact z2⟩
    | aux y =>
      obtain ⟨o', e1⟩ := w
      exact ⟨o', by rw [upd_ne ne]; exact e1⟩
  · rcases h with h | h
    · obtain ⟨z1, z2⟩ := m.ff a h
      refine ⟨z1, ?_⟩
      have ne : a ≠ q := fun y => z2 (by rw [y]; exact hq)
      rw [upd_ne ne]
      exact z2
    · subst h
      exact ⟨hM, by rw [upd_same]; exact fun y => nomatch y⟩
theorem MemAt.upd (m : MemAt Cs F M H) (hq : F q) : MemAt Cs F M (upd H q o) := by
  have hM := (m.ff q hq).1
  have z : Zf F M q := .inl hq
  refine ⟨fun a n e => ?_, fun a h => ?_⟩
  · have w := m.at_ a n e
    have ne : a ≠ q := fun y => by rw [y, hM] at e; cases e
    cases n with
    | lst ds =>
      obtain ⟨vs, e1, r⟩ := w
      exact ⟨vs, by rw [upd_ne ne]; exact e1, r.upd z⟩
    | slt c dx os =>
      obtain ⟨n1, n2, vs, hs, r⟩ := w
      refine ⟨n1, n2, vs, ?_, r.upd z⟩
      rcases hs with ⟨z1, z2⟩ | ⟨z1, z2⟩
      · exact .inl ⟨by rw [upd_ne ne]; exact z1, z2⟩
      · exact .inr ⟨by rw [upd_ne ne]; exact z1, by rw [upd_ne (fun y => by rw [y, hM] at n2; cases n2)]; exact z2⟩
    | aux y =>
      obtain ⟨o', e1⟩ := w
      exact ⟨o', by rw [upd_ne ne]; exact e1⟩
  · obtain ⟨z1, z2⟩ := m.ff a h
    refine ⟨z1, ?_⟩
    by_cases y : a = q
    · rw [y, upd_same]; exact fun y => nomatch y
    · rw [upd_ne y]; exact z2
theorem MemAt.show (m : MemAt Cs (Hid F q) M H) : MemAt Cs F M H := by
  have l : ∀ a, Zf F M a → Zf (Hid F q) M a := fun a z => z.elim (fun y => .inl (.inl y)) .inr
  refine ⟨fun a n e => ?_, fun a h => m.ff a (.inl h)⟩
  have w := m.at_ a n e
  cases n with
  | lst ds =>
    obtain ⟨vs, e1, r⟩ := w
    exact ⟨vs, e1, r.less l⟩
  | slt c dx os =>
    obtain ⟨n1, n2, vs, hs, r⟩ := w
    exact ⟨n1, n2, vs, hs, r.less l⟩
  | aux y => exact w
/-! the slots of a comprehension's own names -/
def wipeE (ρ : Env) : List Nat → Env
  | [] => ρ
  | v :: vs => (wipeE ρ vs).set v none
theorem wipe_get (σ : L2.St) (i : Nat) : ∀ vs : List Nat, (wipe σ vs)[i]? = if i ∈ vs then (σ[i]?).map fun _ => none else σ[i]?
  | [] => by simp [wipe]
  | v :: vs => by
    unfold wipe
    have ih := wipe_get σ i vs
    by_cases h : v = i
    · subst h
      rw [if_pos List.mem_cons_self, List.getElem?_set]
      simp only [if_pos]
      rw [wipe_length]
      by_cases hl : v < σ.length
      · rw [if_pos hl, List.getElem?_eq_getElem hl]; rfl
      · rw [if_neg hl, List.getElem?_eq_none_iff.mpr (by omega)]; rfl
    · rw [List.getElem?_set_ne h, ih]
      by_cases h2 : i ∈ vs
      · rw [if_pos h2, if_pos (List.mem_cons_of_mem _ h2)]
      · rw [if_neg h2, if_neg (fun z => (List.mem_cons.mp z).elim (fun y => h y.symm) h2)]
theorem wipeE_get (ρ : Env) (i : Nat) : ∀ vs : List Nat, (wipeE ρ vs)[i]? = if i ∈ vs then (ρ[i]?).map fun _ => none else ρ[i]?
  | [] => by simp [wipeE]
  | v :: vs => by
    unfold wipeE
    have ih := wipeE_get ρ i vs
    have hlen : (wipeE ρ vs).length = ρ.length := by
      clear ih
      induction vs with
      | nil => rfl
      | cons w ws ihw => unfold wipeE; rw [List.length_set, ihw]
    by_cases h : v = i
    · subst h
      rw [if_pos List.mem_cons_self, List.getElem?_set]
      simp only [if_pos]
      rw [hlen]
      by_cases hl : v < ρ.length
      · rw [if_pos hl, List.getElem?_eq_getElem hl]; rfl
      · rw [if_neg hl, List.getElem?_eq_none_iff.mpr (by omega)]; rfl
    · rw [List.getElem?_set_ne h, ih]
      by_cases h2 : i ∈ vs
      · rw [if_pos h2, if_pos (List.mem_cons_of_mem _ h2)]
      · rw [if_neg h2, if_neg (fun z => (List.mem_cons.mp z).elim (fun y => h y.symm) h2)]
theorem wipeE_length (ρ : Env) : ∀ vs : List Nat, (wipeE ρ vs).length = ρ.length
  | [] => rfl
  | v :: vs => by unfold wipeE; rw [List.length_set, wipeE_length ρ vs]
theorem wipe_set {σ : L2.St} {vs : List Nat} {j : Nat} {v : Option V} {τ : L2.St} (hj : j ∈ vs) (h : wipe τ vs = wipe σ vs) : wipe (τ.set j v) vs = wipe σ vs := by
  rw [← h]
  apply List.ext_getElem?
  intro i
  rw [wipe_get, wipe_get]
  by_cases hi : i ∈ vs
  · rw [if_pos hi, if_pos hi]
    by_cases hji : j = i
    · subst hji
      rw [List.getElem?_set]
      simp only [if_pos]
      by_cases hl : j < τ.length
      · rw [if_pos hl, List.getElem?_eq_getElem hl]; rfl
      · rw [if_neg hl, List.getElem?_eq_none_iff.mpr (by omega)]
    · rw [List.getElem?_set_ne hji]
  · rw [if_neg hi, if_neg hi, List.getElem?_set_ne (show j ≠ i from fun z => hi (by rw [← z]; exact hj))]
theorem wipe_wipe (σ : L2.St) (vs : List Nat) : wipe (wipe σ vs) vs = wipe σ vs := by
  apply List.ext_getElem?
  intro i
  rw [wipe_get, wipe_get]
  by_cases hi : i ∈ vs
  · rw [if_pos hi, if_pos hi]
    cases σ[i]? <;> rfl
  · rw [if_neg hi, if_neg hi]
theorem At.wipe {σ : L2.St} (A : At Cs F M H σ ρ) (vs : List Nat) : At Cs F M H (wipe σ vs) (wipeE ρ vs) :=
  ⟨A.mem, by rw [wipe_length, wipeE_length, A.len], fun i d e => by
    rw [wipeE_get] at e
    by_cases hi : i ∈ vs
    · rw [if_pos hi] at e
      cases h : ρ[i]? with
      | none => rw [h] at e; cases e
      | some o => rw [h] at e; cases e
    · rw [if_neg hi] at e
      obtain ⟨v, h1, h2⟩ := A.env i d e
      exact ⟨v, by rw [wipe_get, if_neg hi]; exact h1, h2⟩⟩
theorem At.hide {σ : L2.St} (A : At Cs F M H σ ρ) (hq : H q = none) : At Cs (Hid F q) M (upd H q o) σ ρ :=
  ⟨A.mem.hide hq, A.len, fun i d e => let ⟨v, h1, h2⟩ := A.env i d e; ⟨v, h1, (h2.avoid hq fun _ => zf_hid).upd (.inl (.inr rfl))⟩⟩
end
end DL
namespace DL
open PySem PySem.Spec PyProof.Rows L2
/-- the context of a comprehension's block -/
abbrev bX (X : Cx) (scope : Scope) (s : Shared) (H : Hp) (C : Addr) (cl : List (Str × Addr)) (fp : List Addr) : Cx := X.blk s H scope (compEnvC scope cl C X.env) fp
def semEB (X : Cx) (scope : Scope) (e : Expr) : TE := fun σ H Q => ∀ s0 H0 C cl fp, semE (bX X scope s0 H0 C cl fp) e σ H Q
def semTB (X : Cx) (scope : Scope) (e : Expr) : TT := fun σ H Q => ∀ s0 H0 C cl fp, semT (bX X scope s0 H0 C cl fp) e σ H Q
section
variable {X : Cx} {scope : Scope} {e : Expr}
theorem pe_semB (s0 : Shared) (H0 : Hp) (C : Addr) (cl : List (Str × Addr)) (fp : List Addr) : PE (bX X scope s0 H0 C cl fp) e (semEB X scope e) := ⟨fun pins s _ _ _ I h => h s0 H0 C cl fp pins s I⟩
theorem pt_semB (s0 : Shared) (H0 : Hp) (C : Addr) (cl : List (Str × Addr)) (fp : List Addr) : PT (bX X scope s0 H0 C cl fp) e (semTB X scope e) := ⟨fun pins s _ _ _ I h => h s0 H0 C cl fp pins s I⟩
end
/-- what a target does with a datum, among the own names vs -/
def TgR (Cs : Nat → Addr) (g : TG) (vs : List Nat) (step : D → Env → (Env → Prop) → Prop) : Prop := ∀ {F : Addr → Prop} {M : Mem} {H : Hp} {σ0 σ : L2.St} {ρ : Env} {v : V} {d : D} (K : Env → Prop) (Q : L2.St → Hp → Prop),
  At Cs F M H σ ρ → Rep Cs (Zf F M) H v d → wipe σ vs = wipe σ0 vs → step d ρ K → (∀ σ' ρ', At Cs F M H σ' ρ' → wipe σ' vs = wipe σ0 vs → K ρ' → Q σ' H) → g v σ H Q
def stN (j : Nat) : D → Env → (Env → Prop) → Prop := fun d ρ K => K (ρ.set j (some d))
theorem tg_name {Cs : Nat → Addr} {j : Nat} {vs : List Nat} (hj : j ∈ vs) : TgR Cs (gName j) vs (stN j) := fun K Q A r hw h k => k _ _ (A.set j r) (wipe_set hj hw) h
def stT (i j : Nat) : D → Env → (Env → Prop) → Prop := fun d ρ K => ∃ d1 d2, d = .tup [d1, d2] ∧ K ((ρ.set i (some d1)).set j (some d2))
theorem tg_two {Cs : Nat → Addr} {Kf : PySem.W.Frag} {i j : Nat} {vs : List Nat} (hi : i ∈ vs) (hj : j ∈ vs) : TgR Cs (gTup Kf 2 (gCons (gName i) (gCons (gName j) gNil))) vs (stT i j) := fun K Q A r hw h k => by
  obtain ⟨d1, d2, rfl, h⟩ := h
  cases r with
  | tup hz hr rs =>
    obtain ⟨v1, v2, rfl, r1, r2⟩ := reps2 rs
    exact ⟨_, _, rfl, .inl hr, rfl, v1, _, rfl, v2, _, rfl, rfl, k _ _ ((A.set i r1).set j r2) (wipe_set hj (wipe_set hi hw)) h⟩
section
variable {Cs : Nat → Addr} {F : Addr → Prop} {X : Cx} {ρ : Env} {M : Mem} {a b c e elt tg : Expr} {es : List Expr} {pos p apos : Pos} {Φ : D → Mem → Prop} {scope : Scope} {vs : List Nat} {step : D → Env → (Env → Prop) → Prop} {g : TG}
/-- what a turn does: the items ds, the list so far -/
def LcI (Cs : Nat → Addr) (X : Cx) (scope : Scope) (elt : Expr) (vs : List Nat) (step : D → Env → (Env → Prop) → Prop) (ds : List D) (ρ : Env) (M : Mem) (Φ : D → Mem → Prop) : Prop :=
  ds.length ≤ 40000 ∧ ∃ I : Nat → List D → Mem → Prop, I 0 [] M ∧ (∀ i d acc M', ds[i]? = some d → acc.length = i → I i acc M' → step d (wipeE ρ vs) fun ρ2 => ∀ s0 H0 C cl fp, WE Cs (bX X scope s0 H0 C cl fp) elt ρ2 M' fun y M3 => I (i + 1) (acc ++ [y]) M3) ∧ ∀ acc M', acc.length = ds.length → I ds.length acc M' → Φ (.lst acc) M'
def LcP (Cs : Nat → Addr) (F : Addr → Prop) (M1 : Mem) (H1 : Hp) (q : Addr) (I : Nat → List D → Mem → Prop) (i : Nat) (H' : Hp) : Prop :=
  ∃ acc ws M', Post M1 H1 M' H' ∧ MemAt Cs (Hid F q) M' H' ∧ H' q = some (.lst ws) ∧ Reps Cs (Zf (Hid F q) M') H' ws acc ∧ acc.length = i ∧ I i acc M'
theorem lc_start {M1 : Mem} {H1 : Hp} {q : Addr} {I : Nat → List D → Mem → Prop} (m : MemAt Cs F M1 H1) (hq : H1 q = none) (h : I 0 [] M1) : LcP Cs F M1 H1 q I 0 (upd H1 q (.lst [])) :=
  ⟨[], [], M1, post_new hq, m.hide hq, upd_same, .nil, rfl, h⟩
theorem lc_end {M1 : Mem} {H1 H' : Hp} {q : Addr} {I : Nat → List D → Mem → Prop} {n : Nat} {Q : VK} (m : MemAt Cs F M1 H1) (hq : H1 q = none) (k : Res Cs F M1 H1 Φ Q) (h : LcP Cs F M1 H1 q I n H') (hd : ∀ acc M', acc.length = n → I n acc M' → Φ (.lst acc) M') : Q (.ref q) H' := by
  obtain ⟨acc, ws, M', p', m', e, r, hl, hi⟩ := h
  refine k _ _ H' M' p' m'.show (.lst (fun z => ?_) (.inl e) (r.less fun a z => z.elim (fun y => .inl (.inl y)) .inr)) (hd acc M' hl hi)
  rcases z with z | z
  · exact (m.ff q z).2 hq
  · exact z (m'.ff q (.inr rfl)).1
theorem lc_turn {M1 : Mem} {H1 H' : Hp} {q : Addr} {I : Nat → List D → Mem → Prop} {i : Nat} {σ : L2.St} {v : V} {d : D} (A : At Cs F M1 H1 σ ρ) (hq : H1 q = none) (tgr : TgR Cs g vs step) (hn : i < 50000)
    (h : LcP Cs F M1 H1 q I i H') (rv : ∀ M', Post M1 H1 M' H' → Rep Cs (Zf (Hid F q) M') H' v d)
    (hs : ∀ acc M', acc.length = i → I i acc M' → step d (wipeE ρ vs) fun ρ2 => ∀ s0 H0 C cl fp, WE Cs (bX X scope s0 H0 C cl fp) elt ρ2 M' fun y M3 => I (i + 1) (acc ++ [y]) M3) :
    g v (wipe σ vs) H' fun σ2 H2 => wipe σ2 vs = wipe σ vs ∧ tYes σ2 H2 fun b H3 => if b = true then semEB X scope elt σ2 H3 fun y H4 => ∃ acc, H4 q = some (.lst acc) ∧ acc.length < sizeLine ∧ LcP Cs F M1 H1 q I (i + 1) (upd H4 q (.lst (acc ++ [y]))) else LcP Cs F M1 H1 q I (i + 1) H3 := by
  obtain ⟨acc, ws, M', p', m', e, r, hl, hi⟩ := h
  have A' : At Cs (Hid F q) M' H' (wipe σ vs) (wipeE ρ vs) := by
    have A1 := (A.hide (o := .lst ws) hq).wipe vs
    have p1 : Post M1 (upd H1 q (.lst ws)) M' H' := by
      refine ⟨fun b o hb ho => ?_, fun b hb => ?_⟩
      · by_cases z : b = q
        · subst z
          rw [upd_same] at ho
          cases ho
          exact e
        · rw [upd_ne z] at ho
          exact p'.ex b o hb ho
      · by_cases z : b = q
        · subst z
          exact absurd (m'.ff b (.inr rfl)).1 hb
        · rcases p'.new b hb with y | y
          · exact .inl y
          · exact .inr (by rw [upd_ne z]; exact y)
    exact A1.go p1 m'
  refine tgr _ _ A' (rv M' p') (wipe_wipe σ vs) (hs acc M' hl hi) fun σ2 ρ2 A2 hw hW => ⟨hw, ?_⟩
  unfold tYes
  dsimp only
  rw [if_pos rfl]
  intro s0 H0 C cl fp
  refine (hW s0 H0 C cl fp).run _ σ2 H' A2 _ fun y dy H4 M4 p4 m4 r4 h4 => ?_
  have e4 : H4 q = some (.lst ws) := p4.ex q _ (m'.ff q (.inr rfl)).1 e
  have zq : Zf (Hid F q) M4 q := .inl (.inr rfl)
  have rs4 := r.go p4
  refine ⟨ws, e4, by rw [r.length, hl]; exact Nat.lt_of_lt_of_le hn (by decide), acc ++ [dy], ws ++ [y], M4, ?_, m4.upd (.inr rfl), upd_same, (rs4.append (.cons r4 .nil)).upd zq, by rw [List.length_append, hl]; rfl, h4⟩
  have pp := p'.trans p4
  exact ⟨fun b o hb ho => by rw [upd_ne (ne_of_none ho hq)]; exact pp.ex b o hb ho, pp.new⟩
/-- [elt for tg in range(e)] -/
theorem we_lcR {p' q' : Pos} {own : List (Str × Nat)} (hc : X.calm = true) (hN : X.N.Nodup) (hg : Gl X "range") (hm : X.mg "range" = none) (ok : BlkOk X.N X.env.scope scope own)
    (hG : ∀ (s : Shared) (H : Hp) (C : Addr) (cl : List (Str × Addr)) (fp : List Addr), PG (bX X scope s H C cl fp) tg g) (tgr : TgR Cs g (own.map (·.2)) step)
    (h : WE Cs X e ρ M fun x M1 => ∃ n : Nat, x = .int (n : Int) ∧ LcI Cs X scope elt (own.map (·.2)) step (upTo n) ρ M1 Φ)
    (hs : ∀ x, foldedSetIterable (.Call (.Name "range" p') [e] [] q') X.env x = pure x := by intro _; rfl) (hst : starEach [e] X.env = [(false, eval e X.env)] := by rfl) :
    WE Cs X (.ListComp elt [⟨tg, .Call (.Name "range" p') [e] [] q', [], 0⟩] scope pos) ρ M Φ :=
  .mk fun F σ H A Q k => (pe_lc hc hN (pi_range1 hg hm (pa_cons pe_sem pa_nil hst) hst) ok hG (fun _ _ _ _ _ => pts_nil) pe_semB hs).sem (h.run _ σ H A _ fun v d H1 M1 p1 m1 r1 h1 => by
    obtain ⟨n, rfl, hl, I, h0, ht, hd⟩ := h1
    cases r1
    have en : (upTo n).length = n := by unfold upTo; rw [List.length_map, List.length_range]
    rw [en] at hl hd
    have A1 := A.go p1 m1
    refine ⟨(n : Int), rfl, by omega, by omega, fun q hq => lc_range (lo := 0) (n := (n : Int).toNat) (LcP Cs F M1 H1 q I) (lc_start m1 hq h0) ?_ fun H' h' => lc_end m1 hq (k.from p1) h' (by
      have e : (n : Int).toNat = n := by omega
      rw [e]; exact hd)⟩
    intro i H' hi h'
    have hi' : i < n := by omega
    have e0 : (0 : Int) + (i : Int) = (i : Int) := Int.zero_add _
    rw [e0]
    exact lc_turn A1 hq tgr (by omega) h' (fun _ _ => .int _) (fun acc M' hl' hi2 => ht i (.int (i : Int)) acc M' (by unfold upTo; rw [List.getElem?_map, List.getElem?_range hi']; rfl) hl' hi2))
/-- [elt for tg in list] -/
theorem we_lcL {own : List (Str × Nat)} (hc : X.calm = true) (hN : X.N.Nodup) (ok : BlkOk X.N X.env.scope scope own)
    (hG : ∀ (s : Shared) (H : Hp) (C : Addr) (cl : List (Str × Addr)) (fp : List Addr), PG (bX X scope s H C cl fp) tg g) (tgr : TgR Cs g (own.map (·.2)) step)
    (h : WE Cs X e ρ M fun x M1 => ∃ ds, x = .lst ds ∧ LcI Cs X scope elt (own.map (·.2)) step ds ρ M1 Φ)
    (hs : ∀ x, foldedSetIterable e X.env x = pure x := by intro _; rfl) : WE Cs X (.ListComp elt [⟨tg, e, [], 0⟩] scope pos) ρ M Φ :=
  .mk fun F σ H A Q k => (pe_lc hc hN (pi_list pe_sem) ok hG (fun _ _ _ _ _ => pts_nil) pe_semB hs).sem (h.run _ σ H A _ fun v d H1 M1 p1 m1 r1 h1 => by
    obtain ⟨ds, rfl, hl, I, h0, ht, hd⟩ := h1
    cases r1 with
    | @lst al vl _ hz hr rs =>
      have A1 := A.go p1 m1
      refine ⟨_, rfl, ⟨_, .inl hr⟩, fun q hq => lc_list (xs := vl) (LcP Cs F M1 H1 q I) (lc_start m1 hq h0) ?_ ?_ fun H' h' => lc_end m1 hq (k.from p1) h' (by rw [rs.length]; exact hd)⟩
      · rintro i H' _ ⟨acc, ws, M', p', _⟩
        exact .inl (rd_ex p' hz hr).1
      · intro i x H' hi h'
        obtain ⟨d, hd', rd⟩ := rs.getV hi
        have hn := (List.getElem?_eq_some_iff.mp hd').1
        refine lc_turn A1 hq tgr (by omega) h' (d := d) (fun M' p' => ?_) (fun acc M' hl' hi2 => ht i d acc M' hd' hl' hi2)
        exact ((rd.avoid hq (Z' := Zf (Hid F q) M1) fun _ => zf_hid).go p'))
theorem we_lcT {own : List (Str × Nat)} (hc : X.calm = true) (hN : X.N.Nodup) (ok : BlkOk X.N X.env.scope scope own)
    (hG : ∀ (s : Shared) (H : Hp) (C : Addr) (cl : List (Str × Addr)) (fp : List Addr), PG (bX X scope s H C cl fp) tg g) (tgr : TgR Cs g (own.map (·.2)) step)
    (h : WE Cs X e ρ M fun x M1 => ∃ ds, x = .tup ds ∧ LcI Cs X scope elt (own.map (·.2)) step ds ρ M1 Φ)
    (hs : ∀ x, foldedSetIterable e X.env x = pure x := by intro _; rfl) : WE Cs X (.ListComp elt [⟨tg, e, [], 0⟩] scope pos) ρ M Φ :=
  .mk fun F σ H A Q k => (pe_lc hc hN (pi_tup pe_sem) ok hG (fun _ _ _ _ _ => pts_nil) pe_semB hs).sem (h.run _ σ H A _ fun v d H1 M1 p1 m1 r1 h1 => by
    obtain ⟨ds, rfl, hl, I, h0, ht, hd⟩ := h1
    cases r1 with
    | @tup al vl _ hz hr rs =>
      have A1 := A.go p1 m1
      refine ⟨_, rfl, ⟨_, .inl hr⟩, fun q hq => lc_tup (xs := vl) (LcP Cs F M1 H1 q I) (lc_start m1 hq h0) ?_ ?_ fun H' h' => lc_end m1 hq (k.from p1) h' (by rw [rs.length]; exact hd)⟩
      · rintro i H' _ ⟨acc, ws, M', p', _⟩
        exact .inl (rd_ex p' hz hr).1
      · intro i x H' hi h'
        obtain ⟨d, hd', rd⟩ := rs.getV hi
        have hn := (List.getElem?_eq_some_iff.mp hd').1
        refine lc_turn A1 hq tgr (by omega) h' (d := d) (fun M' p' => ?_) (fun acc M' hl' hi2 => ht i d acc M' hd' hl' hi2)
        exact ((rd.avoid hq (Z' := Zf (Hid F q) M1) fun _ => zf_hid).go p'))
end
/-! ### a def -/
def startE (N : List Str) (ds : List D) : Env := ds.map some ++ List.replicate (N.length - ds.length) none
theorem at_start {Cs : Nat → Addr} {F : Addr → Prop} {M : Mem} {H : Hp} {N : List Str} {vs : List V} {ds : List D} (m : MemAt Cs F M H) (r : Reps Cs (Zf F M) H vs ds) : At Cs F M H (L2.start N vs) (startE N ds) := by
  refine ⟨m, by unfold L2.start startE; simp only [List.length_append, List.length_map, List.length_replicate, r.length], fun i d e => ?_⟩
  unfold startE at e
  by_cases hi : i < ds.length
  · rw [List.getElem?_append_left (by simpa using hi), List.getElem?_map] at e
    cases h : ds[i]? with
    | none => rw [h] at e; cases e
    | some d' =>
      rw [h] at e
      cases e
      obtain ⟨v, h1, h2⟩ := r.get h
      refine ⟨v, ?_, h2⟩
      unfold L2.start
      rw [List.getElem?_append_left (by rw [List.length_map, r.length]; exact hi), List.getElem?_map, h1]
      rfl
  · rw [List.getElem?_append_right (by simpa using hi), List.getElem?_replicate] at e
    split at e <;> cases e
/-- THE RULE for a def, told of data: dds are the defaults that fill up -/
theorem fn_D {Cs : Nat → Addr} {P : Program} {w : World} {K : PySem.W.Frag} {mg : Str → Option Value} {base : Heap} {k : Nat} {f : Addr} {fd : FuncData} {name qual : Str} {params : Arguments} {body : List Stmt} {scope : Scope} {dvs dws : List V} {kws : List (Str × V)} {ds : List Value}
    {N ps : List Str} {S : FS} (dds : List D) (Fd : FunD K name qual params body scope dvs kws f fd) (Sc : FnScope N ps scope) (hb : Binds K fd ps ds) (hd : Vals dws ds)
    (hdd : ∀ (Z : Addr → Prop) (H : Hp), Reps Cs Z H dws dds) (len : ∀ ds M Φ, S ds M Φ → (ds ++ dds).length = ps.length)
    (hbody : ∀ (cdv : Value) (A : Around) (outer : List PySem.Env) (s : Shared) (H : Hp) (as : List D) (M : Mem) (Φ : D → Mem → Prop), Rm k (cxOf CX0 P w K mg base N qual scope f cdv A outer s H E0).nox.A → S as M Φ →
      WSs Cs (cxOf CX0 P w K mg base N qual scope f cdv A outer s H E0).nox body (startE N (as ++ dds)) M { nx := fun _ M' => Φ .non M', rt := Φ }) :
    FnG P w K mg base CX0 (k + 1) f (spD Cs S) := by
  have G : FnG P w K mg base CX0 (k + 1) f (fun vs H Q E => (fun vs H Q E => ∃ ws, vs = ws ++ dws ∧ spD Cs S ws H Q E) (vs ++ dws) H Q E) := by
    refine fn_g (sp := fun vs H Q E => ∃ ws, vs = ws ++ dws ∧ spD Cs S ws H Q E) Fd Sc hb hd (fun vs H Q E h => ?_) fun cdv A outer s H vs Q E hr h => ?_
    · obtain ⟨ws, e, F, as, M, Φ, m, r, hs, q⟩ := h
      have l := len as M Φ hs
      rw [e, List.length_append, r.length, (hdd (Zf F M) H).length, ← List.length_append]
      exact l
    · obtain ⟨ws, rfl, F, as, M, Φ, m, r, hs, q⟩ := h
      refine ⟨semSs (cxOf CX0 P w K mg base N qual scope f cdv A outer s H E).nox body, PSs.nox pss_sem, ?_⟩
      have hW := hbody cdv A outer s H as M Φ hr hs
      refine fun pins s1 I => hW.run F (L2.start N (ws ++ dws)) H (at_start m (r.append (hdd _ _))) _ ⟨fun σ' ρ' H' M' p A' h => q _ _ H' M' p A'.mem .non h, q, fun _ _ _ _ _ _ h => h.elim, fun _ _ _ _ _ _ h => h.elim⟩ pins s1 I
  exact G.imp fun vs H Q E h => ⟨vs, rfl, h⟩
end DL
namespace DL
open PySem PySem.Spec PyProof.Rows L2
/-! ### facts of the top, read by a Hook -/
inductive Ty where
  | t (n : String) | c (x : Str)
def Ty.v (K : PySem.W.Frag) : Ty → Value
  | .t n => .type n
  | .c x => .ref (He.ga K x)
inductive Fc where
  | glo (x : Str) | free (x : Str) | int (x : Str) (i : Int) | str (x z : Str)
  | scls (x : Str) | slot (x f : Str) (i : Nat) | sisi (x : Str) | meth (x m : Str) | mkr (x : Str) | prop (x f : Str)
  | own (x m : Str) | selfF (x : Str) | notF (x y : Str) | kit (a b : Ty) (r : Bool) | nei (x : Str)
def propB (K : PySem.W.Frag) (C : Addr) (m : Str) : Bool := match PySem.W.recIn K (He.ma K C m) "property" with
  | some (.ref _ :: _) => true
  | _ => false
def Fc.ok (K : PySem.W.Frag) : Fc → Bool
  | .glo x => He.eqO (PySem.W.nsIn K mainGlobals x) (some (some (.ref (He.ga K x)))) && PySem.W.keepIn K (.ref (He.ga K x))
  | .free x => He.eqO (PySem.W.nsIn K mainGlobals x) (some none)
  | .int x i => (He.Fa.int x i).ok K
  | .str x z => (He.Fa.str x z).ok K
  | .scls x => PySem.W.plainGet K (He.ga K x) Str.empty && (PySem.W.isClsIn K (He.ga K x) && (PySem.W.plainOver K (He.ga K x) && He.eqO (PySem.W.findIn K (.ref (He.ga K x)) "__setattr__") (some (some (.builtin "object.__setattr__")))))
  | .slot x f i => He.eqO (PySem.W.findIn K (.ref (He.ga K x)) f) (some (some (.ref (He.ma K (He.ga K x) f)))) && (He.eqO (PySem.W.specialIn K (.ref (He.ma K (He.ga K x) f)) "__get__") (some (some (.builtin "member_descriptor.__get__"))) &&
      (decide (PySem.W.takesIn K (.ref (He.ma K (He.ga K x) f)) = some true) && (decide (PySem.W.typeIn K (.ref (He.ma K (He.ga K x) f)) = some (.type "member_descriptor")) && (decide (PySem.W.slotIn K (He.ma K (He.ga K x) f) (He.ga K x) = some i) && decide (i < 1000)))))
  | .sisi x => He.eqO (PySem.W.findIn K (.ref (He.ga K x)) "__class__") (some (some (.builtin "object.__class__"))) && (He.eqO (PySem.W.specialIn K (.builtin "object.__class__") "__get__") (some (some (.builtin "getset_descriptor.__get__"))) &&
      (decide (PySem.W.takesIn K (.builtin "object.__class__") = some true) && decide (PySem.W.mroIn K (He.ga K x) (.type "object") = some true)))
  | .meth x m => He.eqO (PySem.W.findIn K (.ref (He.ga K x)) m) (some (some (.ref (He.ma K (He.ga K x) m)))) && (PySem.W.isFn K (.ref (He.ma K (He.ga K x) m)) && PySem.W.keepIn K (.ref (He.ma K (He.ga K x) m)))
  | .mkr x => PySem.W.makesIn K (He.ga K x) && (He.eqO (PySem.W.findIn K (.ref (He.ga K x)) "__init__") (some (some (.ref (He.ma K (He.ga K x) "__init__")))) && (PySem.W.isFn K (.ref (He.ma K (He.ga K x) "__init__")) && PySem.W.keepIn K (.ref (He.ga K x))))
  | .prop x f => He.eqO (PySem.W.findIn K (.ref (He.ga K x)) f) (some (some (.ref (He.ma K (He.ga K x) f)))) && (He.eqO (PySem.W.specialIn K (.ref (He.ma K (He.ga K x) f)) "__get__") (some (some (.builtin "property.__get__"))) &&
      (decide (PySem.W.takesIn K (.ref (He.ma K (He.ga K x) f)) = some true) && propB K (He.ga K x) f))
  | .own x m => He.eqO (PySem.W.findIn K (.ref (He.ga K x)) m) (some (some (.ref (He.ma K (He.ga K x) m)))) && PySem.W.isFn K (.ref (He.ma K (He.ga K x) m))
  | .selfF x => PySem.W.selfFirst K (He.ga K x)
  | .notF x y => PySem.W.notFirst K (He.ga K x) (.ref (He.ga K y))
  | .kit a b r => decide (PySem.W.kitOne K (a.v K) (b.v K) = some r)
  | .nei x => He.eqO (PySem.W.findIn K (.ref (He.ga K x)) "__ne__") (some (some (.builtin "object.__ne__"))) && (decide (PySem.W.mroIn K (He.ga K x) (.type "object") = some true) && decide (PySem.W.mroIn K (He.ga K x) (.type "int") = some false))
section
variable {K : PySem.W.Frag} {h : Heap} {mg : Str → Option Value} {x y f m z : Str} {i : Nat}
theorem Fc.glo_ok (X : K.In h) (G : h.Ns mainGlobals mg) (c : (Fc.glo x).ok K = true) : mg x = some (.ref (He.ga K x)) ∧ PySem.W.keepIn K (.ref (He.ga K x)) = true := ⟨PySem.W.mg_of X G (He.eqO_ok (He.ba c).1), (He.ba c).2⟩
theorem Fc.free_ok (X : K.In h) (G : h.Ns mainGlobals mg) (c : (Fc.free x).ok K = true) : mg x = none := PySem.W.mg_none_of X G (He.eqO_ok c)
theorem Fc.int_ok (X : K.In h) (G : h.Ns mainGlobals mg) {n : Int} (c : (Fc.int x n).ok K = true) : ∃ t, mg x = some (.int n t) := He.int_ok X G c
theorem Fc.str_ok (X : K.In h) (G : h.Ns mainGlobals mg) (c : (Fc.str x z).ok K = true) : ∃ t, mg x = some (.str z t) := He.str_ok X G c
theorem Fc.scls_ok (c : (Fc.scls x).ok K = true) : SlX.SCls K (He.ga K x) := by
  obtain ⟨h1, c⟩ := He.ba c
  obtain ⟨h2, c⟩ := He.ba c
  obtain ⟨h3, h4⟩ := He.ba c
  exact ⟨h1, h2, h3, He.eqO_ok h4⟩
theorem Fc.slot_ok (c : (Fc.slot x f i).ok K = true) : SlX.Slot1 K (He.ga K x) f (He.ma K (He.ga K x) f) i := by
  obtain ⟨h1, c⟩ := He.ba c
  obtain ⟨h2, c⟩ := He.ba c
  obtain ⟨h3, c⟩ := He.ba c
  obtain ⟨h4, c⟩ := He.ba c
  obtain ⟨h5, h6⟩ := He.ba c
  exact ⟨He.eqO_ok h1, He.eqO_ok h2, of_decide_eq_true h3, of_decide_eq_true h4, of_decide_eq_true h5, of_decide_eq_true h6⟩
theorem Fc.sisi_ok (c : (Fc.sisi x).ok K = true) : SlX.SIsi K (He.ga K x) := by
  obtain ⟨h1, c⟩ := He.ba c
  obtain ⟨h2, c⟩ := He.ba c
  obtain ⟨h3, h4⟩ := He.ba c
  exact ⟨He.eqO_ok h1, He.eqO_ok h2, of_decide_eq_true h3, of_decide_eq_true h4⟩
theorem Fc.meth_ok (c : (Fc.meth x m).ok K = true) : Meth K (He.ga K x) m (He.ma K (He.ga K x) m) := by
  obtain ⟨h1, c⟩ := He.ba c
  obtain ⟨h2, h3⟩ := He.ba c
  exact ⟨He.eqO_ok h1, h2, h3⟩
theorem Fc.mkr_ok (c : (Fc.mkr x).ok K = true) : Mk K (He.ga K x) (He.ma K (He.ga K x) "__init__") := by
  obtain ⟨h1, c⟩ := He.ba c
  obtain ⟨h2, c⟩ := He.ba c
  obtain ⟨h3, h4⟩ := He.ba c
  exact ⟨h1, He.eqO_ok h2, h3, h4⟩
/-- a property: what wat_prop asks -/
structure PropF (K : PySem.W.Frag) (C : Addr) (f : Str) (q g : Addr) : Prop where
  at_ : PySem.W.findIn K (.ref C) f = some (some (.ref q))
  get : PySem.W.specialIn K (.ref q) "__get__" = some (some (.builtin "property.__get__"))
  tk : PySem.W.takesIn K (.ref q) = some true
  rc : ∃ rest, PySem.W.recIn K q "property" = some (.ref g :: rest)
theorem Fc.prop_ok (c : (Fc.prop x f).ok K = true) : PropF K (He.ga K x) f (He.ma K (He.ga K x) f) (He5.wf K (He.ga K x) "property" f) := by
  obtain ⟨h1, c⟩ := He.ba c
  obtain ⟨h2, c⟩ := He.ba c
  obtain ⟨h3, h4⟩ := He.ba c
  refine ⟨He.eqO_ok h1, He.eqO_ok h2, of_decide_eq_true h3, ?_⟩
  unfold He5.wf
  unfold propB at h4
  split at h4
  · rename_i g r e
    exact ⟨r, by rw [e]⟩
  · cases h4
/-- a class with an own == and no own != -/
structure NeF (K : PySem.W.Frag) (C : Addr) : Prop where
  ne : PySem.W.findIn K (.ref C) "__ne__" = some (some (.builtin "object.__ne__"))
  ob : PySem.W.mroIn K C (.type "object") = some true
  no : PySem.W.mroIn K C (.type "int") = some false
theorem Fc.nei_ok (c : (Fc.nei x).ok K = true) : NeF K (He.ga K x) := by
  obtain ⟨h1, c⟩ := He.ba c
  obtain ⟨h2, h3⟩ := He.ba c
  exact ⟨He.eqO_ok h1, of_decide_eq_true h2, of_decide_eq_true h3⟩
theorem Fc.own_ok (c : (Fc.own x m).ok K = true) : PySem.W.findIn K (.ref (He.ga K x)) m = some (some (.ref (He.ma K (He.ga K x) m))) ∧ PySem.W.isFn K (.ref (He.ma K (He.ga K x) m)) = true := ⟨He.eqO_ok (He.ba c).1, (He.ba c).2⟩
theorem Fc.kit_ok {a b : Ty} {r : Bool} (c : (Fc.kit a b r).ok K = true) : PySem.W.kitOne K (a.v K) (b.v K) = some r := of_decide_eq_true c
end
/-! the built-ins' names -/
theorem bb_abs : bootBuiltins "abs" = some (.builtin "abs") := by decide +kernel
theorem bb_len : bootBuiltins "len" = some (.builtin "len") := by decide +kernel
theorem bb_max : bootBuiltins "max" = some (.builtin "max") := by decide +kernel
theorem bb_min : bootBuiltins "min" = some (.builtin "min") := by decide +kernel
theorem bb_all : bootBuiltins "all" = some (.builtin "all") := by decide +kernel
theorem bb_any : bootBuiltins "any" = some (.builtin "any") := by decide +kernel
theorem bb_isinstance : bootBuiltins "isinstance" = some (.builtin "isinstance") := by decide +kernel
theorem bb_repr : bootBuiltins "repr" = some (.builtin "repr") := by decide +kernel
theorem bb_sum : bootBuiltins "sum" = some (.builtin "sum") := by decide +kernel
theorem bb_sorted : bootBuiltins "sorted" = some (.builtin "sorted") := by decide +kernel
theorem bt_int : bootBuiltins "int" = some (.type "int") := by decide +kernel
theorem bt_bool : bootBuiltins "bool" = some (.type "bool") := by decide +kernel
theorem bt_tuple : bootBuiltins "tuple" = some (.type "tuple") := by decide +kernel
theorem bt_str : bootBuiltins "str" = some (.type "str") := by decide +kernel
theorem bt_list : bootBuiltins "list" = some (.type "list") := by decide +kernel
theorem bt_range : bootBuiltins "range" = some (.type "range") := by decide +kernel
theorem bt_set : bootBuiltins "set" = some (.type "set") := by decide +kernel
theorem bt_dict : bootBuiltins "dict" = some (.type "dict") := by decide +kernel
theorem bt_zip : bootBuiltins "zip" = some (.type "zip") := by decide +kernel
theorem bt_enumerate : bootBuiltins "enumerate" = some (.type "enumerate") := by decide +kernel
/-! the Hook -/
def obsC (fa : List Fc) (fn : List He5.DefA) (K : PySem.W.Frag) : He.AlD := ((fa.all fun f => f.ok K) && fn.all fun d => d.ok K, fn.map fun d => He5.fnA K (d.at_ K))
def valC (fn : List He5.DefA) : He.AlD := (true, fn.map He5.DefA.val)
def SaysC (fa : List Fc) (fn : List He5.DefA) (K : PySem.W.Frag) : Prop := obsC fa fn K = valC fn
def obsCG (n : Nat) (fa : List Fc) (fn : List He5.DefA) (g : Addr → Option Obj) : He.AlD := obsC fa fn (He.frG g (He5.asA g n))
def hookC (n : Nat) (fa : List Fc) (fn : List He5.DefA) : PySem.W.Hook where
  α := He.AlD
  obs := fun s => obsCG n fa fn s.heap.get?
  val := fun _ => valC fn
  says := fun _ h => ∃ K : PySem.W.Frag, K.In h ∧ SaysC fa fn K
  of := fun _ _ e => ⟨_, He.frG_in, e⟩
  keeps := fun _ _ _ ⟨K, hK, c⟩ k => ⟨K, PySem.W.Frag.In.keeps hK k, c⟩
theorem obsCG_eq {n : Nat} {fa : List Fc} {fn : List He5.DefA} {g : Addr → Option Obj} {s : Shared} (h : ∀ a, g a = s.heap.get? a) : obsCG n fa fn g = (hookC n fa fn).obs s := by
  have e : g = s.heap.get? := funext h
  rw [e] <;> rfl
section
variable {fa : List Fc} {fn : List He5.DefA} {K : PySem.W.Frag}
theorem SaysC.fact (c : SaysC fa fn K) (i : Nat) {f : Fc} (h : fa[i]? = some f := by rfl) : f.ok K = true := by
  have c1 := (He.ba (show ((fa.all fun f => f.ok K) && fn.all fun d => d.ok K) = true from congrArg (fun z : He.AlD => z.1) c)).1
  exact List.all_eq_true.mp c1 f (List.mem_of_getElem? h)
theorem SaysC.def_ (c : SaysC fa fn K) (i : Nat) {d : He5.DefA} (h : fn[i]? = some d := by rfl) : ∃ fd, L2.FunD K d.name d.qual d.params d.body d.scope (d.dvs K) (d.kws K) (d.at_ K) fd := by
  have c2 := (He.ba (show ((fa.all fun f => f.ok K) && fn.all fun d => d.ok K) = true from congrArg (fun z : He.AlD => z.1) c)).2
  have e : fn.map (fun d => He5.fnA K (d.at_ K)) = fn.map He5.DefA.val := congrArg (fun z : He.AlD => z.2) c
  have e2 : (fn.map fun d => He5.fnA K (d.at_ K))[i]? = (fn.map He5.DefA.val)[i]? := by rw [e]
  rw [List.getElem?_map, List.getElem?_map, h] at e2
  exact He5.DefA.funD (Option.some.inj e2) (List.all_eq_true.mp c2 d (List.mem_of_getElem? h))
end
end DL
/-! ### gates: they look at the syntax alone -/
namespace DL
open PySem PySem.Spec PyProof.Rows L2
section
variable {Cs : Nat → Addr} {X : Cx} {ρ : Env} {M : Mem} {Φ : D → Mem → Prop} {e a : Expr} {es : List Expr} {kws : List Keyword} {p pos apos : Pos}
theorem at_name (x : Str) (h : WE Cs X (.Name x pos) ρ M Φ) : WE Cs X (.Name x pos) ρ M Φ := h
theorem at_call (x : Str) (h : WE Cs X (.Call (.Name x p) es kws pos) ρ M Φ) : WE Cs X (.Call (.Name x p) es kws pos) ρ M Φ := h
theorem at_attr (x : Str) (h : WE Cs X (.Attribute e x pos) ρ M Φ) : WE Cs X (.Attribute e x pos) ρ M Φ := h
theorem at_meth (x : Str) (h : WE Cs X (.Call (.Attribute a x apos) es kws pos) ρ M Φ) : WE Cs X (.Call (.Attribute a x apos) es kws pos) ρ M Φ := h
theorem at_wat (x : Str) {d : D} (h : WAt Cs X x d M Φ) : WAt Cs X x d M Φ := h
/-- a module's int, its token unknown -/
theorem we_gintE {x : Str} {i : Int} (hm : ∃ t, X.mg x = some (.int i t)) (hg : Gl X x) (h : Φ (.int i) M) (hd : (x == ("__debug__" : Str)) = false := by decide) : WE Cs X (.Name x pos) ρ M Φ := let ⟨_, ht⟩ := hm; we_gint hg ht h hd
theorem we_gstrE {x z : Str} (hm : ∃ t, X.mg x = some (.str z t)) (hg : Gl X x) (h : Φ (.str z) M) (hd : (x == ("__debug__" : Str)) = false := by decide) : WE Cs X (.Name x pos) ρ M Φ := let ⟨t, ht⟩ := hm
  .mk fun F σ H A Q k => (pe_glob (v := .str z) hg ht ⟨t, rfl⟩ hd).sem (k.here A.mem (.str z) h)
/-- a result that is known -/
theorem Res.eq {d d' : D} (e : d = d') (h : Φ d' M) : Φ d M := by rw [e]; exact h
end
/-! ### amounts: fractions in least terms -/
def amt (q : Rat) : D := .obj 0 [.int q.den, .int q.num]
def src (v r : Rat) : D := .obj 1 [amt r, amt v]
def rt (q : Rat) : D := .tup [.int q.num, .int q.den]
structure Bz (B : Nat) (q : Rat) : Prop where
  n : q.num.natAbs < 2 ^ B
  d : q.den < 2 ^ B
theorem Bz.mono {B C : Nat} {q : Rat} (h : Bz B q) (l : B ≤ C) : Bz C q := ⟨Nat.lt_of_lt_of_le h.n (Nat.pow_le_pow_right (by decide) l), Nat.lt_of_lt_of_le h.d (Nat.pow_le_pow_right (by decide) l)⟩
theorem div_num_le (a : Int) (u : Int) : (Rat.divInt a u).num.natAbs ≤ a.natAbs := by
  rw [Rat.num_divInt]
  by_cases h : u = 0
  · subst h; simp
  · have hg : 0 < (u.gcd a : Int) := by
      have := Int.gcd_pos_of_ne_zero_left a h
      omega
    have h1 : (u.sign * a).natAbs = a.natAbs := by
      rw [Int.natAbs_mul, Int.natAbs_sign]
      simp [h]
    rw [Int.natAbs_ediv_of_dvd]
    · rw [h1]; exact Nat.div_le_self _ _
    · exact Int.dvd_trans (Int.gcd_dvd_right _ _) (Int.dvd_mul_left _ _)
theorem div_den_le (a : Int) (u : Int) (h : u ≠ 0) : (Rat.divInt a u).den ≤ u.natAbs := by
  rw [Rat.den_divInt, if_neg h]
  exact Nat.div_le_self _ _
theorem Bz.div {B : Nat} {a u : Int} (h : u ≠ 0) (ha : a.natAbs < 2 ^ B) (hu : u.natAbs < 2 ^ B) : Bz B (Rat.divInt a u) := ⟨Nat.lt_of_le_of_lt (div_num_le a u) ha, Nat.lt_of_le_of_lt (div_den_le a u h) hu⟩
end DL
namespace DL
theorem rat_den_pos (q : Rat) : (0 : Int) < q.den := by have := q.den_pos; omega
theorem rat_den_ne (q : Rat) : (q.den : Int) ≠ 0 := by have := q.den_pos; omega
theorem rat_gcd (q : Rat) : Int.gcd q.num q.den = 1 := by
  have h := q.reduced
  unfold Nat.Coprime at h
  unfold Int.gcd
  simpa using h
theorem rat_div_self (q : Rat) : Rat.divInt q.num q.den = q := Rat.num_divInt_den q
theorem rat_add (p q : Rat) : p + q = Rat.divInt (p.num * q.den + q.num * p.den) (p.den * q.den) := by
  conv => lhs; rw [← Rat.num_divInt_den p, ← Rat.num_divInt_den q]
  rw [Rat.divInt_add_divInt _ _ (rat_den_ne p) (rat_den_ne q)]
theorem rat_mul (p q : Rat) : p * q = Rat.divInt (p.num * q.num) (p.den * q.den) := by
  conv => lhs; rw [← Rat.num_divInt_den p, ← Rat.num_divInt_den q]
  rw [Rat.divInt_mul_divInt]
theorem rat_div (p q : Rat) : p / q = Rat.divInt (p.num * q.den) (p.den * q.num) := by
  rw [Rat.div_def, Rat.inv_def]
  conv => lhs; rw [← Rat.num_divInt_den p]
  rw [Rat.divInt_mul_divInt]
theorem sgn_eq {u : Int} (h : u ≠ 0) : (if u < 0 then (-1 : Int) else 1) = u.sign := by
  by_cases hu : u < 0
  · rw [if_pos hu, Int.sign_eq_neg_one_of_neg hu]
  · rw [if_neg hu, Int.sign_eq_one_of_pos (by omega)]
theorem top_eq {a u : Int} (h : u ≠ 0) : (if u < 0 then (-1 : Int) else 1) * a / (Int.gcd a u : Int) = (Rat.divInt a u).num := by
  rw [Rat.num_divInt, sgn_eq h, Int.gcd_comm]
theorem bot_eq {a u : Int} (h : u ≠ 0) : (if u < 0 then (-1 : Int) else 1) * u / (Int.gcd a u : Int) = ((Rat.divInt a u).den : Int) := by
  rw [Rat.den_divInt, if_neg h, sgn_eq h, Int.gcd_comm]
  have e : u.sign * u = (u.natAbs : Int) := Int.sign_mul_self u
  rw [e]
  rfl
theorem gcd_pos {a u : Int} (h : u ≠ 0) : (0 : Int) < (Int.gcd a u : Int) := by
  have := Int.gcd_pos_of_ne_zero_right a h
  omega
theorem gcd_lt {a u : Int} {B : Nat} (h : u ≠ 0) (hu : u.natAbs < 2 ^ B) : ((Int.gcd a u : Int)).natAbs < 2 ^ B := by
  refine Nat.lt_of_le_of_lt ?_ hu
  show Int.gcd a u ≤ _
  have : Int.gcd a u ∣ u.natAbs := Int.ofNat_dvd.mp (by rw [Int.dvd_natAbs]; exact Int.gcd_dvd_right a u)
  exact Nat.le_of_dvd (by omega) this
theorem mul_lt {B C : Nat} {x y : Int} (hx : x.natAbs < 2 ^ B) (hy : y.natAbs < 2 ^ C) : (x * y).natAbs < 2 ^ (B + C) := L2.wide_lt hx hy
theorem add_lt {B : Nat} {x y : Int} (hx : x.natAbs < 2 ^ B) (hy : y.natAbs < 2 ^ B) : (x + y).natAbs < 2 ^ (B + 1) := by
  have := Int.natAbs_add_le x y
  rw [Nat.pow_succ]
  omega
theorem den_lt {B : Nat} {q : Rat} (h : Bz B q) : ((q.den : Int)).natAbs < 2 ^ B := h.d
theorem Bz.add {B : Nat} {p q : Rat} (hp : Bz B p) (hq : Bz B q) : Bz (2 * B + 1) (p + q) := by
  rw [rat_add]
  have e : 2 * B + 1 = B + B + 1 := by omega
  rw [e]
  refine Bz.div ?_ ?_ ?_
  · exact Int.mul_ne_zero (rat_den_ne p) (rat_den_ne q)
  · exact add_lt (mul_lt hp.n (den_lt hq)) (mul_lt hq.n (den_lt hp))
  · exact Nat.lt_of_lt_of_le (mul_lt (den_lt hp) (den_lt hq)) (Nat.pow_le_pow_right (by decide) (by omega))
theorem Bz.mul {B : Nat} {p q : Rat} (hp : Bz B p) (hq : Bz B q) : Bz (2 * B) (p * q) := by
  rw [rat_mul]
  have e : 2 * B = B + B := by omega
  rw [e]
  exact Bz.div (Int.mul_ne_zero (rat_den_ne p) (rat_den_ne q)) (mul_lt hp.n hq.n) (mul_lt (den_lt hp) (den_lt hq))
theorem Bz.over {B : Nat} {p q : Rat} (h : q ≠ 0) (hp : Bz B p) (hq : Bz B q) : Bz (2 * B) (p / q) := by
  rw [rat_div]
  have e : 2 * B = B + B := by omega
  rw [e]
  refine Bz.div (Int.mul_ne_zero (rat_den_ne p) ?_) (mul_lt hp.n (den_lt hq)) (mul_lt (den_lt hp) hq.n)
  exact fun z => h (Rat.num_eq_zero.mp z)
theorem Bz.one : Bz 1 1 := ⟨by decide, by decide⟩
theorem Bz.zero : Bz 1 0 := ⟨by decide, by decide⟩
theorem num_nonneg {q : Rat} : 0 ≤ q.num ↔ 0 ≤ q := Rat.num_nonneg
theorem share_pos {r l : Rat} (hr : 0 ≤ r) (hl : 0 ≤ l) : 0 < 1 + r * l := by
  have := Rat.mul_nonneg hr hl
  grind
theorem gcd_step {u v : Int} (hu : 0 ≤ u) (hv : 0 < v) : Int.gcd v (u % v) = Int.gcd u v := by
  obtain ⟨a, rfl⟩ := Int.eq_ofNat_of_zero_le hu
  obtain ⟨b, rfl⟩ := Int.eq_ofNat_of_zero_le (Int.le_of_lt hv)
  have e : ((a : Int) % (b : Int)) = ((a % b : Nat) : Int) := by simp
  rw [e]
  show Nat.gcd b (a % b) = Nat.gcd a b
  rw [Nat.gcd_comm b, Nat.gcd_comm a b]
  exact (Nat.gcd_rec b a).symm
end DL
namespace DL
open PySem PySem.Spec PyProof.Rows L2
section
variable {Cs : Nat → Addr} {F : Addr → Prop} {X : Cx} {ρ : Env} {M : Mem} {a b c e : Expr} {es : List Expr} {pos p apos : Pos} {Φ : D → Mem → Prop} {E : DE} {x y z : Str}
/-- x, y, z = a, b, c -/
theorem ws_par3 {px py pz pt pt2 : Pos} {kt k2 : Nat} (i j l : Nat) (hc : X.calm = true) (hN : X.N.Nodup) (hi : X.N[i]? = some x) (hj : X.N[j]? = some y) (hl : X.N[l]? = some z) (hij : i ≠ j) (hil : i ≠ l) (hjl : j ≠ l)
    (hx : X.env.scope.names.lookup x = some .local) (hy : X.env.scope.names.lookup y = some .local) (hz : X.env.scope.names.lookup z = some .local)
    (hw : swappedStores [.Tuple [.Name x px, .Name y py, .Name z pz] kt pt] (.Tuple [a, b, c] k2 pt2) X.env = pure (some [x, y, z]))
    (h : WA Cs X [a, b, c] ρ M fun ds M1 => ∃ d1 d2 d3, ds = [d1, d2, d3] ∧ E.nx (((ρ.set i (some d1)).set j (some d2)).set l (some d3)) M1)
    (hs : swapsWithSole [.Tuple [.Name x px, .Name y py, .Name z pz] kt pt] (.Tuple [a, b, c] k2 pt2) pos.line X.env = pure false := by rfl) : WS Cs X (.Assign [.Tuple [.Name x px, .Name y py, .Name z pz] kt pt] (.Tuple [a, b, c] k2 pt2) pos) ρ M E :=
  .mk fun F σ H A Dn k => (ps_par3 hc hN hi hj hl hij hil hjl hx hy hz pa_sem hw hs).sem (h.run _ σ H A _ fun vs ds H1 M1 p1 m1 r1 h1 => by
    obtain ⟨d1, d2, d3, rfl, h1⟩ := h1
    cases r1 with
    | cons r1 rr =>
      cases rr with
      | cons r2 rr =>
        cases rr with
        | cons r3 rr =>
          cases rr
          exact ⟨_, _, _, rfl, k.nx _ _ H1 M1 p1 ((((A.go p1 m1).set i r1).set j r2).set l r3) h1⟩)
/-- an owned list is frozen -/
theorem frz {H : Hp} {q : Addr} {ds : List D} (m : MemAt Cs F M H) (hM : M q = some (.lst ds)) : Post M H (era M q) H ∧ MemAt Cs F (era M q) H ∧ Rep Cs (Zf F (era M q)) H (.ref q) (.lst ds) := by
  have p3 : Post M H (era M q) H := Post.sub fun b hb => by
    by_cases e1 : b = q
    · rw [e1, era_same] at hb; exact absurd rfl hb
    · rw [era_ne e1] at hb; exact hb
  obtain ⟨vs, e, r⟩ := m.at_ q _ hM
  refine ⟨p3, m.go p3 fun b nn hb => ?_, .lst (fun z => ?_) (.inl e) (r.go p3)⟩
  · have b1 : b ≠ q := fun z => by rw [z, era_same] at hb; cases hb
    rw [era_ne b1] at hb
    refine .inl ⟨hb, fun _ z => z, fun c' dx' os' z => ⟨fun _ z => z, ?_⟩⟩
    subst z
    have w := (m.at_ b _ hb).2.1
    rw [era_ne (fun z => by rw [z, hM] at w; cases w)]
    exact w
  · rcases z with z | z
    · have := (m.ff q z).1
      rw [hM] at this; cases this
    · rw [era_same] at z; exact z rfl
theorem we_frz (h : WE Cs X e ρ M fun d M1 => ∃ q ds, d = .ref q ∧ M1 q = some (.lst ds) ∧ Φ (.lst ds) (era M1 q)) : WE Cs X e ρ M Φ :=
  .mk fun F σ H A Q k => h.run F σ H A Q fun v d H1 M1 p1 m1 r1 h1 => by
    obtain ⟨q, ds, rfl, hM, hΦ⟩ := h1
    cases r1
    obtain ⟨p3, m3, r3⟩ := frz m1 hM
    exact k _ _ H1 _ (p1.trans p3) m3 r3 hΦ
/-- the same for a name that holds it -/
theorem wss_frz {sts : List Stmt} {q : Addr} {ds : List D} (i : Nat) (hi : ρ[i]? = some (some (.ref q))) (hM : M q = some (.lst ds)) (h : WSs Cs X sts (ρ.set i (some (.lst ds))) (era M q) E) : WSs Cs X sts ρ M E :=
  .mk fun F σ H A Dn k => by
    obtain ⟨p3, m3, r3⟩ := frz A.mem hM
    obtain ⟨v, hv, rv⟩ := A.env i _ hi
    cases rv
    have A2 := (A.go p3 m3).set i r3
    have e : σ.set i (some (V.ref q)) = σ := by
      apply List.ext_getElem?
      intro j
      by_cases hj : i = j
      · subst hj
        rw [List.getElem?_set_self (List.getElem?_eq_some_iff.mp hv).1, hv]
      · rw [List.getElem?_set_ne hj]
    rw [e] at A2
    exact h.run F σ H A2 Dn (k.from p3)
end
/-! ### ratios -/
theorem rt_eqv (p q : Rat) : PyData.eqv (rt p).py (rt q).py = decide (p = q) := by
  have e : ∀ x : Rat, (rt x).py = .tuple [.int x.num, .int x.den] := fun x => by simp [rt, D.py, pys]
  have k : p = q ↔ p.num = q.num ∧ p.den = q.den := ⟨fun h => by rw [h]; exact ⟨rfl, rfl⟩, fun h => Rat.ext h.1 h.2⟩
  rw [e, e, Bool.eq_iff_iff, decide_eq_true_iff, k]
  simp [PyData.eqv, PyData.eqvAll]
  intro _
  exact Int.ofNat_inj
theorem rt_shaped (q : Rat) : SeqAt.shaped (rt q).py = true := by simp [rt, D.py, pys]; rfl
theorem rt_isPy (q : Rat) : (rt q).isPy = true := by simp [rt, D.isPy, arePy]
theorem div_le {a b c d : Rat} (hb : 0 < b) (hd : 0 < d) (h : a * d ≤ c * b) : a / b ≤ c / d := by
  apply Rat.not_lt.mp
  intro z
  have h1 : 0 < b * d := Rat.mul_pos hb hd
  have h2 := Rat.mul_lt_mul_of_pos_right z h1
  have e1 : c / d * (b * d) = c * b := by grind
  have e2 : a / b * (b * d) = a * d := by grind
  rw [e1, e2] at h2
  exact absurd h (Rat.not_le.mpr h2)
theorem div_eq {a b c d : Rat} (hb : 0 < b) (hd : 0 < d) : a / b = c / d ↔ a * d = c * b := by
  constructor
  · intro h
    have e1 : a / b * (b * d) = a * d := by grind
    have e2 : c / d * (b * d) = c * b := by grind
    rw [← e1, h, e2]
  · intro h
    have e1 : a / b = (a * d) / (b * d) := by grind
    have e2 : c / d = (c * b) / (b * d) := by grind
    rw [e1, e2, h]
theorem mul_le_r {a b c : Rat} (h : a ≤ b) (hc : 0 ≤ c) : a * c ≤ b * c := Rat.mul_le_mul_of_nonneg_right h hc
/-- whether v behind r is at least as strong as w behind s -/
def strong (v r w s : Rat) : Bool := !decide (v < w) && decide (w * r ≤ v * s)
theorem strong_iff {v r w s : Rat} : strong v r w s = true ↔ w ≤ v ∧ w * r ≤ v * s := by
  unfold strong
  simp [Rat.not_lt]
theorem strong_reads {v r w s l : Rat} (h : strong v r w s = true) (hr : 0 ≤ r) (hs : 0 ≤ s) (hl : 0 ≤ l) (pr : 0 < 1 + r * l) (ps : 0 < 1 + s * l) : w / (1 + s * l) ≤ v / (1 + r * l) := by
  obtain ⟨h1, h2⟩ := strong_iff.mp h
  apply div_le ps pr
  have h3 := mul_le_r h2 hl
  grind
theorem both_iff {v r w s : Rat} (h : strong v r w s = true) (hr : 0 ≤ r) (hs : 0 ≤ s) (hw : 0 ≤ w) (h1 : 0 < 1 + r * 0) (h2 : 0 < 1 + s * 0) (h3 : 0 < 1 + r * 1) (h4 : 0 < 1 + s * 1) (h5 : 0 < 1 + r * 2) (h6 : 0 < 1 + s * 2) :
    strong w s v r = (decide (v / (1 + r * 0) = w / (1 + s * 0)) && (decide (v / (1 + r * 1) = w / (1 + s * 1)) && (decide (v / (1 + r * 2) = w / (1 + s * 2)) && true))) := by
  obtain ⟨a1, a2⟩ := strong_iff.mp h
  rw [Bool.eq_iff_iff, strong_iff]
  simp only [Bool.and_eq_true, decide_eq_true_eq, div_eq h1 h2, div_eq h3 h4, div_eq h5 h6]
  constructor
  · rintro ⟨b1, b2⟩
    have e1 : v = w := Rat.le_antisymm b1 a1
    have e2 : v * s = w * r := Rat.le_antisymm b2 a2
    grind
  · rintro ⟨b1, b2, _⟩
    have e1 : v = w := by grind
    have e2 : v * s = w * r := by grind
    exact ⟨by grind, by grind⟩
theorem strong_trans {v r w s x t : Rat} (h1 : strong v r w s = true) (h2 : strong w s x t = true) (hv : 0 ≤ v) (hr : 0 ≤ r) (hw : 0 ≤ w) (hs : 0 ≤ s) (hx : 0 ≤ x) (ht : 0 ≤ t) : strong v r x t = true := by
  obtain ⟨a1, a2⟩ := strong_iff.mp h1
  obtain ⟨b1, b2⟩ := strong_iff.mp h2
  refine strong_iff.mpr ⟨Rat.le_trans b1 a1, ?_⟩
  have vt : 0 ≤ v * t := Rat.mul_nonneg hv ht
  by_cases hs0 : s = 0
  · subst hs0
    have wr : w * r = 0 := by
      have := Rat.mul_nonneg hw hr
      grind
    rcases Rat.mul_eq_zero.mp wr with z | z
    · have x0 : x = 0 := Rat.le_antisymm (by rw [z] at b1; exact b1) hx
      rw [x0, Rat.zero_mul]; exact vt
    · rw [z, Rat.mul_zero]; exact vt
  · have sp : 0 < s := Rat.lt_of_le_of_ne hs (Ne.symm hs0)
    apply Rat.not_lt.mp
    intro z
    have z2 := Rat.mul_lt_mul_of_pos_right z sp
    have c1 := mul_le_r b2 hr
    have c2 := mul_le_r a2 ht
    grind
end DL
namespace DL
open PySem PySem.Spec PyProof.Rows L2
section
variable {Cs : Nat → Addr} {F : Addr → Prop} {X : Cx} {ρ : Env} {M : Mem} {a b c e elt tg : Expr} {es : List Expr} {pos p apos spos py : Pos} {Φ : D → Mem → Prop} {scope : Scope} {vs : List Nat} {step : D → Env → (Env → Prop) → Prop} {g : TG} {E : DE} {y : Str}
/-- name = [elt for tg in tuple], on one line -/
theorem ws_setT {own : List (Str × Nat)} (i : Nat) (hc : X.calm = true) (hN : X.N.Nodup) (hy : X.N[i]? = some y) (hyl : X.env.scope.names.lookup y = some .local) (hsw : swapsWith (.ListComp elt [⟨tg, e, [], 0⟩] scope pos) (some (.Name y py)) spos.line X.env = pure true) (ok : BlkOk X.N X.env.scope scope own)
    (hG : ∀ (s : Shared) (H : Hp) (C : Addr) (cl : List (Str × Addr)) (fp : List Addr), PG (bX X scope s H C cl fp) tg g) (tgr : TgR Cs g (own.map (·.2)) step)
    (h : WE Cs X e ρ M fun x M1 => ∃ ds, x = .tup ds ∧ LcI Cs X scope elt (own.map (·.2)) step ds ρ M1 fun d M2 => E.nx (ρ.set i (some d)) M2)
    (hs : ∀ x, foldedSetIterable e X.env x = pure x := by intro _; rfl) : WS Cs X (.Assign [.Name y py] (.ListComp elt [⟨tg, e, [], 0⟩] scope pos) spos) ρ M E :=
  .mk fun F σ H A Dn k => (ps_setLc hc hN hy hyl hsw (pi_tup pe_sem) ok hG (fun _ _ _ _ _ => pts_nil) pe_semB hs).sem (h.run _ σ H A _ fun v d H1 M1 p1 m1 r1 h1 => by
    obtain ⟨ds, rfl, hl, I, h0, ht, hd⟩ := h1
    cases r1 with
    | @tup al vl _ hz hr rs =>
      have A1 := A.go p1 m1
      have kk : Res Cs F M1 H1 (fun d M2 => E.nx (ρ.set i (some d)) M2) fun x H2 => gName i x σ H2 Dn.nx := fun v d H' M' p m r h => k.nx _ _ H' M' (p1.trans p) ((A1.go p m).set i r) h
      refine ⟨_, rfl, ⟨_, .inl hr⟩, fun q hq => lc_tup (xs := vl) (LcP Cs F M1 H1 q I) (lc_start m1 hq h0) ?_ ?_ fun H' h' => lc_end m1 hq kk h' (by rw [rs.length]; exact hd)⟩
      · rintro i H' _ ⟨acc, ws, M', p', _⟩
        exact .inl (rd_ex p' hz hr).1
      · intro i x H' hi h'
        obtain ⟨d, hd', rd⟩ := rs.getV hi
        have hn := (List.getElem?_eq_some_iff.mp hd').1
        refine lc_turn A1 hq tgr (by omega) h' (d := d) (fun M' p' => ?_) (fun acc M' hl' hi2 => ht i d acc M' hd' hl' hi2)
        exact ((rd.avoid hq (Z' := Zf (Hid F q) M1) fun _ => zf_hid).go p'))
/-- name = [elt for tg in list], on one line -/
theorem ws_setL {own : List (Str × Nat)} (i : Nat) (hc : X.calm = true) (hN : X.N.Nodup) (hy : X.N[i]? = some y) (hyl : X.env.scope.names.lookup y = some .local) (hsw : swapsWith (.ListComp elt [⟨tg, e, [], 0⟩] scope pos) (some (.Name y py)) spos.line X.env = pure true) (ok : BlkOk X.N X.env.scope scope own)
    (hG : ∀ (s : Shared) (H : Hp) (C : Addr) (cl : List (Str × Addr)) (fp : List Addr), PG (bX X scope s H C cl fp) tg g) (tgr : TgR Cs g (own.map (·.2)) step)
    (h : WE Cs X e ρ M fun x M1 => ∃ ds, x = .lst ds ∧ LcI Cs X scope elt (own.map (·.2)) step ds ρ M1 fun d M2 => E.nx (ρ.set i (some d)) M2)
    (hs : ∀ x, foldedSetIterable e X.env x = pure x := by intro _; rfl) : WS Cs X (.Assign [.Name y py] (.ListComp elt [⟨tg, e, [], 0⟩] scope pos) spos) ρ M E :=
  .mk fun F σ H A Dn k => (ps_setLc hc hN hy hyl hsw (pi_list pe_sem) ok hG (fun _ _ _ _ _ => pts_nil) pe_semB hs).sem (h.run _ σ H A _ fun v d H1 M1 p1 m1 r1 h1 => by
    obtain ⟨ds, rfl, hl, I, h0, ht, hd⟩ := h1
    cases r1 with
    | @lst al vl _ hz hr rs =>
      have A1 := A.go p1 m1
      have kk : Res Cs F M1 H1 (fun d M2 => E.nx (ρ.set i (some d)) M2) fun x H2 => gName i x σ H2 Dn.nx := fun v d H' M' p m r h => k.nx _ _ H' M' (p1.trans p) ((A1.go p m).set i r) h
      refine ⟨_, rfl, ⟨_, .inl hr⟩, fun q hq => lc_list (xs := vl) (LcP Cs F M1 H1 q I) (lc_start m1 hq h0) ?_ ?_ fun H' h' => lc_end m1 hq kk h' (by rw [rs.length]; exact hd)⟩
      · rintro i H' _ ⟨acc, ws, M', p', _⟩
        exact .inl (rd_ex p' hz hr).1
      · intro i x H' hi h'
        obtain ⟨d, hd', rd⟩ := rs.getV hi
        have hn := (List.getElem?_eq_some_iff.mp hd').1
        refine lc_turn A1 hq tgr (by omega) h' (d := d) (fun M' p' => ?_) (fun acc M' hl' hi2 => ht i d acc M' hd' hl' hi2)
        exact ((rd.avoid hq (Z' := Zf (Hid F q) M1) fun _ => zf_hid).go p'))
end
end DL
namespace DL
open PySem PySem.Spec PyProof.Rows L2
/-! ### the end of a law -/
/-- none of the top's own objects is a list -/
def noL (K : PySem.W.Frag) : Bool := K.all fun p => match p.2.cls with | .type n => !decide (n = "list") | _ => true
theorem noL_ok {K : PySem.W.Frag} (h : noL K = true) {a : Addr} {o : Obj} (e : K.lookup a = some o) : o.cls ≠ .type "list" := fun z => by
  have m : ∃ p ∈ K, p.2 = o := by
    clear h
    induction K with
    | nil => cases e
    | cons p K ih =>
      obtain ⟨b, o'⟩ := p
      rw [List.lookup_cons] at e
      split at e
      · cases e; exact ⟨_, List.mem_cons_self, rfl⟩
      · obtain ⟨p, h1, h2⟩ := ih e
        exact ⟨p, List.mem_cons_of_mem _ h1, h2⟩
  obtain ⟨p, h1, h2⟩ := m
  have w := List.all_eq_true.mp h p h1
  rw [h2, z] at w
  simp at w
def obsN (fa : List Fc) (fn : List He5.DefA) (K : PySem.W.Frag) : He.AlD := ((noL K && (Fc.glo "law").ok K) && (obsC fa fn K).1, (obsC fa fn K).2)
def SaysN (fa : List Fc) (fn : List He5.DefA) (K : PySem.W.Frag) : Prop := obsN fa fn K = valC fn
def obsNG (n : Nat) (fa : List Fc) (fn : List He5.DefA) (g : Addr → Option Obj) : He.AlD := obsN fa fn (He.frG g (He5.asA g n))
def hookN (n : Nat) (fa : List Fc) (fn : List He5.DefA) : PySem.W.Hook where
  α := He.AlD
  obs := fun s => obsNG n fa fn s.heap.get?
  val := fun _ => valC fn
  says := fun _ h => ∃ K : PySem.W.Frag, K.In h ∧ SaysN fa fn K
  of := fun _ _ e => ⟨_, He.frG_in, e⟩
  keeps := fun _ _ _ ⟨K, hK, c⟩ k => ⟨K, PySem.W.Frag.In.keeps hK k, c⟩
theorem obsNG_eq {n : Nat} {fa : List Fc} {fn : List He5.DefA} {g : Addr → Option Obj} {s : Shared} (h : ∀ a, g a = s.heap.get? a) : obsNG n fa fn g = (hookN n fa fn).obs s := by
  have e : g = s.heap.get? := funext h
  rw [e] <;> rfl
theorem SaysN.says {fa : List Fc} {fn : List He5.DefA} {K : PySem.W.Frag} (c : SaysN fa fn K) : noL K = true ∧ (Fc.glo "law").ok K = true ∧ SaysC fa fn K := by
  have c1 := He.ba (show ((noL K && (Fc.glo "law").ok K) && (obsC fa fn K).1) = true from congrArg (fun z : He.AlD => z.1) c)
  have c2 : (obsN fa fn K).2 = (valC fn).2 := congrArg (fun z : He.AlD => z.2) (show obsN fa fn K = valC fn from c)
  refine ⟨(He.ba c1.1).1, (He.ba c1.1).2, ?_⟩
  show obsC fa fn K = valC fn
  exact Prod.ext c1.2 c2
theorem room0 : Rm 60 callerA := ⟨⟨rfl, by decide, by decide⟩, rfl⟩
/-- the call of a law, by its promise on data -/
theorem law_D {P : Program} {w : World} {K : PySem.W.Frag} {mg mb : Str → Option Value} {Cs : Nat → Addr} {k : Nat} {fa a : Addr} {S : FS} {s₁ : Shared} {vs : List Value} {ns : List Int}
    (KX : K.In s₁.heap) (hno : noL K = true) (hns : s₁.heap.Ns mainGlobals mg) (hb : s₁.heap.Ns builtinsNs mb) (hbb : ∀ x : Str, x ≠ "__name__" → mb x = bootBuiltins x) (hlim : s₁.heap.NoLimit) (hg : s₁.gens = #[])
    (ha : s₁.heap.get? a = some { cls := .type "list", data := .seq vs.toArray }) (hi : IntsAre vs ns) (hl : ns.length ≤ sizeLine) (hr : Rm k callerA)
    (F : ∀ base : Heap, FnG P w K mg base CX0 k fa (spD Cs S))
    (hsp : S [.lst (ns.map D.int)] (fun _ => none) fun d _ => d = .bl true) :
    codeAny (model P w) callerA (.call (.ref fa) ⟨[.ref a], []⟩) (fun r s' => r = .ok (.ret (.bool true)) ∧ OldK s₁.heap s'.heap ∧ s'.os = s₁.os ∧ AllBare s'.gens) s₁ := by
  have rv := vals_ints hi
  have hk : K.lookup a = none := by
    cases hk : K.lookup a with
    | none => rfl
    | some o =>
      have e := KX a o hk
      rw [ha] at e
      cases e
      exact absurd rfl (noL_ok hno hk)
  generalize hO : ({ cls := .type "list", data := .seq vs.toArray } : Obj) = ob at ha
  let H : Hp := fun b => if b = a then some (.frz ob (.lst (ns.map V.int))) else none
  have Ha : H a = some (.frz ob (.lst (ns.map V.int))) := if_pos rfl
  have Hn : ∀ {b}, b ≠ a → H b = none := fun h => if_neg h
  have nsK : ∀ {b : Addr} {m : Str → Option Value}, s₁.heap.Ns b m → (hidT s₁.heap H).Ns b m := fun {b m} ⟨o, es, ep, e, d, r⟩ => ⟨o, es, ep, hidT_get e (Hn fun z => by
    subst z
    rw [ha] at e; cases e
    rw [← hO] at d
    have d' : Data.seq vs.toArray _ = Data.dict es ep := d
    cases d'), d, r⟩
  have hKb : K.In (hidT s₁.heap H) := fun b o e => hidT_get (KX b o e) (Hn fun z => by subst z; rw [hk] at e; cases e)
  have hok : HOk P w H s₁.heap := fun b u z => by
    by_cases hb : b = a
    · subst hb
      rw [Ha] at z
      cases z
      exact ⟨ha, by rw [List.length_map]; exact hl, vs, _, rv, by rw [ha, ← hO]⟩
    · rw [Hn hb] at z; cases z
  have hM : Mod K mg (hidT s₁.heap H) := ⟨hKb, nsK hns, ⟨mb, nsK hb, hbb⟩, let ⟨mc, h1, h2⟩ := hlim; ⟨mc, nsK h1, h2⟩⟩
  have e0 : Env0 P w K mg (hidT s₁.heap H) callerA [] s₁ H := ⟨rfl, hM, fun b o e => of_hidT e, Nat.le_of_eq (hidT_size _ _), trivial, fun b hb => absurd (show b ∈ ([] : List Addr) from hb) (by simp), hok, .of_eq hg⟩
  have rs : ∀ (l : List Int), Reps Cs (Zf (fun _ => False) fun _ => none) H (l.map V.int) (l.map D.int) := fun l => by
    induction l with
    | nil => exact .nil
    | cons i l ih => exact .cons (.int i) ih
  have mem : MemAt Cs (fun _ => False) (fun _ => none) H := ⟨fun _ _ z => (nomatch z), fun _ z => z.elim⟩
  refine codeAny_mono (F _ callerA [] s₁ H [.ref a] [.ref a] (fun v _ => v = .bl true) E0 hr e0 (.cons rfl .nil) ⟨fun _ => False, _, _, _, mem, .cons (.lst (fun z => z.elim id fun y => y rfl) (.inr ⟨ob, Ha⟩) (rs ns)) .nil, hsp, fun v d H' M' _ _ r e => by subst e; cases r; rfl⟩) fun r s' h => ?_
  cases r with
  | error e => exact h.elim
  | ok fl =>
    cases fl with
    | next => exact False.elim h
    | brk => exact False.elim h
    | cont => exact False.elim h
    | ret u =>
      obtain ⟨v, H', os, bare, un, hok', r', q⟩ := h
      have q' : v = .bl true := q
      subst q'
      obtain rfl : u = Value.bool true := r'
      refine ⟨rfl, OldK.of_keep fun b o e => ?_, os, bare⟩
      by_cases hb : b = a
      · subst hb
        obtain ⟨e2, _⟩ := hok' b _ (un.frzs b ob _ Ha)
        rw [ha] at e; cases e
        exact e2
      · exact un.keep b o e (Hn hb) (by intro z; exact absurd (show b ∈ ([] : List Addr) from z) (by simp)) (by simp)
/-- what a head leaves, by the law's promise on data -/
theorem walk_D {l : PySem.W.OpenLaw} {n k : Nat} {q : Program} {loose : List Str} {XP : (Str → Option Value) → Heap → Prop} {fas : List Fc} {fns : List He5.DefA} {d : DefRec} {S : FS} {Cs : PySem.W.Frag → Nat → Addr}
    (hn : l.most = some n) (hn2 : n ≤ sizeLine) (hdf : d.params.defaults = []) (hname : d.name = ("law" : Str)) (hr : Rm k callerA)
    (F : ∀ (w : World) (K : PySem.W.Frag) (mg : Str → Option Value) (h base : Heap), K.In h → h.Ns mainGlobals mg → SaysC fas fns K → FnG l.prog w K mg base CX0 k (He.ga K "law") (spD (Cs K) S))
    (hsp : ∀ ns : List Int, ns.length ≤ n → S [.lst (ns.map D.int)] (fun _ => none) fun d _ => d = .bl true) :
    PySem.W.WalkO q loose XP (fun _ h => ∃ K : PySem.W.Frag, K.In h ∧ SaysN fas fns K) l.row.toRowW d [] (fun f vs => PySem.call f vs) := by
  refine Att.attach_call hn hdf fun w s₀ s₁ mg mb fa o pm cd doc a vs ns G Y ho hd hcd hmg hobj hints hlen hg => ?_
  obtain ⟨K, KX, c⟩ := Y
  obtain ⟨c1, c3, c2⟩ := c.says
  have e := (Fc.glo_ok KX G.T.g c3).1
  rw [hname] at hmg
  rw [hmg] at e
  obtain rfl : fa = He.ga K "law" := by cases e; rfl
  exact law_D KX c1 G.T.g G.T.b G.T.builtins G.T.nolimit hg hobj hints (Nat.le_trans hlen hn2) hr (fun base => F w K mg _ base KX G.T.g c2) (hsp ns hlen)
end DL
namespace DL
open PySem PySem.Spec PyProof.Rows L2
/-! ### != by an own ==, and products with an int -/
section
variable {M : Model} {A : Around} {Er : Value → Shared → Prop} {s : Shared} {K : PySem.W.Frag} {x C f : Addr} {y : Value} {ox : Obj} {od : Option Obj}
theorem ne_entry (hK : K.In s.heap) (J : PySem.W.InstAt s.heap x ox C od) (hs : PySem.W.findIn K (.ref C) "__eq__" = some (some (.ref f))) (hf : PySem.W.isFn K (.ref f) = true) (hu : A.units < cLine) {Q : Fin → Shared → Prop}
    (h : wpAny M A (call (.ref f) [.ref x, y]) (fun v s' => ∃ t, v = .bool t ∧ Q (.done (.ret (.bool (!t)))) s') Er s) : wpAny M A (Builtin.«object.__ne__» ⟨[.ref x, y], []⟩) Q Er s := by
  unfold Builtin.«object.__ne__»
  repeat (first
    | with_reducible refine wpAny_cRoomFor hu ?_
    | (refine wpAny_bind (m := callSpecialIfBound? (.ref x) (Str.ofString "__eq__") [y]) (PySem.W.ifBound_K hK J hs hf (wpAny_mono h (fun r s' hr => by
          obtain ⟨t, rfl, hq⟩ := hr
          repeat (first | exact hq | exact wpAny_pure hq | exact wpAny_truthy_bool hq | (refine wpAny_bind (m := truthy (.bool _)) (wpAny_truthy_bool ?_)) | wp_step)) fun _ _ z => z)))
    | wp_step)
theorem ifB {id : String} {name : Str} {args : List Value} {Q : Option Value → Shared → Prop} (hK : K.In s.heap) (J : PySem.W.InstAt s.heap x ox C od) (hs : PySem.W.findIn K (.ref C) name = some (some (.builtin id))) (hb : ∀ v, bindSpecial (.builtin id) v = pure (.builtin id, [v]))
    (h : wpAny M A (call (.builtin id) (.ref x :: args)) (fun v => Q (some v)) Er s) : wpAny M A (callSpecialIfBound? (.ref x) name args) Q Er s := by
  simp only [callSpecialIfBound?, bindSpecialIfBound?]
  refine wpAny_holding (wpAny_bind (wpAny_bind (wpAny_bind (J.type.here ((PySem.W.looks_findIn hK hs).here ?_)))))
  simp only [hb]
  refine wpAny_bind (wpAny_askSetting (wpAny_ite ?_))
  have last : wpAny M A (call (.builtin id) ([.ref x] ++ args) >>= fun v => pure (some v)) Q Er s := wpAny_bind (wpAny_mono h (fun v s' z => wpAny_pure z) fun _ _ z => z)
  split
  · exact wpAny_bind (wpAny_pure (wpAny_pure last))
  · exact wpAny_tryCatch (wpAny_bind (wpAny_pure (wpAny_pure last)))
end
section
variable {X : Cx} {pins : List (Addr × Obj)} {σ : L2.St} {H : Hp} {s : Shared} {Q : VK} {CX : CXT} {E : XK} {C g : Addr} {k : Nat} {sp : Sp}
theorem ne_g {a b dx dy : Addr} {vs ws : List (Option V)} (hne : PySem.W.findIn X.K (.ref C) "__ne__" = some (some (.builtin "object.__ne__"))) (hob : PySem.W.mroIn X.K C (.type "object") = some true)
    (hs : PySem.W.findIn X.K (.ref C) "__eq__" = some (some (.ref g))) (hf : PySem.W.isFn X.K (.ref g) = true) (F : FnG X.prog X.w X.K X.mg X.base CX k g sp) (hr : Rm (k + 1) X.A)
    (hx : ∀ (H : Hp) (s : Shared) (e : Value) (s' : Shared), CX X.stack H s E e s' → False) (I : Inv X pins σ H s) (ha : SlX.Slt H a C dx vs) (hb : SlX.Slt H b C dy ws) (q : sp [.ref a, .ref b] H (fun v H' => ∃ t, v = .bl t ∧ Q (.bl (!t)) H') E) :
    wpAny (model X.prog X.w) X.A (compareOp .NotEq (.ref a) (.ref b)) (EP X pins σ Q) X.xe s := by
  obtain ⟨sl, od, _, J, _⟩ := SlX.slt_inst I ha
  obtain ⟨sl', od', _, J', _⟩ := SlX.slt_inst I hb
  have inner : wpAny (model X.prog X.w) X.A.in1 (call (.ref g) [.ref a, .ref b]) (fun v s' => ∃ t, v = .bool t ∧ EP X pins σ Q (.bool (!t)) s') X.xe s := by
    refine wpAny_call (codeAny_mono (F X.A.in1 X.stack s H [.ref a, .ref b] [.ref a, .ref b] _ E hr.in1 I.env0.in1 (.cons rfl (.cons rfl .nil)) q) fun r s' hq => ?_)
    cases r with
    | error e => exact (hx _ _ _ _ hq).elim
    | ok fl =>
      cases fl with
      | ret u =>
        obtain ⟨v, H', I2, rv, t, rfl, q2⟩ := I.after hq
        obtain rfl : u = Value.bool t := rv
        exact ⟨t, rfl, .bl (!t), H', I2, rfl, q2⟩
      | next => exact False.elim hq
      | brk => exact False.elim hq
      | cont => exact False.elim hq
  have hi : PySem.W.Looks (model X.prog X.w) s.heap (isInstance (.ref a) (.type "object")) true := J.type.andThen (PySem.W.looks_mroIn I.kIn hob)
  have one : wpAny (model X.prog X.w) X.A (tryCompare (.ref a) "__ne__" (.ref b)) (fun r s' => ∃ v, r = some v ∧ EP X pins σ Q v s') X.xe s := by
    unfold tryCompare
    refine wpAny_bind (ifB I.kIn J hne PySem.F.cmp_object.ne.bind (wpAny_call (codeAny_call_builtin PySem.F.cmp_object.ne.plain PySem.F.cmpEntry_ne (PySem.W.check_slot PySem.F.cmpKind_ne PySem.F.cmpSplit_ne hi (PySem.F.cmpArgs_ne _ _)
      (ne_entry (A := X.A.in1) I.kIn J hs hf hr.in1.rm.units0 (wpAny_mono inner (fun v s' hv => ?_) fun _ _ z => z))))))
    obtain ⟨t, rfl, hq⟩ := hv
    exact ⟨t, rfl, wpAny_pure ⟨_, rfl, hq⟩⟩
  show wpAny _ _ (richCompare .NotEq (.ref a) (.ref b)) _ _ _
  unfold richCompare
  simp only [oneThing_ref]
  refine wpAny_holding (wpAny_bind (wpAny_cRoomFor hr.rm.units0 ?_))
  refine wpAny_bind (J.type.here (wpAny_bind (J'.type.here ?_)))
  rw [show (Value.ref C != Value.ref C) = false from by simp]
  simp only [Bool.false_eq_true, if_false]
  refine wpAny_bind (wpAny_pure ?_)
  simp only [Bool.false_eq_true, if_false]
  refine wpAny_bind (wpAny_mono one (fun r s' z => ?_) fun _ _ z => z)
  obtain ⟨v, rfl, hq⟩ := z
  exact wpAny_pure hq
end
section
variable {X : Cx} {pins : List (Addr × Obj)} {σ : L2.St} {H : Hp} {s : Shared} {Q : VK} {CX : CXT} {E : XK} {C g : Addr} {k : Nat} {sp : Sp}
/-- an instance times an int -/
theorem mulT_g {a dx gr : Addr} {vs : List (Option V)} {i : Int} {t : Tok} (hsf : PySem.W.selfFirst X.K C = true) (hs : PySem.W.findIn X.K (.ref C) "__mul__" = some (some (.ref g))) (hf : PySem.W.isFn X.K (.ref g) = true) (hr' : PySem.W.findIn X.K (.ref C) "__rmul__" = some (some (.ref gr)))
    (F : FnG X.prog X.w X.K X.mg X.base CX k g sp) (hr : Rm k X.A) (hx : Passes CX X E) (I : Inv X pins σ H s) (ha : SlX.Slt H a C dx vs) (q : sp [.ref a, .int i] H Q E) :
    wpAny (model X.prog X.w) X.A (binaryOp .Mult (.ref a) (.int i t)) (EP X pins σ Q) X.xe s := by
  obtain ⟨sl, od, _, J, _⟩ := SlX.slt_inst I ha
  obtain ⟨m, hF⟩ := I.fr
  refine PySem.W.ksp_binT (T := "int") (op := .Mult) (fo := some (.builtin "int.__mul__")) (ro := some (.builtin "int.__rmul__")) hF I.ok.mod.kin J rfl hsf hs hf hr' (.inr ⟨gr, rfl⟩) (by kernel_rfl) (by kernel_rfl) ?_ ?_
  · show (fastBuiltinMro "int").map (·.contains (Value.ref C)) = some false
    have e : fastBuiltinMro "int" = some [.type "int", .type "object"] := by kernel_rfl
    rw [e]
    simp
  · refine wpAny_mono (wpAny_call (run_g (us := [.ref a, .int i t]) (vs := [.ref a, .int i]) F hr hx I (.cons rfl (.cons ⟨t, rfl⟩ .nil)) q)) (fun w s' z => ?_) fun _ _ x => x
    obtain ⟨z', H', I', rz, qz⟩ := z
    exact SlX.cmpback rz ⟨z', H', I', rz, qz⟩
theorem int_declines {M : Model} {A : Around} {Er : Value → Shared → Prop} {a : Addr} {i : Int} {t : Tok} {ox : Obj} {R : Fin → Shared → Prop} (h : s.heap.get? a = some ox) (hd : ox.data = .plain) (q : R (.done (.ret .notImplemented)) s) :
    wpAny M A (Builtin.«int.__mul__» ⟨[.int i t, .ref a], []⟩) R Er s := by
  obtain ⟨hp, gg, d, tk, os⟩ := s
  unfold Builtin.«int.__mul__»
  repeat (first | with_reducible refine wpAny_load h ?_ | (with_reducible refine wpAny_loadPart_at h ?_) | wp_step)
  rw [hd]
  refine wpAny_pure ?_
  repeat (first | exact q | exact wpAny_pure q | wp_step)
/-- an int times an instance -/
theorem rmul_g {a dx g0 : Addr} {vs : List (Option V)} {i : Int} {t : Tok} (hsf : PySem.W.selfFirst X.K C = true) (hs : PySem.W.findIn X.K (.ref C) "__mul__" = some (some (.ref g0))) (hrs : PySem.W.findIn X.K (.ref C) "__rmul__" = some (some (.ref g))) (hf : PySem.W.isFn X.K (.ref g) = true)
    (hint : PySem.W.mroIn X.K C (.type "int") = some false) (F : FnG X.prog X.w X.K X.mg X.base CX k g sp) (hr : Rm k X.A) (hx : Passes CX X E) (I : Inv X pins σ H s) (ha : SlX.Slt H a C dx vs) (q : sp [.ref a, .int i] H Q E) :
    wpAny (model X.prog X.w) X.A (binaryOp .Mult (.int i t) (.ref a)) (EP X pins σ Q) X.xe s := by
  obtain ⟨sl, od, _, J, _⟩ := SlX.slt_inst I ha
  obtain ⟨cd, rest, hcd, hm⟩ := PySem.W.ksp_first hsf
  have two : wpAny (model X.prog X.w) X.A (tryMethod (.ref a) "__rmul__" (.int i t)) (fun r s' => ∃ v, r = some v ∧ EP X pins σ Q v s') X.xe s := by
    refine PySem.W.ksp_try I.kIn J hrs hf (wpAny_mono (wpAny_call (run_g (us := [.ref a, .int i t]) (vs := [.ref a, .int i]) F hr hx I (.cons rfl (.cons ⟨t, rfl⟩ .nil)) q)) (fun w s' z => ?_) fun _ _ x => x)
    obtain ⟨z', H', I', rz, qz⟩ := z
    exact SlX.cmpback rz ⟨z', H', I', rz, qz⟩
  have one : wpAny (model X.prog X.w) X.A (tryMethod (.int i t) "__mul__" (.ref a)) (fun r s' => r = none ∧ s' = s) X.xe s := by
    refine wpAny_tryMethod_declines (typeIs_int s i t) PySem.F.slot_int_mul (wpAny_call (codeAny_call_builtin PySem.F.slot_int_mul.plain PySem.F.entry_int_mul (PySem.F.slot_int_mul.check _ _ _ _ _ _ _ _ (typeIs_int s i t) (PySem.F.args_int_mul_2 _ _) ?_)))
    exact int_declines J.at_ rfl ⟨rfl, rfl, rfl⟩
  have L2 : PySem.W.Looks (model X.prog X.w) s.heap (typeOf (.ref a)) (.ref C) := J.type
  have L4 : PySem.W.Looks (model X.prog X.w) s.heap (fillsNumberSlot (.ref C) "mul") true := PySem.W.fills_K I.kIn hcd hm hs
  have L5 : PySem.W.Looks (model X.prog X.w) s.heap (isSubtype (.ref C) (.type "int")) false := PySem.W.looks_mroIn I.kIn hint
  show wpAny _ _ (binaryOp .Mult (.int i t) (.ref a)) _ _ _
  have hi : (Operator.Mult).info = ("*", "mul") := rfl
  simp only [binaryOp, hi]
  refine wpAny_holding (wpAny_bind ?_)
  unfold binaryOp1
  refine wpAny_bind (wpAny_typeOf (typeIs_int s i t) (wpAny_bind (L2.here (wpAny_bind (wpAny_of_eq PySem.F.fills_int_mul ?_)))))
  have hne : (Value.type "int" == Value.ref C) = false := Bool.eq_false_iff.mpr fun q => by cases beq_iff_eq.mp q
  simp only [hne, Bool.false_eq_true, if_false]
  refine wpAny_bind (L4.here ?_)
  simp only [Bool.and_self, if_true]
  refine wpAny_bind (L5.here ?_)
  have hpy : numberSlotInPython (.type "int") "mul" = pure false := rfl
  simp only [Bool.false_eq_true, if_false, pure_bind, Bool.not_false, Bool.and_self, if_true, hpy]
  refine wpAny_bind (wpAny_mono one (fun r s' z => ?_) fun _ _ z => z)
  obtain ⟨rfl, rfl⟩ := z
  refine wpAny_bind (wpAny_mono two (fun r s' z => ?_) fun _ _ z => z)
  obtain ⟨v, rfl, hq⟩ := z
  exact wpAny_bind (wpAny_rule (wpAny_pure (wpAny_pure hq)))
end
section
variable {Cs : Nat → Addr} {X : Cx} {M : Mem} {Φ : D → Mem → Prop}
theorem wo_ne {n k : Nat} {g : Addr} {S : FS} {ds es : List D} (hne : PySem.W.findIn X.K (.ref (Cs n)) "__ne__" = some (some (.builtin "object.__ne__"))) (hob : PySem.W.mroIn X.K (Cs n) (.type "object") = some true)
    (hs : PySem.W.findIn X.K (.ref (Cs n)) "__eq__" = some (some (.ref g))) (hf : PySem.W.isFn X.K (.ref g) = true) (Fn : FnD Cs X k g S) (hr : Rm (k + 1) X.A)
    (h : S [.obj n ds, .obj n es] M fun d M1 => ∃ t, d = .bl t ∧ Φ (.bl (!t)) M1) : WO Cs X (compareOp .NotEq) (.obj n ds) (.obj n es) M Φ := .mk fun F H vx vy m rx ry Q k pins s σ v u I rv ru => by
  obtain ⟨q, dx, ws, rfl, hsl, _⟩ := rep_slt rx
  obtain ⟨q', dx', ws', rfl, hsl', _⟩ := rep_slt ry
  cases rv; cases ru
  refine ne_g (E := E0) hne hob hs hf Fn hr (fun _ _ _ _ z => z) I hsl hsl' ⟨F, _, M, _, m, .cons rx (.cons ry .nil), h, fun v d H' M' p m' r z => ?_⟩
  obtain ⟨t, rfl, z⟩ := z
  cases r
  exact ⟨t, rfl, k _ _ H' M' p m' (.bl _) z⟩
theorem wo_mulT {n k : Nat} {g gr : Addr} {S : FS} {ds : List D} {i : Int} (hsf : PySem.W.selfFirst X.K (Cs n) = true) (hs : PySem.W.findIn X.K (.ref (Cs n)) "__mul__" = some (some (.ref g))) (hf : PySem.W.isFn X.K (.ref g) = true) (hr' : PySem.W.findIn X.K (.ref (Cs n)) "__rmul__" = some (some (.ref gr)))
    (Fn : FnD Cs X k g S) (hr : Rm k X.A) (h : S [.obj n ds, .int i] M Φ) : WO Cs X (binaryOp .Mult) (.obj n ds) (.int i) M Φ := .mk fun F H vx vy m rx ry Q k pins s σ v u I rv ru => by
  obtain ⟨q, dx, ws, rfl, hsl, _⟩ := rep_slt rx
  cases ry
  obtain ⟨t, rfl⟩ := ru
  cases rv
  exact mulT_g (E := E0) hsf hs hf hr' Fn hr pass0 I hsl ⟨F, _, M, Φ, m, .cons rx (.cons (.int i) .nil), h, k⟩
theorem wo_rmul {n k : Nat} {g g0 : Addr} {S : FS} {ds : List D} {i : Int} (hsf : PySem.W.selfFirst X.K (Cs n) = true) (hs : PySem.W.findIn X.K (.ref (Cs n)) "__mul__" = some (some (.ref g0))) (hrs : PySem.W.findIn X.K (.ref (Cs n)) "__rmul__" = some (some (.ref g))) (hf : PySem.W.isFn X.K (.ref g) = true)
    (hint : PySem.W.mroIn X.K (Cs n) (.type "int") = some false) (Fn : FnD Cs X k g S) (hr : Rm k X.A) (h : S [.obj n ds, .int i] M Φ) : WO Cs X (binaryOp .Mult) (.int i) (.obj n ds) M Φ := .mk fun F H vx vy m rx ry Q k pins s σ v u I rv ru => by
  obtain ⟨q, dx, ws, rfl, hsl, _⟩ := rep_slt ry
  cases rx
  obtain ⟨t, rfl⟩ := rv
  cases ru
  exact rmul_g (E := E0) hsf hs hrs hf hint Fn hr pass0 I hsl ⟨F, _, M, Φ, m, .cons ry (.cons (.int i) .nil), h, k⟩
end
/-! ### ratios: equal pairs -/
theorem tup2_eqv (a b c d : D) : PyData.eqv (D.tup [a, b]).py (D.tup [c, d]).py = (PyData.eqv a.py c.py && PyData.eqv b.py d.py) := by
  simp [D.py, pys, PyData.eqv, PyData.eqvAll]
theorem rt2_shaped (p q : Rat) : SeqAt.shaped (D.tup [rt p, rt q]).py = true := by simp [rt, D.py, pys]; rfl
theorem rt2_isPy (p q : Rat) : (D.tup [rt p, rt q]).isPy = true := by simp [rt, D.isPy, arePy]
end DL
namespace DL
/-! ### sources put together: the mathematics -/
theorem q_div_nonneg {a b : Rat} (ha : 0 ≤ a) (hb : 0 < b) : 0 ≤ a / b := by
  apply Rat.not_lt.mp
  intro z
  have h2 := Rat.mul_lt_mul_of_pos_right z hb
  have e1 : a / b * b = a := by grind
  rw [e1, Rat.zero_mul] at h2
  exact absurd ha (Rat.not_le.mpr h2)
theorem q_pos_div {a b : Rat} (ha : 0 < a) (hb : 0 < b) : 0 < a / b := by
  apply Rat.not_le.mp
  intro z
  have h2 := Rat.mul_le_mul_of_nonneg_right z (Rat.le_of_lt hb)
  have e1 : a / b * b = a := by grind
  rw [e1, Rat.zero_mul] at h2
  exact absurd h2 (Rat.not_le.mpr ha)
theorem q_add_pos {a b : Rat} (ha : 0 < a) (hb : 0 < b) : 0 < a + b := by grind
section
variable {v r w s x t l m : Rat}
theorem und_und_o (hr : 0 ≤ r) (hl : 0 ≤ l) (hm : 0 ≤ m) : r / (1 + r * l) / (1 + r / (1 + r * l) * m) = r / (1 + r * (l + m)) := by
  have h1 := share_pos hr hl
  have h2 := share_pos hr (l := l + m) (by grind)
  have e : 1 + r / (1 + r * l) * m = (1 + r * (l + m)) / (1 + r * l) := by grind
  rw [e]
  have h3 : 1 + r * (l + m) ≠ 0 := by grind
  have h4 : 1 + r * l ≠ 0 := by grind
  generalize 1 + r * (l + m) = a at *
  generalize 1 + r * l = b at *
  grind
theorem und_und_v (hr : 0 ≤ r) (hl : 0 ≤ l) (hm : 0 ≤ m) : v / (1 + r * l) / (1 + r / (1 + r * l) * m) = v / (1 + r * (l + m)) := by
  have h1 := share_pos hr hl
  have h2 := share_pos hr (l := l + m) (by grind)
  have e : 1 + r / (1 + r * l) * m = (1 + r * (l + m)) / (1 + r * l) := by grind
  rw [e]
  have h3 : 1 + r * (l + m) ≠ 0 := by grind
  have h4 : 1 + r * l ≠ 0 := by grind
  generalize 1 + r * (l + m) = a at *
  generalize 1 + r * l = b at *
  grind
theorem und_zero : v / (1 + r * 0) = v := by grind
theorem bes_v (hr : 0 ≤ r) (hl : 0 < l) : (v * (1 / l) + 0 * r) / (r + 1 / l) = v / (1 + r * l) := by
  have h1 := share_pos hr (Rat.le_of_lt hl)
  have e : r + 1 / l = (1 + r * l) / l := by grind
  rw [e]
  have h4 : 1 + r * l ≠ 0 := by grind
  generalize 1 + r * l = b at *
  grind
theorem bes_o (hr : 0 ≤ r) (hl : 0 < l) : r * (1 / l) / (r + 1 / l) = r / (1 + r * l) := by
  have h1 := share_pos hr (Rat.le_of_lt hl)
  have e : r + 1 / l = (1 + r * l) / l := by grind
  rw [e]
  have h4 : 1 + r * l ≠ 0 := by grind
  generalize 1 + r * l = b at *
  grind
theorem and_assoc_v (hr : 0 < r) (hs : 0 < s) (ht : 0 < t) :
    ((v * s + w * r) / (r + s) * t + x * (r * s / (r + s))) / (r * s / (r + s) + t) = (v * (s * t / (s + t)) + (w * t + x * s) / (s + t) * r) / (r + s * t / (s + t)) := by
  have h1 : r + s ≠ 0 := by grind
  have h2 : s + t ≠ 0 := by grind
  have h3 : r * s + t * (r + s) ≠ 0 := by
    have := Rat.mul_pos hr hs
    have := Rat.mul_pos ht hr
    have := Rat.mul_pos ht hs
    grind
  have e1 : r * s / (r + s) + t = (r * s + t * (r + s)) / (r + s) := by grind
  have e2 : r + s * t / (s + t) = (r * s + t * (r + s)) / (s + t) := by grind
  rw [e1, e2]
  have e3 : (v * s + w * r) / (r + s) * t + x * (r * s / (r + s)) = (v * s * t + w * r * t + x * r * s) / (r + s) := by grind
  have e4 : v * (s * t / (s + t)) + (w * t + x * s) / (s + t) * r = (v * s * t + w * r * t + x * r * s) / (s + t) := by grind
  rw [e3, e4]
  generalize (v * s * t + w * r * t + x * r * s) = n
  generalize r * s + t * (r + s) = d at *
  generalize r + s = a at *
  generalize s + t = b at *
  grind
theorem and_assoc_o (hr : 0 < r) (hs : 0 < s) (ht : 0 < t) :
    r * s / (r + s) * t / (r * s / (r + s) + t) = r * (s * t / (s + t)) / (r + s * t / (s + t)) := by
  have h1 : r + s ≠ 0 := by grind
  have h2 : s + t ≠ 0 := by grind
  have h3 : r * s + t * (r + s) ≠ 0 := by
    have := Rat.mul_pos hr hs
    have := Rat.mul_pos ht hr
    have := Rat.mul_pos ht hs
    grind
  have e1 : r * s / (r + s) + t = (r * s + t * (r + s)) / (r + s) := by grind
  have e2 : r + s * t / (s + t) = (r * s + t * (r + s)) / (s + t) := by grind
  rw [e1, e2]
  have e3 : r * s / (r + s) * t = (r * s * t) / (r + s) := by grind
  have e4 : r * (s * t / (s + t)) = (r * s * t) / (s + t) := by grind
  rw [e3, e4]
  generalize (r * s * t) = n
  generalize r * s + t * (r + s) = d at *
  generalize r + s = a at *
  generalize s + t = b at *
  grind
theorem and_self_v (hr : 0 < r) : (v * r + v * r) / (r + r) = v := by grind
end
section
variable {v r w s l m : Rat}
theorem strong_firm (hv : 0 ≤ v) (hr : 0 ≤ r) : strong v 0 v r = true := by
  have := Rat.mul_nonneg hv hr
  exact strong_iff.mpr ⟨Rat.le_refl, by rw [Rat.mul_zero]; exact this⟩
theorem strong_half (hv : 0 ≤ v) (hr : 0 < r) : strong ((v * r + v * r) / (r + r)) (r * r / (r + r)) v r = true := by
  have e1 : (v * r + v * r) / (r + r) = v := by grind
  have e2 : r * r / (r + r) = r / 2 := by grind
  rw [e1, e2]
  have := Rat.mul_nonneg hv (Rat.le_of_lt hr)
  refine strong_iff.mpr ⟨Rat.le_refl, ?_⟩
  have e3 : v * (r / 2) = v * r / 2 := by grind
  rw [e3]
  grind
theorem strong_under (h : strong v r w s = true) (hr : 0 ≤ r) (hs : 0 ≤ s) (hl : 0 ≤ l) : strong (v / (1 + r * l)) (r / (1 + r * l)) (w / (1 + s * l)) (s / (1 + s * l)) = true := by
  have pr := share_pos hr hl
  have ps := share_pos hs hl
  refine strong_iff.mpr ⟨strong_reads h hr hs hl pr ps, ?_⟩
  obtain ⟨h1, h2⟩ := strong_iff.mp h
  have e1 : w / (1 + s * l) * (r / (1 + r * l)) = (w * r) / ((1 + r * l) * (1 + s * l)) := by grind
  have e2 : v / (1 + r * l) * (s / (1 + s * l)) = (v * s) / ((1 + r * l) * (1 + s * l)) := by grind
  rw [e1, e2]
  have p := Rat.mul_pos pr ps
  exact div_le p p (mul_le_r h2 (Rat.le_of_lt p))
theorem strong_many (h : strong v r w s = true) (hm : 0 ≤ m) : strong (v * m) r (w * m) s = true := by
  obtain ⟨h1, h2⟩ := strong_iff.mp h
  refine strong_iff.mpr ⟨mul_le_r h1 hm, ?_⟩
  have := mul_le_r h2 hm
  grind
end
theorem Bz.mul3 {A B : Nat} {p q : Rat} (hp : Bz A p) (hq : Bz B q) : Bz (A + B) (p * q) := by
  rw [rat_mul]
  exact Bz.div (Int.mul_ne_zero (rat_den_ne p) (rat_den_ne q)) (mul_lt hp.n hq.n) (mul_lt (den_lt hp) (den_lt hq))
theorem Bz.ofInt {B : Nat} {n : Int} (h : n.natAbs < 2 ^ B) (hB : 1 ≤ B) : Bz B (n : Rat) := ⟨h, Nat.lt_of_lt_of_le (show 1 < 2 ^ 1 by decide) (Nat.pow_le_pow_right (by decide) hB)⟩
theorem ofInt_nonneg {n : Int} (h : 0 ≤ n) : 0 ≤ (n : Rat) := Rat.num_nonneg.mp h
theorem Rat_pos_num {q : Rat} (h : 0 < q) : 0 < q.num := by
  have h1 := Rat.num_nonneg.mpr (Rat.le_of_lt h)
  have h2 : q.num ≠ 0 := fun z => (Rat.ne_of_gt h) (Rat.num_eq_zero.mp z)
  omega
theorem divInt_one (n : Int) : Rat.divInt n 1 = (n : Rat) := Rat.num_divInt_den (n : Rat)
theorem divInt_pos {a u : Int} (ha : 0 < a) (hu : 0 < u) : 0 < Rat.divInt a u := by
  have h : 0 ≤ Rat.divInt a u := by
    rw [← Rat.num_nonneg, Rat.num_divInt]
    exact Int.ediv_nonneg (Int.mul_nonneg (by rw [Int.sign_eq_one_of_pos hu]; decide) (by omega)) (by omega)
  refine Rat.lt_of_le_of_ne h fun z => ?_
  have e1 := congrArg Rat.num z
  rw [Rat.num_divInt, Int.sign_eq_one_of_pos hu, Int.one_mul] at e1
  have hg : (0 : Int) < (u.gcd a : Int) := by
    have := Int.gcd_pos_of_ne_zero_left a (show u ≠ 0 by omega)
    omega
  have hd : (u.gcd a : Int) ∣ a := Int.gcd_dvd_right u a
  have e2 : a / (u.gcd a : Int) = 0 := e1.symm
  have e3 := Int.ediv_mul_cancel hd
  rw [e2, Int.zero_mul] at e3
  omega
theorem Rat_nonpos_num {q : Rat} (h0 : 0 ≤ q) (h : ¬ 0 < q.num) : q = 0 := by
  have h1 := Rat.num_nonneg.mpr h0
  exact Rat.num_eq_zero.mp (by omega)
end DL
/-! ### gates by judgement and by form -/
namespace DL
open PySem PySem.Spec PyProof.Rows L2
section
variable {Cs : Nat → Addr} {X : Cx} {ρ : Env} {M : Mem} {Φ : D → Mem → Prop} {Ψ : Bool → Mem → Prop} {Θ : List D → Mem → Prop} {e a b : Expr} {es : List Expr} {kws : List Keyword} {p pos apos : Pos} {x : Str} {d d' : D} {st : Stmt} {sts : List Stmt} {E : DE} {f : Value → Value → Sem Value} {op : Operator} {ops : List CmpOp} {c : Const} {j : Nat} {oe : Option Expr}
theorem j_we (h : WE Cs X e ρ M Φ) : WE Cs X e ρ M Φ := h
theorem j_wa (h : WA Cs X es ρ M Θ) : WA Cs X es ρ M Θ := h
theorem j_wat (h : WAt Cs X x d M Φ) : WAt Cs X x d M Φ := h
theorem j_wo (h : WO Cs X f d d' M Φ) : WO Cs X f d d' M Φ := h
theorem j_wix (h : WIx Cs X d d' M Φ) : WIx Cs X d d' M Φ := h
theorem j_wt (h : WT Cs X e ρ M Ψ) : WT Cs X e ρ M Ψ := h
theorem j_ws (h : WS Cs X st ρ M E) : WS Cs X st ρ M E := h
theorem j_wss (h : WSs Cs X sts ρ M E) : WSs Cs X sts ρ M E := h
theorem j_ret (h : WS Cs X (.Return oe pos) ρ M E) : WS Cs X (.Return oe pos) ρ M E := h
theorem e_name (h : WE Cs X (.Name x pos) ρ M Φ) : WE Cs X (.Name x pos) ρ M Φ := h
theorem e_const (h : WE Cs X (.Constant c j pos) ρ M Φ) : WE Cs X (.Constant c j pos) ρ M Φ := h
theorem e_attr (h : WE Cs X (.Attribute e x pos) ρ M Φ) : WE Cs X (.Attribute e x pos) ρ M Φ := h
theorem e_bin (h : WE Cs X (.BinOp a op b pos) ρ M Φ) : WE Cs X (.BinOp a op b pos) ρ M Φ := h
theorem e_cmp (h : WE Cs X (.Compare a ops es pos) ρ M Φ) : WE Cs X (.Compare a ops es pos) ρ M Φ := h
theorem e_sub (h : WE Cs X (.Subscript a b pos) ρ M Φ) : WE Cs X (.Subscript a b pos) ρ M Φ := h
theorem e_call (h : WE Cs X (.Call (.Name x p) es kws pos) ρ M Φ) : WE Cs X (.Call (.Name x p) es kws pos) ρ M Φ := h
theorem e_callm (h : WE Cs X (.Call (.Attribute a x p) es kws pos) ρ M Φ) : WE Cs X (.Call (.Attribute a x p) es kws pos) ρ M Φ := h
theorem e_tup (h : WE Cs X (.Tuple es j pos) ρ M Φ) : WE Cs X (.Tuple es j pos) ρ M Φ := h
theorem t_cmp (h : WT Cs X (.Compare a ops es pos) ρ M Ψ) : WT Cs X (.Compare a ops es pos) ρ M Ψ := h
theorem at_bin (op : Operator) (h : WO Cs X (binaryOp op) d d' M Φ) : WO Cs X (binaryOp op) d d' M Φ := h
theorem at_cmp (op : CmpOp) (h : WO Cs X (compareOp op) d d' M Φ) : WO Cs X (compareOp op) d d' M Φ := h
theorem a_len {P : Prop} {n : Nat} (h : P) (hl : Nat.ble n 100000 = true) : n ≤ 100000 ∧ P := ⟨Nat.le_of_ble_eq_true hl, h⟩
theorem a_obj {c : Nat} {y : D} {P : List D → Prop} (h : ∃ ds, y = .obj c ds ∧ P ds) : ∃ ds, y = .obj c ds ∧ P ds := h
end
theorem eq2_true {a b c d : Rat} (h1 : a = b) (h2 : c = d) : (decide (a = b) && decide (c = d)) = true := by rw [decide_eq_true h1, decide_eq_true h2]; rfl
end DL
/-! ### how long what repr shows is -/
namespace DL
open PySem PySem.Spec PyProof.Rows L2
mutual
def _root_.DL.D.cost : D → Nat
  | .non => 4
  | .bl _ => 5
  | .int _ => 1921
  | .str x => (reprText x).length
  | .tup ds => 3 + costs ds
  | .lst ds => 3 + costs ds
  | _ => 4
def costs : List D → Nat
  | [] => 0
  | d :: ds => d.cost + 2 + costs ds
end
theorem textFrom_le : ∀ (ts : List Str) (k : Nat) (acc : Str), (textFrom k acc ts).length ≤ acc.length + piled ts
  | [], _, acc => by show acc.length ≤ acc.length + 0; omega
  | t :: r, k, acc => by
    have ih := textFrom_le r (k + 1) (acc ++ (if k > 0 then ", " else "" : String) ++ t)
    have e : (acc ++ (if k > 0 then ", " else "" : String) ++ t).length ≤ acc.length + 2 + t.length := by
      rw [strLen_append, strLen_append]
      split
      · exact Nat.le_refl _
      · show acc.length + 0 + t.length ≤ _; omega
    show (textFrom (k + 1) _ r).length ≤ _
    rw [piled_cons]; omega
theorem listText_le (ts : List Str) : (listText ts).length ≤ 2 + piled ts := by
  have h := textFrom_le ts 0 "["
  have e : (("[" : String) : Str).length = 1 := rfl
  show (textFrom 0 "[" ts ++ "]").length ≤ _
  rw [strLen_append]
  have e2 : (("]" : String) : Str).length = 1 := rfl
  omega
theorem tupleText_le (ts : List Str) : (tupleText ts).length ≤ 3 + piled ts := by
  unfold tupleText
  rw [strLen_append, strLen_append]
  have e1 : (("(" : String) : Str).length = 1 := rfl
  have e2 : (((if ts.length == 1 then ",)" else ")" : String)) : Str).length ≤ 2 := by split <;> decide
  by_cases h : ts = []
  · subst h
    have e3 : (Str.join ", " []).length = 0 := rfl
    omega
  · have := join_length_add ts h
    omega
mutual
theorem shown_le : ∀ (d : D), d.isPy = true → d.py.showable = true → d.py.shown.length ≤ d.cost
  | .non, _, _ => by simp only [D.py, PyData.shown, D.cost]; decide
  | .bl b, _, _ => by cases b <;> (simp only [D.py, PyData.shown, D.cost]; decide)
  | .int i, _, h => by
    simp only [D.py, PyData.showable, decide_eq_true_eq] at h
    simp only [D.py, PyData.shown, D.cost]
    have := int_text_length_le (k := 1920) (by decide) h
    rw [PySem.ofString_length]
    omega
  | .str x, _, _ => by simp only [D.py, PyData.shown, D.cost]; exact Nat.le_refl _
  | .tup ds, h1, h2 => by
    rw [D.isPy] at h1
    rw [D.py, PyData.showable] at h2
    rw [D.py, PyData.shown, D.cost]
    have := tupleText_le (PyData.shownAll (pys ds))
    have := showns_le ds h1 h2
    omega
  | .lst ds, h1, h2 => by
    rw [D.isPy] at h1
    rw [D.py, PyData.showable] at h2
    rw [D.py, PyData.shown, D.cost]
    have := listText_le (PyData.shownAll (pys ds))
    have := showns_le ds h1 h2
    omega
  | .ty _, h, _ => by simp [D.isPy] at h
  | .ref _, h, _ => by simp [D.isPy] at h
  | .obj _ _, h, _ => by simp [D.isPy] at h
theorem showns_le : ∀ (ds : List D), arePy ds = true → PyData.showableAll (pys ds) = true → piled (PyData.shownAll (pys ds)) ≤ costs ds
  | [], _, _ => by rw [pys, PyData.shownAll, costs]; exact Nat.le_refl _
  | d :: ds, h1, h2 => by
    rw [arePy, Bool.and_eq_true] at h1
    rw [pys, PyData.showableAll, Bool.and_eq_true] at h2
    rw [pys, PyData.shownAll, costs, piled_cons]
    have := shown_le d h1.1 h2.1
    have := showns_le ds h1.2 h2.2
    omega
end
mutual
theorem noDict : ∀ (d : D), d.py.hasDict = false
  | .non => by simp [D.py, PyData.hasDict]
  | .bl _ => by simp [D.py, PyData.hasDict]
  | .int _ => by simp [D.py, PyData.hasDict]
  | .str _ => by simp [D.py, PyData.hasDict]
  | .tup ds => by rw [D.py, PyData.hasDict]; exact noDicts ds
  | .lst ds => by rw [D.py, PyData.hasDict]; exact noDicts ds
  | .ty _ => by simp [D.py, PyData.hasDict]
  | .ref _ => by simp [D.py, PyData.hasDict]
  | .obj _ _ => by simp [D.py, PyData.hasDict]
theorem noDicts : ∀ (ds : List D), PyData.hasDictAll (pys ds) = false
  | [] => by rw [pys, PyData.hasDictAll]
  | d :: ds => by rw [pys, PyData.hasDictAll, noDict d, noDicts ds]; rfl
end
/-- all that repr asks, told of data: n deep, c long at most -/
structure Shw (n c : Nat) (d : D) : Prop where
  py : d.isPy = true
  sh : d.py.showable = true
  dp : d.py.depth ≤ n
  co : d.cost ≤ c
theorem Shw.mono {n c n' c' : Nat} {d : D} (s : Shw n c d) (h1 : n ≤ n') (h2 : c ≤ c') : Shw n' c' d := ⟨s.py, s.sh, Nat.le_trans s.dp h1, Nat.le_trans s.co h2⟩
theorem wc_reprS {Cs : Nat → Addr} {X : Cx} {M : Mem} {Φ : D → Mem → Prop} {d : D} {k n c : Nat} (hr : Rm k X.A) (s : Shw n c d) (hn : n ≤ 60) (hc : c ≤ 16000000) (h : Φ (.str d.py.shown) M) : WC Cs X (.builtin "repr") [d] M Φ :=
  wc_repr hr s.py s.sh (noDict d) (Nat.le_trans s.dp hn) (by rw [sizeLine_eq]; have := shown_le d s.py s.sh; have := s.co; omega) h
theorem log_lt {a : Int} {B : Nat} (h : a.natAbs < 2 ^ B) (hB : B ≤ 1920) : a.natAbs.log2 < 1920 := by
  by_cases z : a.natAbs = 0
  · rw [z]; decide
  · exact (Nat.log2_lt z).mpr (Nat.lt_of_lt_of_le h (Nat.pow_le_pow_right (by decide) hB))
theorem Shw.bl (b : Bool) : Shw 0 5 (.bl b) := ⟨by simp [D.isPy], by simp [D.py, PyData.showable], by simp [D.py, PyData.depth], by simp [D.cost]⟩
theorem Shw.non : Shw 0 4 .non := ⟨by simp [D.isPy], by simp [D.py, PyData.showable], by simp [D.py, PyData.depth], by simp [D.cost]⟩
theorem Shw.int {i : Int} {B : Nat} (h : i.natAbs < 2 ^ B) (hB : B ≤ 1920) : Shw 0 1921 (.int i) := ⟨by simp [D.isPy], by simp [D.py, PyData.showable, log_lt h hB], by simp [D.py, PyData.depth], by simp [D.cost]⟩
theorem Shw.str (x : Str) : Shw 0 (reprText x).length (.str x) := ⟨by simp [D.isPy], by simp [D.py, PyData.showable], by simp [D.py, PyData.depth], by simp [D.cost]⟩
theorem shs_all {n c : Nat} : ∀ {ds : List D}, (∀ d ∈ ds, Shw n c d) → arePy ds = true ∧ PyData.showableAll (pys ds) = true ∧ PyData.depthAll (pys ds) ≤ n ∧ costs ds ≤ ds.length * (c + 2)
  | [], _ => ⟨by rw [arePy], by rw [pys, PyData.showableAll], by rw [pys, PyData.depthAll]; exact Nat.zero_le _, by rw [costs]; exact Nat.zero_le _⟩
  | d :: ds, h => by
    obtain ⟨h1, h2, h3, h4⟩ := shs_all (ds := ds) fun x hx => h x (List.mem_cons_of_mem _ hx)
    have hd := h d List.mem_cons_self
    refine ⟨by rw [arePy, hd.py, h1]; rfl, by rw [pys, PyData.showableAll, hd.sh, h2]; rfl, ?_, ?_⟩
    · rw [pys, PyData.depthAll]
      have := hd.dp
      omega
    · rw [costs, List.length_cons, Nat.succ_mul]
      have := hd.co
      omega
theorem Shw.tup {n c : Nat} {ds : List D} (h : ∀ d ∈ ds, Shw n c d) : Shw (n + 1) (3 + ds.length * (c + 2)) (.tup ds) := by
  obtain ⟨h1, h2, h3, h4⟩ := shs_all h
  exact ⟨by rw [D.isPy]; exact h1, by rw [D.py, PyData.showable]; exact h2, by rw [D.py, PyData.depth]; omega, by rw [D.cost]; omega⟩
theorem Shw.lst {n c : Nat} {ds : List D} (h : ∀ d ∈ ds, Shw n c d) : Shw (n + 1) (3 + ds.length * (c + 2)) (.lst ds) := by
  obtain ⟨h1, h2, h3, h4⟩ := shs_all h
  exact ⟨by rw [D.isPy]; exact h1, by rw [D.py, PyData.showable]; exact h2, by rw [D.py, PyData.depth]; omega, by rw [D.cost]; omega⟩
theorem Shw.tup2 {n c : Nat} {a b : D} (ha : Shw n c a) (hb : Shw n c b) : Shw (n + 1) (7 + 2 * c) (.tup [a, b]) := (Shw.tup (n := n) (c := c) (ds := [a, b]) fun d hd => by
  rcases List.mem_cons.mp hd with rfl | hd
  · exact ha
  · cases List.mem_singleton.mp hd; exact hb).mono (Nat.le_refl _) (by show 3 + 2 * (c + 2) ≤ _; omega)
theorem Shw.tup3 {n c : Nat} {a b e : D} (ha : Shw n c a) (hb : Shw n c b) (he : Shw n c e) : Shw (n + 1) (9 + 3 * c) (.tup [a, b, e]) := (Shw.tup (n := n) (c := c) (ds := [a, b, e]) fun d hd => by
  rcases List.mem_cons.mp hd with rfl | hd
  · exact ha
  · rcases List.mem_cons.mp hd with rfl | hd
    · exact hb
    · cases List.mem_singleton.mp hd; exact he).mono (Nat.le_refl _) (by show 3 + 3 * (c + 2) ≤ _; omega)
theorem Shw.rt {q : Rat} (b : Bz 1900 q) : Shw 1 4000 (rt q) := (Shw.tup2 (Shw.int b.n (by decide)) (Shw.int (den_lt b) (by decide))).mono (by decide) (by decide)
end DL
namespace Lw
open PySem PySem.Spec PyProof.Rows L2 DL
/-! ### places -/
def top (i : Nat) : Stmt := PySem.Challenge.pw_rangehunt_k04_whole_loads_are_sources_of.main.body.getD i (.Pass ⟨0, 0, 0, 0⟩)
abbrev s_common : Stmt := top 3
abbrev s_is_integer : Stmt := top 4
abbrev s_is_ratio : Stmt := top 5
abbrev s_Amount_init : Stmt := inClass (top 6) 1
abbrev s_Amount_pair : Stmt := inClass (top 6) 2
abbrev s_Amount_over : Stmt := inClass (top 6) 3
abbrev s_Amount_add : Stmt := inClass (top 6) 5
abbrev s_Amount_sub : Stmt := inClass (top 6) 6
abbrev s_Amount_mul : Stmt := inClass (top 6) 7
abbrev s_Amount_eq : Stmt := inClass (top 6) 8
abbrev s_Amount_lt : Stmt := inClass (top 6) 9
abbrev s_Amount_le : Stmt := inClass (top 6) 10
abbrev s_amount_of : Stmt := top 7
abbrev s_nought : Stmt := top 8
abbrev s_unit : Stmt := top 9
abbrev s_check_ratio : Stmt := top 16
abbrev s_Source_init : Stmt := inClass (top 17) 1
abbrev s_Source_volts : Stmt := inClass (top 17) 2
abbrev s_Source_ohms : Stmt := inClass (top 17) 3
abbrev s_Source_at : Stmt := inClass (top 17) 4
abbrev s_Source_under : Stmt := inClass (top 17) 5
abbrev s_Source_add : Stmt := inClass (top 17) 6
abbrev s_Source_and : Stmt := inClass (top 17) 7
abbrev s_Source_mul : Stmt := inClass (top 17) 8
abbrev s_Source_rmul : Stmt := inClass (top 17) 9
abbrev s_Source_ge : Stmt := inClass (top 17) 10
abbrev s_Source_le : Stmt := inClass (top 17) 11
abbrev s_Source_eq : Stmt := inClass (top 17) 12
abbrev s_source_of : Stmt := top 18
abbrev s_share_beside : Stmt := top 19
abbrev s_read_beside : Stmt := top 20
abbrev s_is_as_strong : Stmt := top 21
abbrev s_law_pot : Stmt := top 23
abbrev s_law_take : Stmt := top 24
abbrev s_law_of : Stmt := top 25
abbrev s_law_cells : Stmt := top 26
abbrev s_law_common : Stmt := top 27
abbrev s_law_pair : Stmt := top 28
abbrev s_law_plus : Stmt := top 29
abbrev s_law_times : Stmt := top 30
abbrev s_law_over : Stmt := top 31
abbrev s_law_ratio : Stmt := top 32
abbrev s_law_is_beside : Stmt := top 33
abbrev s_law_are_joined : Stmt := top 34
abbrev s_law_is_carried : Stmt := top 35
abbrev s_law_right : Stmt := top 36
abbrev s_law : Stmt := top 37
def clsN : Nat → Str
  | 0 => "Amount"
  | _ => "Source"
def Cs (K : PySem.W.Frag) (n : Nat) : Addr := He.ga K (clsN n)
/-! ### scopes -/
theorem sc_common : FnScope ["one", "other"] ["one", "other"] (defScope s_common) := ⟨rfl, rfl, rfl, by decide +kernel, rfl, by decide +kernel, by decide +kernel⟩
theorem sc_is_integer : FnScope ["value", "low", "high"] ["value", "low", "high"] (defScope s_is_integer) := ⟨rfl, rfl, rfl, by decide +kernel, rfl, by decide +kernel, by decide +kernel⟩
theorem sc_is_ratio : FnScope ["value"] ["value"] (defScope s_is_ratio) := ⟨rfl, rfl, rfl, by decide +kernel, rfl, by decide +kernel, by decide +kernel⟩
theorem sc_Amount_init : FnScope ["self", "above", "under", "by", "sign"] ["self", "above", "under"] (defScope s_Amount_init) := ⟨rfl, rfl, rfl, by decide +kernel, rfl, by decide +kernel, by decide +kernel⟩
theorem sc_Amount_pair : FnScope ["self"] ["self"] (defScope s_Amount_pair) := ⟨rfl, rfl, rfl, by decide +kernel, rfl, by decide +kernel, by decide +kernel⟩
theorem sc_Amount_over : FnScope ["self", "other"] ["self", "other"] (defScope s_Amount_over) := ⟨rfl, rfl, rfl, by decide +kernel, rfl, by decide +kernel, by decide +kernel⟩
theorem sc_Amount_add : FnScope ["self", "other"] ["self", "other"] (defScope s_Amount_add) := ⟨rfl, rfl, rfl, by decide +kernel, rfl, by decide +kernel, by decide +kernel⟩
theorem sc_Amount_sub : FnScope ["self", "other"] ["self", "other"] (defScope s_Amount_sub) := ⟨rfl, rfl, rfl, by decide +kernel, rfl, by decide +kernel, by decide +kernel⟩
theorem sc_Amount_mul : FnScope ["self", "other"] ["self", "other"] (defScope s_Amount_mul) := ⟨rfl, rfl, rfl, by decide +kernel, rfl, by decide +kernel, by decide +kernel⟩
theorem sc_Amount_eq : FnScope ["self", "other"] ["self", "other"] (defScope s_Amount_eq) := ⟨rfl, rfl, rfl, by decide +kernel, rfl, by decide +kernel, by decide +kernel⟩
theorem sc_Amount_lt : FnScope ["self", "other"] ["self", "other"] (defScope s_Amount_lt) := ⟨rfl, rfl, rfl, by decide +kernel, rfl, by decide +kernel, by decide +kernel⟩
theorem sc_Amount_le : FnScope ["self", "other"] ["self", "other"] (defScope s_Amount_le) := ⟨rfl, rfl, rfl, by decide +kernel, rfl, by decide +kernel, by decide +kernel⟩
theorem sc_amount_of : FnScope ["ratio"] ["ratio"] (defScope s_amount_of) := ⟨rfl, rfl, rfl, by decide +kernel, rfl, by decide +kernel, by decide +kernel⟩
theorem sc_nought : FnScope [] [] (defScope s_nought) := ⟨rfl, rfl, rfl, by decide +kernel, rfl, by decide +kernel, by decide +kernel⟩
theorem sc_unit : FnScope [] [] (defScope s_unit) := ⟨rfl, rfl, rfl, by decide +kernel, rfl, by decide +kernel, by decide +kernel⟩
theorem sc_check_ratio : FnScope ["value"] ["value"] (defScope s_check_ratio) := ⟨rfl, rfl, rfl, by decide +kernel, rfl, by decide +kernel, by decide +kernel⟩
theorem sc_Source_init : FnScope ["self", "volts", "ohms"] ["self", "volts", "ohms"] (defScope s_Source_init) := ⟨rfl, rfl, rfl, by decide +kernel, rfl, by decide +kernel, by decide +kernel⟩
theorem sc_Source_volts : FnScope ["self"] ["self"] (defScope s_Source_volts) := ⟨rfl, rfl, rfl, by decide +kernel, rfl, by decide +kernel, by decide +kernel⟩
theorem sc_Source_ohms : FnScope ["self"] ["self"] (defScope s_Source_ohms) := ⟨rfl, rfl, rfl, by decide +kernel, rfl, by decide +kernel, by decide +kernel⟩
theorem sc_Source_at : FnScope ["self", "load"] ["self", "load"] (defScope s_Source_at) := ⟨rfl, rfl, rfl, by decide +kernel, rfl, by decide +kernel, by decide +kernel⟩
theorem sc_Source_under : FnScope ["self", "load", "share"] ["self", "load"] (defScope s_Source_under) := ⟨rfl, rfl, rfl, by decide +kernel, rfl, by decide +kernel, by decide +kernel⟩
theorem sc_Source_add : FnScope ["self", "other"] ["self", "other"] (defScope s_Source_add) := ⟨rfl, rfl, rfl, by decide +kernel, rfl, by decide +kernel, by decide +kernel⟩
theorem sc_Source_and : FnScope ["self", "other", "ohms", "volts"] ["self", "other"] (defScope s_Source_and) := ⟨rfl, rfl, rfl, by decide +kernel, rfl, by decide +kernel, by decide +kernel⟩
theorem sc_Source_mul : FnScope ["self", "many"] ["self", "many"] (defScope s_Source_mul) := ⟨rfl, rfl, rfl, by decide +kernel, rfl, by decide +kernel, by decide +kernel⟩
theorem sc_Source_rmul : FnScope ["self", "many"] ["self", "many"] (defScope s_Source_rmul) := ⟨rfl, rfl, rfl, by decide +kernel, rfl, by decide +kernel, by decide +kernel⟩
theorem sc_Source_ge : FnScope ["self", "other"] ["self", "other"] (defScope s_Source_ge) := ⟨rfl, rfl, rfl, by decide +kernel, rfl, by decide +kernel, by decide +kernel⟩
theorem sc_Source_le : FnScope ["self", "other"] ["self", "other"] (defScope s_Source_le) := ⟨rfl, rfl, rfl, by decide +kernel, rfl, by decide +kernel, by decide +kernel⟩
theorem sc_Source_eq : FnScope ["self", "other"] ["self", "other"] (defScope s_Source_eq) := ⟨rfl, rfl, rfl, by decide +kernel, rfl, by decide +kernel, by decide +kernel⟩
theorem sc_source_of : FnScope ["volts", "ohms"] ["volts", "ohms"] (defScope s_source_of) := ⟨rfl, rfl, rfl, by decide +kernel, rfl, by decide +kernel, by decide +kernel⟩
theorem sc_share_beside : FnScope ["source", "draw"] ["source", "draw"] (defScope s_share_beside) := ⟨rfl, rfl, rfl, by decide +kernel, rfl, by decide +kernel, by decide +kernel⟩
theorem sc_read_beside : FnScope ["source", "draw"] ["source", "draw"] (defScope s_read_beside) := ⟨rfl, rfl, rfl, by decide +kernel, rfl, by decide +kernel, by decide +kernel⟩
theorem sc_is_as_strong : FnScope ["one", "other"] ["one", "other"] (defScope s_is_as_strong) := ⟨rfl, rfl, rfl, by decide +kernel, rfl, by decide +kernel, by decide +kernel⟩
theorem sc_law_pot : FnScope ["_law_script", "_law_place", "_law_cell", "_law_own", "_law_small"] ["_law_script", "_law_place"] (defScope s_law_pot) := ⟨rfl, rfl, rfl, by decide +kernel, rfl, by decide +kernel, by decide +kernel⟩
theorem sc_law_take : FnScope ["_law_pot_here", "_law_upto", "_law_digit", "_law_prime", "_law_mixed"] ["_law_pot_here", "_law_upto"] (defScope s_law_take) := ⟨rfl, rfl, rfl, by decide +kernel, rfl, by decide +kernel, by decide +kernel⟩
theorem sc_law_of : FnScope ["_law_pot_here", "_law_some"] ["_law_pot_here", "_law_some"] (defScope s_law_of) := ⟨rfl, rfl, rfl, by decide +kernel, rfl, by decide +kernel, by decide +kernel⟩
theorem sc_law_cells : FnScope ["_law_script", "_law_most"] ["_law_script", "_law_most"] (defScope s_law_cells) := ⟨rfl, rfl, rfl, by decide +kernel, rfl, by decide +kernel, by decide +kernel⟩
theorem sc_law_common : FnScope ["_law_one", "_law_other", "_law_left", "_law_right_here"] ["_law_one", "_law_other"] (defScope s_law_common) := ⟨rfl, rfl, rfl, by decide +kernel, rfl, by decide +kernel, by decide +kernel⟩
theorem sc_law_pair : FnScope ["_law_above", "_law_under", "_law_by"] ["_law_above", "_law_under"] (defScope s_law_pair) := ⟨rfl, rfl, rfl, by decide +kernel, rfl, by decide +kernel, by decide +kernel⟩
theorem sc_law_plus : FnScope ["_law_one", "_law_other"] ["_law_one", "_law_other"] (defScope s_law_plus) := ⟨rfl, rfl, rfl, by decide +kernel, rfl, by decide +kernel, by decide +kernel⟩
theorem sc_law_times : FnScope ["_law_one", "_law_other"] ["_law_one", "_law_other"] (defScope s_law_times) := ⟨rfl, rfl, rfl, by decide +kernel, rfl, by decide +kernel, by decide +kernel⟩
theorem sc_law_over : FnScope ["_law_one", "_law_other"] ["_law_one", "_law_other"] (defScope s_law_over) := ⟨rfl, rfl, rfl, by decide +kernel, rfl, by decide +kernel, by decide +kernel⟩
theorem sc_law_ratio : FnScope ["_law_pot_here", "_law_above"] ["_law_pot_here"] (defScope s_law_ratio) := ⟨rfl, rfl, rfl, by decide +kernel, rfl, by decide +kernel, by decide +kernel⟩
theorem sc_law_is_beside : FnScope ["_law_one", "_law_load", "_law_bare"] ["_law_one", "_law_load"] (defScope s_law_is_beside) := ⟨rfl, rfl, rfl, by decide +kernel, rfl, by decide +kernel, by decide +kernel⟩
theorem sc_law_are_joined : FnScope ["_law_one", "_law_other", "_law_third"] ["_law_one", "_law_other", "_law_third"] (defScope s_law_are_joined) := ⟨rfl, rfl, rfl, by decide +kernel, rfl, by decide +kernel, by decide +kernel⟩
theorem sc_law_is_carried : FnScope ["_law_one", "_law_other", "_law_load", "_law_many"] ["_law_one", "_law_other", "_law_load", "_law_many"] (defScope s_law_is_carried) := ⟨rfl, rfl, rfl, by decide +kernel, rfl, by decide +kernel, by decide +kernel⟩
theorem sc_law_right : FnScope ["_law_pot_here", "_law_rows", "_law_lap", "_law_volts", "_law_ohms", "_law_one", "_law_other", "_law_third", "_law_load", "_law_more", "_law_many", "_law_firm"] ["_law_pot_here"] (defScope s_law_right) := ⟨rfl, rfl, rfl, by decide +kernel, rfl, by decide +kernel, by decide +kernel⟩
theorem sc_law : FnScope ["_law_script", "_law_place", "_law_pot_here", "_law_lap"] ["_law_script"] (defScope s_law) := ⟨rfl, rfl, rfl, by decide +kernel, rfl, by decide +kernel, by decide +kernel⟩
/-! ### facts -/
def d_common : He5.DefA := ⟨fun K => He.ga K "common", "common", "common", defArgs s_common, defBody s_common, defScope s_common, [], []⟩
def d_is_integer : He5.DefA := ⟨fun K => He.ga K "is_integer", "is_integer", "is_integer", defArgs s_is_integer, defBody s_is_integer, defScope s_is_integer, [.non, .non], []⟩
def d_is_ratio : He5.DefA := ⟨fun K => He.ga K "is_ratio", "is_ratio", "is_ratio", defArgs s_is_ratio, defBody s_is_ratio, defScope s_is_ratio, [], []⟩
def d_Amount_init : He5.DefA := ⟨fun K => He.ma K (He.ga K "Amount") "__init__", "__init__", "Amount.__init__", defArgs s_Amount_init, defBody s_Amount_init, defScope s_Amount_init, [.int 1], []⟩
def d_Amount_pair : He5.DefA := ⟨fun K => He5.wf K (He.ga K "Amount") "property" "pair", "pair", "Amount.pair", defArgs s_Amount_pair, defBody s_Amount_pair, defScope s_Amount_pair, [], []⟩
def d_Amount_over : He5.DefA := ⟨fun K => He.ma K (He.ga K "Amount") "over", "over", "Amount.over", defArgs s_Amount_over, defBody s_Amount_over, defScope s_Amount_over, [], []⟩
def d_Amount_add : He5.DefA := ⟨fun K => He.ma K (He.ga K "Amount") "__add__", "__add__", "Amount.__add__", defArgs s_Amount_add, defBody s_Amount_add, defScope s_Amount_add, [], []⟩
def d_Amount_sub : He5.DefA := ⟨fun K => He.ma K (He.ga K "Amount") "__sub__", "__sub__", "Amount.__sub__", defArgs s_Amount_sub, defBody s_Amount_sub, defScope s_Amount_sub, [], []⟩
def d_Amount_mul : He5.DefA := ⟨fun K => He.ma K (He.ga K "Amount") "__mul__", "__mul__", "Amount.__mul__", defArgs s_Amount_mul, defBody s_Amount_mul, defScope s_Amount_mul, [], []⟩
def d_Amount_eq : He5.DefA := ⟨fun K => He.ma K (He.ga K "Amount") "__eq__", "__eq__", "Amount.__eq__", defArgs s_Amount_eq, defBody s_Amount_eq, defScope s_Amount_eq, [], []⟩
def d_Amount_lt : He5.DefA := ⟨fun K => He.ma K (He.ga K "Amount") "__lt__", "__lt__", "Amount.__lt__", defArgs s_Amount_lt, defBody s_Amount_lt, defScope s_Amount_lt, [], []⟩
def d_Amount_le : He5.DefA := ⟨fun K => He.ma K (He.ga K "Amount") "__le__", "__le__", "Amount.__le__", defArgs s_Amount_le, defBody s_Amount_le, defScope s_Amount_le, [], []⟩
def d_amount_of : He5.DefA := ⟨fun K => He.ga K "amount_of", "amount_of", "amount_of", defArgs s_amount_of, defBody s_amount_of, defScope s_amount_of, [], []⟩
def d_nought : He5.DefA := ⟨fun K => He.ga K "nought", "nought", "nought", defArgs s_nought, defBody s_nought, defScope s_nought, [], []⟩
def d_unit : He5.DefA := ⟨fun K => He.ga K "unit", "unit", "unit", defArgs s_unit, defBody s_unit, defScope s_unit, [], []⟩
def d_check_ratio : He5.DefA := ⟨fun K => He.ga K "check_ratio", "check_ratio", "check_ratio", defArgs s_check_ratio, defBody s_check_ratio, defScope s_check_ratio, [], []⟩
def d_Source_init : He5.DefA := ⟨fun K => He.ma K (He.ga K "Source") "__init__", "__init__", "Source.__init__", defArgs s_Source_init, defBody s_Source_init, defScope s_Source_init, [], []⟩
def d_Source_volts : He5.DefA := ⟨fun K => He5.wf K (He.ga K "Source") "property" "volts", "volts", "Source.volts", defArgs s_Source_volts, defBody s_Source_volts, defScope s_Source_volts, [], []⟩
def d_Source_ohms : He5.DefA := ⟨fun K => He5.wf K (He.ga K "Source") "property" "ohms", "ohms", "Source.ohms", defArgs s_Source_ohms, defBody s_Source_ohms, defScope s_Source_ohms, [], []⟩
def d_Source_at : He5.DefA := ⟨fun K => He.ma K (He.ga K "Source") "at", "at", "Source.at", defArgs s_Source_at, defBody s_Source_at, defScope s_Source_at, [], []⟩
def d_Source_under : He5.DefA := ⟨fun K => He.ma K (He.ga K "Source") "under", "under", "Source.under", defArgs s_Source_under, defBody s_Source_under, defScope s_Source_under, [], []⟩
def d_Source_add : He5.DefA := ⟨fun K => He.ma K (He.ga K "Source") "__add__", "__add__", "Source.__add__", defArgs s_Source_add, defBody s_Source_add, defScope s_Source_add, [], []⟩
def d_Source_and : He5.DefA := ⟨fun K => He.ma K (He.ga K "Source") "__and__", "__and__", "Source.__and__", defArgs s_Source_and, defBody s_Source_and, defScope s_Source_and, [], []⟩
def d_Source_mul : He5.DefA := ⟨fun K => He.ma K (He.ga K "Source") "__mul__", "__mul__", "Source.__mul__", defArgs s_Source_mul, defBody s_Source_mul, defScope s_Source_mul, [], []⟩
def d_Source_rmul : He5.DefA := ⟨fun K => He.ma K (He.ga K "Source") "__rmul__", "__rmul__", "Source.__rmul__", defArgs s_Source_rmul, defBody s_Source_rmul, defScope s_Source_rmul, [], []⟩
def d_Source_ge : He5.DefA := ⟨fun K => He.ma K (He.ga K "Source") "__ge__", "__ge__", "Source.__ge__", defArgs s_Source_ge, defBody s_Source_ge, defScope s_Source_ge, [], []⟩
def d_Source_le : He5.DefA := ⟨fun K => He.ma K (He.ga K "Source") "__le__", "__le__", "Source.__le__", defArgs s_Source_le, defBody s_Source_le, defScope s_Source_le, [], []⟩
def d_Source_eq : He5.DefA := ⟨fun K => He.ma K (He.ga K "Source") "__eq__", "__eq__", "Source.__eq__", defArgs s_Source_eq, defBody s_Source_eq, defScope s_Source_eq, [], []⟩
def d_source_of : He5.DefA := ⟨fun K => He.ga K "source_of", "source_of", "source_of", defArgs s_source_of, defBody s_source_of, defScope s_source_of, [], []⟩
def d_share_beside : He5.DefA := ⟨fun K => He.ga K "share_beside", "share_beside", "share_beside", defArgs s_share_beside, defBody s_share_beside, defScope s_share_beside, [], []⟩
def d_read_beside : He5.DefA := ⟨fun K => He.ga K "read_beside", "read_beside", "read_beside", defArgs s_read_beside, defBody s_read_beside, defScope s_read_beside, [], []⟩
def d_is_as_strong : He5.DefA := ⟨fun K => He.ga K "is_as_strong", "is_as_strong", "is_as_strong", defArgs s_is_as_strong, defBody s_is_as_strong, defScope s_is_as_strong, [], []⟩
def d_law_pot : He5.DefA := ⟨fun K => He.ga K "_law_pot", "_law_pot", "_law_pot", defArgs s_law_pot, defBody s_law_pot, defScope s_law_pot, [], []⟩
def d_law_take : He5.DefA := ⟨fun K => He.ga K "_law_take", "_law_take", "_law_take", defArgs s_law_take, defBody s_law_take, defScope s_law_take, [], []⟩
def d_law_of : He5.DefA := ⟨fun K => He.ga K "_law_of", "_law_of", "_law_of", defArgs s_law_of, defBody s_law_of, defScope s_law_of, [], []⟩
def d_law_cells : He5.DefA := ⟨fun K => He.ga K "_law_cells", "_law_cells", "_law_cells", defArgs s_law_cells, defBody s_law_cells, defScope s_law_cells, [], []⟩
def d_law_common : He5.DefA := ⟨fun K => He.ga K "_law_common", "_law_common", "_law_common", defArgs s_law_common, defBody s_law_common, defScope s_law_common, [], []⟩
def d_law_pair : He5.DefA := ⟨fun K => He.ga K "_law_pair", "_law_pair", "_law_pair", defArgs s_law_pair, defBody s_law_pair, defScope s_law_pair, [], []⟩
def d_law_plus : He5.DefA := ⟨fun K => He.ga K "_law_plus", "_law_plus", "_law_plus", defArgs s_law_plus, defBody s_law_plus, defScope s_law_plus, [], []⟩
def d_law_times : He5.DefA := ⟨fun K => He.ga K "_law_times", "_law_times", "_law_times", defArgs s_law_times, defBody s_law_times, defScope s_law_times, [], []⟩
def d_law_over : He5.DefA := ⟨fun K => He.ga K "_law_over", "_law_over", "_law_over", defArgs s_law_over, defBody s_law_over, defScope s_law_over, [], []⟩
def d_law_ratio : He5.DefA := ⟨fun K => He.ga K "_law_ratio", "_law_ratio", "_law_ratio", defArgs s_law_ratio, defBody s_law_ratio, defScope s_law_ratio, [], []⟩
def d_law_is_beside : He5.DefA := ⟨fun K => He.ga K "_law_is_beside", "_law_is_beside", "_law_is_beside", defArgs s_law_is_beside, defBody s_law_is_beside, defScope s_law_is_beside, [], []⟩
def d_law_are_joined : He5.DefA := ⟨fun K => He.ga K "_law_are_joined", "_law_are_joined", "_law_are_joined", defArgs s_law_are_joined, defBody s_law_are_joined, defScope s_law_are_joined, [], []⟩
def d_law_is_carried : He5.DefA := ⟨fun K => He.ga K "_law_is_carried", "_law_is_carried", "_law_is_carried", defArgs s_law_is_carried, defBody s_law_is_carried, defScope s_law_is_carried, [], []⟩
def d_law_right : He5.DefA := ⟨fun K => He.ga K "_law_right", "_law_right", "_law_right", defArgs s_law_right, defBody s_law_right, defScope s_law_right, [], []⟩
def d_law : He5.DefA := ⟨fun K => He.ga K "law", "law", "law", defArgs s_law, defBody s_law, defScope s_law, [], []⟩
def fn : List He5.DefA := [d_common, d_is_integer, d_is_ratio, d_Amount_init, d_Amount_pair, d_Amount_over, d_Amount_add, d_Amount_sub, d_Amount_mul, d_Amount_eq, d_Amount_lt, d_Amount_le, d_amount_of, d_nought, d_unit, d_check_ratio, d_Source_init, d_Source_volts, d_Source_ohms, d_Source_at, d_Source_under, d_Source_add, d_Source_and, d_Source_mul, d_Source_rmul, d_Source_ge, d_Source_le, d_Source_eq, d_source_of, d_share_beside, d_read_beside, d_is_as_strong, d_law_pot, d_law_take, d_law_of, d_law_cells, d_law_common, d_law_pair, d_law_plus, d_law_times, d_law_over, d_law_ratio, d_law_is_beside, d_law_are_joined, d_law_is_carried, d_law_right, d_law]
def fa0 : List Fc := [.glo "common", .glo "is_integer", .glo "is_ratio", .glo "amount_of", .glo "nought", .glo "unit", .glo "check_ratio", .glo "source_of", .glo "share_beside", .glo "read_beside", .glo "is_as_strong", .glo "_law_pot", .glo "_law_take", .glo "_law_of", .glo "_law_cells", .glo "_law_common", .glo "_law_pair", .glo "_law_plus", .glo "_law_times", .glo "_law_over", .glo "_law_ratio", .glo "_law_is_beside", .glo "_law_are_joined", .glo "_law_is_carried", .glo "_law_right", .glo "Amount", .scls "Amount", .slot "Amount" "bottom" 0, .slot "Amount" "top" 1, .sisi "Amount"]
def fa1 : List Fc := [.selfF "Amount", .notF "Amount" "Amount", .kit (.c "Amount") (.c "Amount") true, .kit (.c "Amount") (.c "Source") false, .kit (.c "Amount") (.t "int") false, .kit (.c "Amount") (.t "bool") false, .kit (.c "Amount") (.t "tuple") false, .kit (.c "Amount") (.t "str") false, .glo "Source", .scls "Source", .slot "Source" "own_ohms" 0, .slot "Source" "own_volts" 1, .sisi "Source", .selfF "Source", .notF "Source" "Source", .kit (.c "Source") (.c "Amount") false, .kit (.c "Source") (.c "Source") true, .kit (.c "Source") (.t "int") false, .kit (.c "Source") (.t "bool") false, .kit (.c "Source") (.t "tuple") false, .kit (.c "Source") (.t "str") false, .mkr "Amount", .prop "Amount" "pair", .meth "Amount" "over", .own "Amount" "__add__", .own "Amount" "__sub__", .own "Amount" "__mul__", .own "Amount" "__eq__", .own "Amount" "__lt__", .own "Amount" "__le__"]
def fa2 : List Fc := [.mkr "Source", .prop "Source" "volts", .prop "Source" "ohms", .meth "Source" "at", .meth "Source" "under", .own "Source" "__add__", .own "Source" "__and__", .own "Source" "__mul__", .own "Source" "__rmul__", .own "Source" "__ge__", .own "Source" "__le__", .own "Source" "__eq__", .free "NotImplemented", .free "ValueError", .free "abs", .free "all", .free "bool", .free "int", .free "isinstance", .free "len", .free "list", .free "max", .free "min", .free "property", .free "range", .free "repr", .free "super", .free "tuple", .int "PAIR" (2), .kit (.t "int") (.t "int") true]
def fa3 : List Fc := [.kit (.t "int") (.t "bool") false, .kit (.t "int") (.t "tuple") false, .kit (.t "int") (.t "str") false, .kit (.t "int") (.c "Amount") false, .kit (.t "int") (.c "Source") false, .kit (.t "bool") (.t "int") true, .kit (.t "bool") (.t "bool") true, .kit (.t "bool") (.t "tuple") false, .kit (.t "bool") (.t "str") false, .kit (.t "bool") (.c "Amount") false, .kit (.t "bool") (.c "Source") false, .kit (.t "tuple") (.t "int") false, .kit (.t "tuple") (.t "bool") false, .kit (.t "tuple") (.t "tuple") true, .kit (.t "tuple") (.t "str") false, .kit (.t "tuple") (.c "Amount") false, .kit (.t "tuple") (.c "Source") false, .kit (.t "str") (.t "int") false, .kit (.t "str") (.t "bool") false, .kit (.t "str") (.t "tuple") false, .kit (.t "str") (.t "str") true, .kit (.t "str") (.c "Amount") false, .kit (.t "str") (.c "Source") false, .kit (.t "list") (.t "int") false, .kit (.t "list") (.t "bool") false, .kit (.t "list") (.t "tuple") false, .kit (.t "list") (.t "str") false, .kit (.t "list") (.c "Amount") false, .kit (.t "list") (.c "Source") false, .kit (.t "NoneType") (.t "int") false]
def fa4 : List Fc := [.kit (.t "NoneType") (.t "bool") false, .kit (.t "NoneType") (.t "tuple") false, .kit (.t "NoneType") (.t "str") false, .kit (.t "NoneType") (.c "Amount") false, .kit (.t "NoneType") (.c "Source") false, .nei "Amount", .nei "Source"]
def fa : List Fc := fa0 ++ fa1 ++ fa2 ++ fa3 ++ fa4
structure Tx (K : PySem.W.Frag) (mg : Str → Option Value) : Prop where
  g_common : mg "common" = some (.ref (He.ga K "common")) ∧ PySem.W.keepIn K (.ref (He.ga K "common")) = true
  g_is_integer : mg "is_integer" = some (.ref (He.ga K "is_integer")) ∧ PySem.W.keepIn K (.ref (He.ga K "is_integer")) = true
  g_is_ratio : mg "is_ratio" = some (.ref (He.ga K "is_ratio")) ∧ PySem.W.keepIn K (.ref (He.ga K "is_ratio")) = true
  g_amount_of : mg "amount_of" = some (.ref (He.ga K "amount_of")) ∧ PySem.W.keepIn K (.ref (He.ga K "amount_of")) = true
  g_nought : mg "nought" = some (.ref (He.ga K "nought")) ∧ PySem.W.keepIn K (.ref (He.ga K "nought")) = true
  g_unit : mg "unit" = some (.ref (He.ga K "unit")) ∧ PySem.W.keepIn K (.ref (He.ga K "unit")) = true
  g_check_ratio : mg "check_ratio" = some (.ref (He.ga K "check_ratio")) ∧ PySem.W.keepIn K (.ref (He.ga K "check_ratio")) = true
  g_source_of : mg "source_of" = some (.ref (He.ga K "source_of")) ∧ PySem.W.keepIn K (.ref (He.ga K "source_of")) = true
  g_share_beside : mg "share_beside" = some (.ref (He.ga K "share_beside")) ∧ PySem.W.keepIn K (.ref (He.ga K "share_beside")) = true
  g_read_beside : mg "read_beside" = some (.ref (He.ga K "read_beside")) ∧ PySem.W.keepIn K (.ref (He.ga K "read_beside")) = true
  g_is_as_strong : mg "is_as_strong" = some (.ref (He.ga K "is_as_strong")) ∧ PySem.W.keepIn K (.ref (He.ga K "is_as_strong")) = true
  g_law_pot : mg "_law_pot" = some (.ref (He.ga K "_law_pot")) ∧ PySem.W.keepIn K (.ref (He.ga K "_law_pot")) = true
  g_law_take : mg "_law_take" = some (.ref (He.ga K "_law_take")) ∧ PySem.W.keepIn K (.ref (He.ga K "_law_take")) = true
  g_law_of : mg "_law_of" = some (.ref (He.ga K "_law_of")) ∧ PySem.W.keepIn K (.ref (He.ga K "_law_of")) = true
  g_law_cells : mg "_law_cells" = some (.ref (He.ga K "_law_cells")) ∧ PySem.W.keepIn K (.ref (He.ga K "_law_cells")) = true
  g_law_common : mg "_law_common" = some (.ref (He.ga K "_law_common")) ∧ PySem.W.keepIn K (.ref (He.ga K "_law_common")) = true
  g_law_pair : mg "_law_pair" = some (.ref (He.ga K "_law_pair")) ∧ PySem.W.keepIn K (.ref (He.ga K "_law_pair")) = true
  g_law_plus : mg "_law_plus" = some (.ref (He.ga K "_law_plus")) ∧ PySem.W.keepIn K (.ref (He.ga K "_law_plus")) = true
  g_law_times : mg "_law_times" = some (.ref (He.ga K "_law_times")) ∧ PySem.W.keepIn K (.ref (He.ga K "_law_times")) = true
  g_law_over : mg "_law_over" = some (.ref (He.ga K "_law_over")) ∧ PySem.W.keepIn K (.ref (He.ga K "_law_over")) = true
  g_law_ratio : mg "_law_ratio" = some (.ref (He.ga K "_law_ratio")) ∧ PySem.W.keepIn K (.ref (He.ga K "_law_ratio")) = true
  g_law_is_beside : mg "_law_is_beside" = some (.ref (He.ga K "_law_is_beside")) ∧ PySem.W.keepIn K (.ref (He.ga K "_law_is_beside")) = true
  g_law_are_joined : mg "_law_are_joined" = some (.ref (He.ga K "_law_are_joined")) ∧ PySem.W.keepIn K (.ref (He.ga K "_law_are_joined")) = true
  g_law_is_carried : mg "_law_is_carried" = some (.ref (He.ga K "_law_is_carried")) ∧ PySem.W.keepIn K (.ref (He.ga K "_law_is_carried")) = true
  g_law_right : mg "_law_right" = some (.ref (He.ga K "_law_right")) ∧ PySem.W.keepIn K (.ref (He.ga K "_law_right")) = true
  g_Amount : mg "Amount" = some (.ref (He.ga K "Amount")) ∧ PySem.W.keepIn K (.ref (He.ga K "Amount")) = true
  c_Amount : SlX.SCls K (He.ga K "Amount")
  sl_Amount_bottom : SlX.Slot1 K (He.ga K "Amount") "bottom" (He.ma K (He.ga K "Amount") "bottom") 0
  sl_Amount_top : SlX.Slot1 K (He.ga K "Amount") "top" (He.ma K (He.ga K "Amount") "top") 1
  i_Amount : SlX.SIsi K (He.ga K "Amount")
  sf_Amount : PySem.W.selfFirst K (He.ga K "Amount") = true
  nf_Amount : PySem.W.notFirst K (He.ga K "Amount") (.ref (He.ga K "Amount")) = true
  kt_Amount_Amount : PySem.W.kitOne K (.ref (He.ga K "Amount")) (.ref (He.ga K "Amount")) = some true
  kt_Amount_Source : PySem.W.kitOne K (.ref (He.ga K "Amount")) (.ref (He.ga K "Source")) = some false
  kt_Amount_int : PySem.W.kitOne K (.ref (He.ga K "Amount")) (.type "int") = some false
  kt_Amount_bool : PySem.W.kitOne K (.ref (He.ga K "Amount")) (.type "bool") = some false
  kt_Amount_tuple : PySem.W.kitOne K (.ref (He.ga K "Amount")) (.type "tuple") = some false
  kt_Amount_str : PySem.W.kitOne K (.ref (He.ga K "Amount")) (.type "str") = some false
  g_Source : mg "Source" = some (.ref (He.ga K "Source")) ∧ PySem.W.keepIn K (.ref (He.ga K "Source")) = true
  c_Source : SlX.SCls K (He.ga K "Source")
  sl_Source_own_ohms : SlX.Slot1 K (He.ga K "Source") "own_ohms" (He.ma K (He.ga K "Source") "own_ohms") 0
  sl_Source_own_volts : SlX.Slot1 K (He.ga K "Source") "own_volts" (He.ma K (He.ga K "Source") "own_volts") 1
  i_Source : SlX.SIsi K (He.ga K "Source")
  sf_Source : PySem.W.selfFirst K (He.ga K "Source") = true
  nf_Source : PySem.W.notFirst K (He.ga K "Source") (.ref (He.ga K "Source")) = true
  kt_Source_Amount : PySem.W.kitOne K (.ref (He.ga K "Source")) (.ref (He.ga K "Amount")) = some false
  kt_Source_Source : PySem.W.kitOne K (.ref (He.ga K "Source")) (.ref (He.ga K "Source")) = some true
  kt_Source_int : PySem.W.kitOne K (.ref (He.ga K "Source")) (.type "int") = some false
  kt_Source_bool : PySem.W.kitOne K (.ref (He.ga K "Source")) (.type "bool") = some false
  kt_Source_tuple : PySem.W.kitOne K (.ref (He.ga K "Source")) (.type "tuple") = some false
  kt_Source_str : PySem.W.kitOne K (.ref (He.ga K "Source")) (.type "str") = some false
  mk_Amount : Mk K (He.ga K "Amount") (He.ma K (He.ga K "Amount") "__init__")
  p_Amount_pair : PropF K (He.ga K "Amount") "pair" (He.ma K (He.ga K "Amount") "pair") (He5.wf K (He.ga K "Amount") "property" "pair")
  m_Amount_over : Meth K (He.ga K "Amount") "over" (He.ma K (He.ga K "Amount") "over")
  o_Amount_add : PySem.W.findIn K (.ref (He.ga K "Amount")) "__add__" = some (some (.ref (He.ma K (He.ga K "Amount") "__add__"))) ∧ PySem.W.isFn K (.ref (He.ma K (He.ga K "Amount") "__add__")) = true
  o_Amount_sub : PySem.W.findIn K (.ref (He.ga K "Amount")) "__sub__" = some (some (.ref (He.ma K (He.ga K "Amount") "__sub__"))) ∧ PySem.W.isFn K (.ref (He.ma K (He.ga K "Amount") "__sub__")) = true
  o_Amount_mul : PySem.W.findIn K (.ref (He.ga K "Amount")) "__mul__" = some (some (.ref (He.ma K (He.ga K "Amount") "__mul__"))) ∧ PySem.W.isFn K (.ref (He.ma K (He.ga K "Amount") "__mul__")) = true
  o_Amount_eq : PySem.W.findIn K (.ref (He.ga K "Amount")) "__eq__" = some (some (.ref (He.ma K (He.ga K "Amount") "__eq__"))) ∧ PySem.W.isFn K (.ref (He.ma K (He.ga K "Amount") "__eq__")) = true
  o_Amount_lt : PySem.W.findIn K (.ref (He.ga K "Amount")) "__lt__" = some (some (.ref (He.ma K (He.ga K "Amount") "__lt__"))) ∧ PySem.W.isFn K (.ref (He.ma K (He.ga K "Amount") "__lt__")) = true
  o_Amount_le : PySem.W.findIn K (.ref (He.ga K "Amount")) "__le__" = some (some (.ref (He.ma K (He.ga K "Amount") "__le__"))) ∧ PySem.W.isFn K (.ref (He.ma K (He.ga K "Amount") "__le__")) = true
  mk_Source : Mk K (He.ga K "Source") (He.ma K (He.ga K "Source") "__init__")
  p_Source_volts : PropF K (He.ga K "Source") "volts" (He.ma K (He.ga K "Source") "volts") (He5.wf K (He.ga K "Source") "property" "volts")
  p_Source_ohms : PropF K (He.ga K "Source") "ohms" (He.ma K (He.ga K "Source") "ohms") (He5.wf K (He.ga K "Source") "property" "ohms")
  m_Source_at : Meth K (He.ga K "Source") "at" (He.ma K (He.ga K "Source") "at")
  m_Source_under : Meth K (He.ga K "Source") "under" (He.ma K (He.ga K "Source") "under")
  o_Source_add : PySem.W.findIn K (.ref (He.ga K "Source")) "__add__" = some (some (.ref (He.ma K (He.ga K "Source") "__add__"))) ∧ PySem.W.isFn K (.ref (He.ma K (He.ga K "Source") "__add__")) = true
  o_Source_and : PySem.W.findIn K (.ref (He.ga K "Source")) "__and__" = some (some (.ref (He.ma K (He.ga K "Source") "__and__"))) ∧ PySem.W.isFn K (.ref (He.ma K (He.ga K "Source") "__and__")) = true
  o_Source_mul : PySem.W.findIn K (.ref (He.ga K "Source")) "__mul__" = some (some (.ref (He.ma K (He.ga K "Source") "__mul__"))) ∧ PySem.W.isFn K (.ref (He.ma K (He.ga K "Source") "__mul__")) = true
  o_Source_rmul : PySem.W.findIn K (.ref (He.ga K "Source")) "__rmul__" = some (some (.ref (He.ma K (He.ga K "Source") "__rmul__"))) ∧ PySem.W.isFn K (.ref (He.ma K (He.ga K "Source") "__rmul__")) = true
  o_Source_ge : PySem.W.findIn K (.ref (He.ga K "Source")) "__ge__" = some (some (.ref (He.ma K (He.ga K "Source") "__ge__"))) ∧ PySem.W.isFn K (.ref (He.ma K (He.ga K "Source") "__ge__")) = true
  o_Source_le : PySem.W.findIn K (.ref (He.ga K "Source")) "__le__" = some (some (.ref (He.ma K (He.ga K "Source") "__le__"))) ∧ PySem.W.isFn K (.ref (He.ma K (He.ga K "Source") "__le__")) = true
  o_Source_eq : PySem.W.findIn K (.ref (He.ga K "Source")) "__eq__" = some (some (.ref (He.ma K (He.ga K "Source") "__eq__"))) ∧ PySem.W.isFn K (.ref (He.ma K (He.ga K "Source") "__eq__")) = true
  f_NotImplemented : mg "NotImplemented" = none
  f_ValueError : mg "ValueError" = none
  f_abs : mg "abs" = none
  f_all : mg "all" = none
  f_bool : mg "bool" = none
  f_int : mg "int" = none
  f_isinstance : mg "isinstance" = none
  f_len : mg "len" = none
  f_list : mg "list" = none
  f_max : mg "max" = none
  f_min : mg "min" = none
  f_property : mg "property" = none
  f_range : mg "range" = none
  f_repr : mg "repr" = none
  f_super : mg "super" = none
  f_tuple : mg "tuple" = none
  v_PAIR : ∃ t, mg "PAIR" = some (.int (2) t)
  kt_int_int : PySem.W.kitOne K (.type "int") (.type "int") = some true
  kt_int_bool : PySem.W.kitOne K (.type "int") (.type "bool") = some false
  kt_int_tuple : PySem.W.kitOne K (.type "int") (.type "tuple") = some false
  kt_int_str : PySem.W.kitOne K (.type "int") (.type "str") = some false
  kt_int_Amount : PySem.W.kitOne K (.type "int") (.ref (He.ga K "Amount")) = some false
  kt_int_Source : PySem.W.kitOne K (.type "int") (.ref (He.ga K "Source")) = some false
  kt_bool_int : PySem.W.kitOne K (.type "bool") (.type "int") = some true
  kt_bool_bool : PySem.W.kitOne K (.type "bool") (.type "bool") = some true
  kt_bool_tuple : PySem.W.kitOne K (.type "bool") (.type "tuple") = some false
  kt_bool_str : PySem.W.kitOne K (.type "bool") (.type "str") = some false
  kt_bool_Amount : PySem.W.kitOne K (.type "bool") (.ref (He.ga K "Amount")) = some false
  kt_bool_Source : PySem.W.kitOne K (.type "bool") (.ref (He.ga K "Source")) = some false
  kt_tuple_int : PySem.W.kitOne K (.type "tuple") (.type "int") = some false
  kt_tuple_bool : PySem.W.kitOne K (.type "tuple") (.type "bool") = some false
  kt_tuple_tuple : PySem.W.kitOne K (.type "tuple") (.type "tuple") = some true
  kt_tuple_str : PySem.W.kitOne K (.type "tuple") (.type "str") = some false
  kt_tuple_Amount : PySem.W.kitOne K (.type "tuple") (.ref (He.ga K "Amount")) = some false
  kt_tuple_Source : PySem.W.kitOne K (.type "tuple") (.ref (He.ga K "Source")) = some false
  kt_str_int : PySem.W.kitOne K (.type "str") (.type "int") = some false
  kt_str_bool : PySem.W.kitOne K (.type "str") (.type "bool") = some false
  kt_str_tuple : PySem.W.kitOne K (.type "str") (.type "tuple") = some false
  kt_str_str : PySem.W.kitOne K (.type "str") (.type "str") = some true
  kt_str_Amount : PySem.W.kitOne K (.type "str") (.ref (He.ga K "Amount")) = some false
  kt_str_Source : PySem.W.kitOne K (.type "str") (.ref (He.ga K "Source")) = some false
  kt_list_int : PySem.W.kitOne K (.type "list") (.type "int") = some false
  kt_list_bool : PySem.W.kitOne K (.type "list") (.type "bool") = some false
  kt_list_tuple : PySem.W.kitOne K (.type "list") (.type "tuple") = some false
  kt_list_str : PySem.W.kitOne K (.type "list") (.type "str") = some false
  kt_list_Amount : PySem.W.kitOne K (.type "list") (.ref (He.ga K "Amount")) = some false
  kt_list_Source : PySem.W.kitOne K (.type "list") (.ref (He.ga K "Source")) = some false
  kt_NoneType_int : PySem.W.kitOne K (.type "NoneType") (.type "int") = some false
  kt_NoneType_bool : PySem.W.kitOne K (.type "NoneType") (.type "bool") = some false
  kt_NoneType_tuple : PySem.W.kitOne K (.type "NoneType") (.type "tuple") = some false
  kt_NoneType_str : PySem.W.kitOne K (.type "NoneType") (.type "str") = some false
  kt_NoneType_Amount : PySem.W.kitOne K (.type "NoneType") (.ref (He.ga K "Amount")) = some false
  kt_NoneType_Source : PySem.W.kitOne K (.type "NoneType") (.ref (He.ga K "Source")) = some false
  ne_Amount : NeF K (He.ga K "Amount")
  ne_Source : NeF K (He.ga K "Source")
  e_common : ∃ fd, FunD K "common" "common" (defArgs s_common) (defBody s_common) (defScope s_common) [] [] (He.ga K "common") fd
  e_is_integer : ∃ fd, FunD K "is_integer" "is_integer" (defArgs s_is_integer) (defBody s_is_integer) (defScope s_is_integer) [.non, .non] [] (He.ga K "is_integer") fd
  e_is_ratio : ∃ fd, FunD K "is_ratio" "is_ratio" (defArgs s_is_ratio) (defBody s_is_ratio) (defScope s_is_ratio) [] [] (He.ga K "is_ratio") fd
  e_Amount_init : ∃ fd, FunD K "__init__" "Amount.__init__" (defArgs s_Amount_init) (defBody s_Amount_init) (defScope s_Amount_init) [.int 1] [] (He.ma K (He.ga K "Amount") "__init__") fd
  e_Amount_pair : ∃ fd, FunD K "pair" "Amount.pair" (defArgs s_Amount_pair) (defBody s_Amount_pair) (defScope s_Amount_pair) [] [] (He5.wf K (He.ga K "Amount") "property" "pair") fd
  e_Amount_over : ∃ fd, FunD K "over" "Amount.over" (defArgs s_Amount_over) (defBody s_Amount_over) (defScope s_Amount_over) [] [] (He.ma K (He.ga K "Amount") "over") fd
  e_Amount_add : ∃ fd, FunD K "__add__" "Amount.__add__" (defArgs s_Amount_add) (defBody s_Amount_add) (defScope s_Amount_add) [] [] (He.ma K (He.ga K "Amount") "__add__") fd
  e_Amount_sub : ∃ fd, FunD K "__sub__" "Amount.__sub__" (defArgs s_Amount_sub) (defBody s_Amount_sub) (defScope s_Amount_sub) [] [] (He.ma K (He.ga K "Amount") "__sub__") fd
  e_Amount_mul : ∃ fd, FunD K "__mul__" "Amount.__mul__" (defArgs s_Amount_mul) (defBody s_Amount_mul) (defScope s_Amount_mul) [] [] (He.ma K (He.ga K "Amount") "__mul__") fd
  e_Amount_eq : ∃ fd, FunD K "__eq__" "Amount.__eq__" (defArgs s_Amount_eq) (defBody s_Amount_eq) (defScope s_Amount_eq) [] [] (He.ma K (He.ga K "Amount") "__eq__") fd
  e_Amount_lt : ∃ fd, FunD K "__lt__" "Amount.__lt__" (defArgs s_Amount_lt) (defBody s_Amount_lt) (defScope s_Amount_lt) [] [] (He.ma K (He.ga K "Amount") "__lt__") fd
  e_Amount_le : ∃ fd, FunD K "__le__" "Amount.__le__" (defArgs s_Amount_le) (defBody s_Amount_le) (defScope s_Amount_le) [] [] (He.ma K (He.ga K "Amount") "__le__") fd
  e_amount_of : ∃ fd, FunD K "amount_of" "amount_of" (defArgs s_amount_of) (defBody s_amount_of) (defScope s_amount_of) [] [] (He.ga K "amount_of") fd
  e_nought : ∃ fd, FunD K "nought" "nought" (defArgs s_nought) (defBody s_nought) (defScope s_nought) [] [] (He.ga K "nought") fd
  e_unit : ∃ fd, FunD K "unit" "unit" (defArgs s_unit) (defBody s_unit) (defScope s_unit) [] [] (He.ga K "unit") fd
  e_check_ratio : ∃ fd, FunD K "check_ratio" "check_ratio" (defArgs s_check_ratio) (defBody s_check_ratio) (defScope s_check_ratio) [] [] (He.ga K "check_ratio") fd
  e_Source_init : ∃ fd, FunD K "__init__" "Source.__init__" (defArgs s_Source_init) (defBody s_Source_init) (defScope s_Source_init) [] [] (He.ma K (He.ga K "Source") "__init__") fd
  e_Source_volts : ∃ fd, FunD K "volts" "Source.volts" (defArgs s_Source_volts) (defBody s_Source_volts) (defScope s_Source_volts) [] [] (He5.wf K (He.ga K "Source") "property" "volts") fd
  e_Source_ohms : ∃ fd, FunD K "ohms" "Source.ohms" (defArgs s_Source_ohms) (defBody s_Source_ohms) (defScope s_Source_ohms) [] [] (He5.wf K (He.ga K "Source") "property" "ohms") fd
  e_Source_at : ∃ fd, FunD K "at" "Source.at" (defArgs s_Source_at) (defBody s_Source_at) (defScope s_Source_at) [] [] (He.ma K (He.ga K "Source") "at") fd
  e_Source_under : ∃ fd, FunD K "under" "Source.under" (defArgs s_Source_under) (defBody s_Source_under) (defScope s_Source_under) [] [] (He.ma K (He.ga K "Source") "under") fd
  e_Source_add : ∃ fd, FunD K "__add__" "Source.__add__" (defArgs s_Source_add) (defBody s_Source_add) (defScope s_Source_add) [] [] (He.ma K (He.ga K "Source") "__add__") fd
  e_Source_and : ∃ fd, FunD K "__and__" "Source.__and__" (defArgs s_Source_and) (defBody s_Source_and) (defScope s_Source_and) [] [] (He.ma K (He.ga K "Source") "__and__") fd
  e_Source_mul : ∃ fd, FunD K "__mul__" "Source.__mul__" (defArgs s_Source_mul) (defBody s_Source_mul) (defScope s_Source_mul) [] [] (He.ma K (He.ga K "Source") "__mul__") fd
  e_Source_rmul : ∃ fd, FunD K "__rmul__" "Source.__rmul__" (defArgs s_Source_rmul) (defBody s_Source_rmul) (defScope s_Source_rmul) [] [] (He.ma K (He.ga K "Source") "__rmul__") fd
  e_Source_ge : ∃ fd, FunD K "__ge__" "Source.__ge__" (defArgs s_Source_ge) (defBody s_Source_ge) (defScope s_Source_ge) [] [] (He.ma K (He.ga K "Source") "__ge__") fd
  e_Source_le : ∃ fd, FunD K "__le__" "Source.__le__" (defArgs s_Source_le) (defBody s_Source_le) (defScope s_Source_le) [] [] (He.ma K (He.ga K "Source") "__le__") fd
  e_Source_eq : ∃ fd, FunD K "__eq__" "Source.__eq__" (defArgs s_Source_eq) (defBody s_Source_eq) (defScope s_Source_eq) [] [] (He.ma K (He.ga K "Source") "__eq__") fd
  e_source_of : ∃ fd, FunD K "source_of" "source_of" (defArgs s_source_of) (defBody s_source_of) (defScope s_source_of) [] [] (He.ga K "source_of") fd
  e_share_beside : ∃ fd, FunD K "share_beside" "share_beside" (defArgs s_share_beside) (defBody s_share_beside) (defScope s_share_beside) [] [] (He.ga K "share_beside") fd
  e_read_beside : ∃ fd, FunD K "read_beside" "read_beside" (defArgs s_read_beside) (defBody s_read_beside) (defScope s_read_beside) [] [] (He.ga K "read_beside") fd
  e_is_as_strong : ∃ fd, FunD K "is_as_strong" "is_as_strong" (defArgs s_is_as_strong) (defBody s_is_as_strong) (defScope s_is_as_strong) [] [] (He.ga K "is_as_strong") fd
  e_law_pot : ∃ fd, FunD K "_law_pot" "_law_pot" (defArgs s_law_pot) (defBody s_law_pot) (defScope s_law_pot) [] [] (He.ga K "_law_pot") fd
  e_law_take : ∃ fd, FunD K "_law_take" "_law_take" (defArgs s_law_take) (defBody s_law_take) (defScope s_law_take) [] [] (He.ga K "_law_take") fd
  e_law_of : ∃ fd, FunD K "_law_of" "_law_of" (defArgs s_law_of) (defBody s_law_of) (defScope s_law_of) [] [] (He.ga K "_law_of") fd
  e_law_cells : ∃ fd, FunD K "_law_cells" "_law_cells" (defArgs s_law_cells) (defBody s_law_cells) (defScope s_law_cells) [] [] (He.ga K "_law_cells") fd
  e_law_common : ∃ fd, FunD K "_law_common" "_law_common" (defArgs s_law_common) (defBody s_law_common) (defScope s_law_common) [] [] (He.ga K "_law_common") fd
  e_law_pair : ∃ fd, FunD K "_law_pair" "_law_pair" (defArgs s_law_pair) (defBody s_law_pair) (defScope s_law_pair) [] [] (He.ga K "_law_pair") fd
  e_law_plus : ∃ fd, FunD K "_law_plus" "_law_plus" (defArgs s_law_plus) (defBody s_law_plus) (defScope s_law_plus) [] [] (He.ga K "_law_plus") fd
  e_law_times : ∃ fd, FunD K "_law_times" "_law_times" (defArgs s_law_times) (defBody s_law_times) (defScope s_law_times) [] [] (He.ga K "_law_times") fd
  e_law_over : ∃ fd, FunD K "_law_over" "_law_over" (defArgs s_law_over) (defBody s_law_over) (defScope s_law_over) [] [] (He.ga K "_law_over") fd
  e_law_ratio : ∃ fd, FunD K "_law_ratio" "_law_ratio" (defArgs s_law_ratio) (defBody s_law_ratio) (defScope s_law_ratio) [] [] (He.ga K "_law_ratio") fd
  e_law_is_beside : ∃ fd, FunD K "_law_is_beside" "_law_is_beside" (defArgs s_law_is_beside) (defBody s_law_is_beside) (defScope s_law_is_beside) [] [] (He.ga K "_law_is_beside") fd
  e_law_are_joined : ∃ fd, FunD K "_law_are_joined" "_law_are_joined" (defArgs s_law_are_joined) (defBody s_law_are_joined) (defScope s_law_are_joined) [] [] (He.ga K "_law_are_joined") fd
  e_law_is_carried : ∃ fd, FunD K "_law_is_carried" "_law_is_carried" (defArgs s_law_is_carried) (defBody s_law_is_carried) (defScope s_law_is_carried) [] [] (He.ga K "_law_is_carried") fd
  e_law_right : ∃ fd, FunD K "_law_right" "_law_right" (defArgs s_law_right) (defBody s_law_right) (defScope s_law_right) [] [] (He.ga K "_law_right") fd
  e_law : ∃ fd, FunD K "law" "law" (defArgs s_law) (defBody s_law) (defScope s_law) [] [] (He.ga K "law") fd
theorem tx_mk {K : PySem.W.Frag} {h : Heap} {mg : Str → Option Value} (X : K.In h) (G : h.Ns mainGlobals mg) (c : SaysC fa fn K) : Tx K mg where
  g_common := Fc.glo_ok X G (c.fact 0 rfl)
  g_is_integer := Fc.glo_ok X G (c.fact 1 rfl)
  g_is_ratio := Fc.glo_ok X G (c.fact 2 rfl)
  g_amount_of := Fc.glo_ok X G (c.fact 3 rfl)
  g_nought := Fc.glo_ok X G (c.fact 4 rfl)
  g_unit := Fc.glo_ok X G (c.fact 5 rfl)
  g_check_ratio := Fc.glo_ok X G (c.fact 6 rfl)
  g_source_of := Fc.glo_ok X G (c.fact 7 rfl)
  g_share_beside := Fc.glo_ok X G (c.fact 8 rfl)
  g_read_beside := Fc.glo_ok X G (c.fact 9 rfl)
  g_is_as_strong := Fc.glo_ok X G (c.fact 10 rfl)
  g_law_pot := Fc.glo_ok X G (c.fact 11 rfl)
  g_law_take := Fc.glo_ok X G (c.fact 12 rfl)
  g_law_of := Fc.glo_ok X G (c.fact 13 rfl)
  g_law_cells := Fc.glo_ok X G (c.fact 14 rfl)
  g_law_common := Fc.glo_ok X G (c.fact 15 rfl)
  g_law_pair := Fc.glo_ok X G (c.fact 16 rfl)
  g_law_plus := Fc.glo_ok X G (c.fact 17 rfl)
  g_law_times := Fc.glo_ok X G (c.fact 18 rfl)
  g_law_over := Fc.glo_ok X G (c.fact 19 rfl)
  g_law_ratio := Fc.glo_ok X G (c.fact 20 rfl)
  g_law_is_beside := Fc.glo_ok X G (c.fact 21 rfl)
  g_law_are_joined := Fc.glo_ok X G (c.fact 22 rfl)
  g_law_is_carried := Fc.glo_ok X G (c.fact 23 rfl)
  g_law_right := Fc.glo_ok X G (c.fact 24 rfl)
  g_Amount := Fc.glo_ok X G (c.fact 25 rfl)
  c_Amount := Fc.scls_ok (c.fact 26 rfl)
  sl_Amount_bottom := Fc.slot_ok (c.fact 27 rfl)
  sl_Amount_top := Fc.slot_ok (c.fact 28 rfl)
  i_Amount := Fc.sisi_ok (c.fact 29 rfl)
  sf_Amount := (c.fact 30 rfl)
  nf_Amount := (c.fact 31 rfl)
  kt_Amount_Amount := Fc.kit_ok (c.fact 32 rfl)
  kt_Amount_Source := Fc.kit_ok (c.fact 33 rfl)
  kt_Amount_int := Fc.kit_ok (c.fact 34 rfl)
  kt_Amount_bool := Fc.kit_ok (c.fact 35 rfl)
  kt_Amount_tuple := Fc.kit_ok (c.fact 36 rfl)
  kt_Amount_str := Fc.kit_ok (c.fact 37 rfl)
  g_Source := Fc.glo_ok X G (c.fact 38 rfl)
  c_Source := Fc.scls_ok (c.fact 39 rfl)
  sl_Source_own_ohms := Fc.slot_ok (c.fact 40 rfl)
  sl_Source_own_volts := Fc.slot_ok (c.fact 41 rfl)
  i_Source := Fc.sisi_ok (c.fact 42 rfl)
  sf_Source := (c.fact 43 rfl)
  nf_Source := (c.fact 44 rfl)
  kt_Source_Amount := Fc.kit_ok (c.fact 45 rfl)
  kt_Source_Source := Fc.kit_ok (c.fact 46 rfl)
  kt_Source_int := Fc.kit_ok (c.fact 47 rfl)
  kt_Source_bool := Fc.kit_ok (c.fact 48 rfl)
  kt_Source_tuple := Fc.kit_ok (c.fact 49 rfl)
  kt_Source_str := Fc.kit_ok (c.fact 50 rfl)
  mk_Amount := Fc.mkr_ok (c.fact 51 rfl)
  p_Amount_pair := Fc.prop_ok (c.fact 52 rfl)
  m_Amount_over := Fc.meth_ok (c.fact 53 rfl)
  o_Amount_add := Fc.own_ok (c.fact 54 rfl)
  o_Amount_sub := Fc.own_ok (c.fact 55 rfl)
  o_Amount_mul := Fc.own_ok (c.fact 56 rfl)
  o_Amount_eq := Fc.own_ok (c.fact 57 rfl)
  o_Amount_lt := Fc.own_ok (c.fact 58 rfl)
  o_Amount_le := Fc.own_ok (c.fact 59 rfl)
  mk_Source := Fc.mkr_ok (c.fact 60 rfl)
  p_Source_volts := Fc.prop_ok (c.fact 61 rfl)
  p_Source_ohms := Fc.prop_ok (c.fact 62 rfl)
  m_Source_at := Fc.meth_ok (c.fact 63 rfl)
  m_Source_under := Fc.meth_ok (c.fact 64 rfl)
  o_Source_add := Fc.own_ok (c.fact 65 rfl)
  o_Source_and := Fc.own_ok (c.fact 66 rfl)
  o_Source_mul := Fc.own_ok (c.fact 67 rfl)
  o_Source_rmul := Fc.own_ok (c.fact 68 rfl)
  o_Source_ge := Fc.own_ok (c.fact 69 rfl)
  o_Source_le := Fc.own_ok (c.fact 70 rfl)
  o_Source_eq := Fc.own_ok (c.fact 71 rfl)
  f_NotImplemented := Fc.free_ok X G (c.fact 72 rfl)
  f_ValueError := Fc.free_ok X G (c.fact 73 rfl)
  f_abs := Fc.free_ok X G (c.fact 74 rfl)
  f_all := Fc.free_ok X G (c.fact 75 rfl)
  f_bool := Fc.free_ok X G (c.fact 76 rfl)
  f_int := Fc.free_ok X G (c.fact 77 rfl)
  f_isinstance := Fc.free_ok X G (c.fact 78 rfl)
  f_len := Fc.free_ok X G (c.fact 79 rfl)
  f_list := Fc.free_ok X G (c.fact 80 rfl)
  f_max := Fc.free_ok X G (c.fact 81 rfl)
  f_min := Fc.free_ok X G (c.fact 82 rfl)
  f_property := Fc.free_ok X G (c.fact 83 rfl)
  f_range := Fc.free_ok X G (c.fact 84 rfl)
  f_repr := Fc.free_ok X G (c.fact 85 rfl)
  f_super := Fc.free_ok X G (c.fact 86 rfl)
  f_tuple := Fc.free_ok X G (c.fact 87 rfl)
  v_PAIR := Fc.int_ok X G (c.fact 88 rfl)
  kt_int_int := Fc.kit_ok (c.fact 89 rfl)
  kt_int_bool := Fc.kit_ok (c.fact 90 rfl)
  kt_int_tuple := Fc.kit_ok (c.fact 91 rfl)
  kt_int_str := Fc.kit_ok (c.fact 92 rfl)
  kt_int_Amount := Fc.kit_ok (c.fact 93 rfl)
  kt_int_Source := Fc.kit_ok (c.fact 94 rfl)
  kt_bool_int := Fc.kit_ok (c.fact 95 rfl)
  kt_bool_bool := Fc.kit_ok (c.fact 96 rfl)
  kt_bool_tuple := Fc.kit_ok (c.fact 97 rfl)
  kt_bool_str := Fc.kit_ok (c.fact 98 rfl)
  kt_bool_Amount := Fc.kit_ok (c.fact 99 rfl)
  kt_bool_Source := Fc.kit_ok (c.fact 100 rfl)
  kt_tuple_int := Fc.kit_ok (c.fact 101 rfl)
  kt_tuple_bool := Fc.kit_ok (c.fact 102 rfl)
  kt_tuple_tuple := Fc.kit_ok (c.fact 103 rfl)
  kt_tuple_str := Fc.kit_ok (c.fact 104 rfl)
  kt_tuple_Amount := Fc.kit_ok (c.fact 105 rfl)
  kt_tuple_Source := Fc.kit_ok (c.fact 106 rfl)
  kt_str_int := Fc.kit_ok (c.fact 107 rfl)
  kt_str_bool := Fc.kit_ok (c.fact 108 rfl)
  kt_str_tuple := Fc.kit_ok (c.fact 109 rfl)
  kt_str_str := Fc.kit_ok (c.fact 110 rfl)
  kt_str_Amount := Fc.kit_ok (c.fact 111 rfl)
  kt_str_Source := Fc.kit_ok (c.fact 112 rfl)
  kt_list_int := Fc.kit_ok (c.fact 113 rfl)
  kt_list_bool := Fc.kit_ok (c.fact 114 rfl)
  kt_list_tuple := Fc.kit_ok (c.fact 115 rfl)
  kt_list_str := Fc.kit_ok (c.fact 116 rfl)
  kt_list_Amount := Fc.kit_ok (c.fact 117 rfl)
  kt_list_Source := Fc.kit_ok (c.fact 118 rfl)
  kt_NoneType_int := Fc.kit_ok (c.fact 119 rfl)
  kt_NoneType_bool := Fc.kit_ok (c.fact 120 rfl)
  kt_NoneType_tuple := Fc.kit_ok (c.fact 121 rfl)
  kt_NoneType_str := Fc.kit_ok (c.fact 122 rfl)
  kt_NoneType_Amount := Fc.kit_ok (c.fact 123 rfl)
  kt_NoneType_Source := Fc.kit_ok (c.fact 124 rfl)
  ne_Amount := Fc.nei_ok (c.fact 125 rfl)
  ne_Source := Fc.nei_ok (c.fact 126 rfl)
  e_common := c.def_ 0 (d := d_common) rfl
  e_is_integer := c.def_ 1 (d := d_is_integer) rfl
  e_is_ratio := c.def_ 2 (d := d_is_ratio) rfl
  e_Amount_init := c.def_ 3 (d := d_Amount_init) rfl
  e_Amount_pair := c.def_ 4 (d := d_Amount_pair) rfl
  e_Amount_over := c.def_ 5 (d := d_Amount_over) rfl
  e_Amount_add := c.def_ 6 (d := d_Amount_add) rfl
  e_Amount_sub := c.def_ 7 (d := d_Amount_sub) rfl
  e_Amount_mul := c.def_ 8 (d := d_Amount_mul) rfl
  e_Amount_eq := c.def_ 9 (d := d_Amount_eq) rfl
  e_Amount_lt := c.def_ 10 (d := d_Amount_lt) rfl
  e_Amount_le := c.def_ 11 (d := d_Amount_le) rfl
  e_amount_of := c.def_ 12 (d := d_amount_of) rfl
  e_nought := c.def_ 13 (d := d_nought) rfl
  e_unit := c.def_ 14 (d := d_unit) rfl
  e_check_ratio := c.def_ 15 (d := d_check_ratio) rfl
  e_Source_init := c.def_ 16 (d := d_Source_init) rfl
  e_Source_volts := c.def_ 17 (d := d_Source_volts) rfl
  e_Source_ohms := c.def_ 18 (d := d_Source_ohms) rfl
  e_Source_at := c.def_ 19 (d := d_Source_at) rfl
  e_Source_under := c.def_ 20 (d := d_Source_under) rfl
  e_Source_add := c.def_ 21 (d := d_Source_add) rfl
  e_Source_and := c.def_ 22 (d := d_Source_and) rfl
  e_Source_mul := c.def_ 23 (d := d_Source_mul) rfl
  e_Source_rmul := c.def_ 24 (d := d_Source_rmul) rfl
  e_Source_ge := c.def_ 25 (d := d_Source_ge) rfl
  e_Source_le := c.def_ 26 (d := d_Source_le) rfl
  e_Source_eq := c.def_ 27 (d := d_Source_eq) rfl
  e_source_of := c.def_ 28 (d := d_source_of) rfl
  e_share_beside := c.def_ 29 (d := d_share_beside) rfl
  e_read_beside := c.def_ 30 (d := d_read_beside) rfl
  e_is_as_strong := c.def_ 31 (d := d_is_as_strong) rfl
  e_law_pot := c.def_ 32 (d := d_law_pot) rfl
  e_law_take := c.def_ 33 (d := d_law_take) rfl
  e_law_of := c.def_ 34 (d := d_law_of) rfl
  e_law_cells := c.def_ 35 (d := d_law_cells) rfl
  e_law_common := c.def_ 36 (d := d_law_common) rfl
  e_law_pair := c.def_ 37 (d := d_law_pair) rfl
  e_law_plus := c.def_ 38 (d := d_law_plus) rfl
  e_law_times := c.def_ 39 (d := d_law_times) rfl
  e_law_over := c.def_ 40 (d := d_law_over) rfl
  e_law_ratio := c.def_ 41 (d := d_law_ratio) rfl
  e_law_is_beside := c.def_ 42 (d := d_law_is_beside) rfl
  e_law_are_joined := c.def_ 43 (d := d_law_are_joined) rfl
  e_law_is_carried := c.def_ 44 (d := d_law_is_carried) rfl
  e_law_right := c.def_ 45 (d := d_law_right) rfl
  e_law := c.def_ 46 (d := d_law) rfl
/-! ### the run of the top -/
abbrev R : PySem.W.OpenRow := PySem.W.OpenLaw.row PySem.Challenge.rw_rangehunt_k04_whole_loads_are_sources_of
abbrev hk : PySem.W.Hook := hookC 6 fa fn
def ob (s : PySem.W.SharedT) : He.AlD := obsCG 6 fa fn (HandSHeadRun.getT s)
theorem ob_eq (s : PySem.W.SharedT) : ob s = hk.obs s.abs := obsCG_eq (HandSHeadRun.getT_eq s)
def ln0 : List PySem.Str := ["_wall", "PAIR", "common", "is_integer", "is_ratio", "Amount", "amount_of", "nought", "unit", "MeterError", "BadRatio", "Short", "BadMany", "check_ratio", "Source", "source_of", "share_beside", "read_beside", "is_as_strong", "_law_pot", "_law_take", "_law_of", "_law_cells", "_law_common", "_law_pair", "_law_plus", "_law_times", "_law_over", "_law_ratio", "_law_is_beside"]
def ln1 : List PySem.Str := ["_law_are_joined", "_law_is_carried", "_law_right"]
def loose : List PySem.Str := ln0 ++ ln1
def lawAt : Nat := 37
end Lw
namespace Lw
open PySem PySem.Spec PyProof.Rows L2 DL
local macro_rules | `(tactic| fail "vis") => `(tactic| first | exact Or.inl rfl | exact Or.inr (Or.inl rfl) | exact Or.inr (Or.inr rfl))
local macro_rules | `(tactic| fail "c") => `(tactic| first
  | ((with_reducible refine at_call "abs" ?_); refine we_callB rfl (Tx.f_abs (by assumption)) bb_abs ?_)
  | ((with_reducible refine at_call "len" ?_); refine we_callB rfl (Tx.f_len (by assumption)) bb_len ?_)
  | ((with_reducible refine at_call "int" ?_); refine we_callTy rfl (Tx.f_int (by assumption)) bt_int ?_)
  | ((with_reducible refine at_call "isinstance" ?_); refine we_callB rfl (Tx.f_isinstance (by assumption)) bb_isinstance ?_)
  | ((with_reducible refine at_call "repr" ?_); refine we_callB rfl (Tx.f_repr (by assumption)) bb_repr ?_)
  | ((with_reducible refine at_call "all" ?_); refine we_callB rfl (Tx.f_all (by assumption)) bb_all ?_)
  | ((with_reducible refine at_call "any" ?_); refine we_callB rfl (Tx.f_any (by assumption)) bb_any ?_)
  | ((with_reducible refine at_call "max" ?_); refine we_callB rfl (Tx.f_max (by assumption)) bb_max ?_)
  | ((with_reducible refine at_call "min" ?_); refine we_callB rfl (Tx.f_min (by assumption)) bb_min ?_))
local macro_rules | `(tactic| fail "g") => `(tactic| first
  | ((with_reducible refine at_name "int" ?_); refine we_gty rfl (Tx.f_int (by assumption)) bt_int ?_)
  | ((with_reducible refine at_name "bool" ?_); refine we_gty rfl (Tx.f_bool (by assumption)) bt_bool ?_)
  | ((with_reducible refine at_name "tuple" ?_); refine we_gty rfl (Tx.f_tuple (by assumption)) bt_tuple ?_)
  | ((with_reducible refine at_name "PAIR" ?_); refine we_gintE (Tx.v_PAIR (by assumption)) rfl ?_)
  | ((with_reducible refine at_name "Amount" ?_); refine we_gref rfl (Tx.g_Amount (by assumption)).1 ?_)
  | ((with_reducible refine at_name "Source" ?_); refine we_gref rfl (Tx.g_Source (by assumption)).1 ?_))
local macro_rules | `(tactic| fail "a") => `(tactic| first
  | ((with_reducible refine at_wat "top" ?_); refine wat_slot (c := 0) (Tx.c_Amount (by assumption)) (Tx.sl_Amount_top (by assumption)) rfl ?_)
  | ((with_reducible refine at_wat "bottom" ?_); refine wat_slot (c := 0) (Tx.c_Amount (by assumption)) (Tx.sl_Amount_bottom (by assumption)) rfl ?_)
  | ((with_reducible refine at_wat "own_volts" ?_); refine wat_slot (c := 1) (Tx.c_Source (by assumption)) (Tx.sl_Source_own_volts (by assumption)) rfl ?_)
  | ((with_reducible refine at_wat "own_ohms" ?_); refine wat_slot (c := 1) (Tx.c_Source (by assumption)) (Tx.sl_Source_own_ohms (by assumption)) rfl ?_))
local macro_rules | `(tactic| fail "o") => `(tactic| first
  | ((with_reducible refine at_bin .Add ?_); refine wo_add ?_) | ((with_reducible refine at_bin .Sub ?_); refine wo_sub ?_)
  | ((with_reducible refine at_cmp .Lt ?_); refine wo_lt ?_) | ((with_reducible refine at_cmp .LtE ?_); refine wo_le ?_) | ((with_reducible refine at_cmp .Gt ?_); refine wo_gt ?_) | ((with_reducible refine at_cmp .GtE ?_); refine wo_ge ?_)
  | ((with_reducible refine at_cmp .Eq ?_); first | refine wo_eqI ?_ | refine wo_eqB ?_ | refine wo_eqS ?_)
  | ((with_reducible refine at_cmp .NotEq ?_); first | refine wo_neI ?_ | refine wo_neB ?_ | refine wo_neS ?_)
  | ((with_reducible refine at_cmp .Is ?_); refine wo_isN ?_) | ((with_reducible refine at_cmp .IsNot ?_); refine wo_notN ?_))
local macro_rules | `(tactic| fail "w") => `(tactic| first
  | ((with_reducible refine e_name ?_); first | fail "v" | fail "g")
  | ((with_reducible refine e_attr ?_); refine we_attr ?_)
  | ((with_reducible refine e_call ?_); fail "c")
  | ((with_reducible refine e_const ?_); first | refine we_int ?_ | refine we_bl ?_ | refine we_non ?_ | refine we_str ?_)
  | ((with_reducible refine e_bin ?_); refine we_bin ?_)
  | ((with_reducible refine e_sub ?_); refine we_ix ?_)
  | ((with_reducible refine e_callm ?_); fail "m")
  | ((with_reducible refine e_cmp ?_); refine we_cmp ?_)
  | ((with_reducible refine e_tup ?_); refine we_tup ?_))
local macro_rules | `(tactic| fail "x") => `(tactic| first
  | ((with_reducible refine j_we ?_); fail "w")
  | ((with_reducible refine j_wa ?_); first | refine wa_cons ?_ | refine wa_nil ?_)
  | ((with_reducible refine j_wat ?_); fail "a")
  | ((with_reducible refine j_wo ?_); fail "o")
  | ((with_reducible refine j_wix ?_); refine wix_tup rfl ?_)
  | (with_reducible refine a_len ?_ rfl)
  | ((with_reducible refine a_obj ?_); refine ⟨_, rfl, ?_⟩)
  | ((with_reducible refine t_cmp ?_); refine wt_cmp ?_))
local macro_rules | `(tactic| fail "e") => `(tactic| first | fail "x" | ((with_reducible refine j_ret ?_); refine ws_ret ?_) | ((with_reducible refine j_wss ?_); first | refine wss_one ?_ | refine wss_cons ?_))
variable {P : Program} {w : World} {K : PySem.W.Frag} {mg : Str → Option Value} {base : Heap}

def S_common : FS := fun ds M Φ => ∃ a b : Int, ds = [.int a, .int b] ∧ Φ (.int (Int.gcd a b)) M
section
local macro_rules | `(tactic| fail "v") => `(tactic| first
  | ((with_reducible refine at_name "one" ?_); refine we_var 0 rfl (by fail "vis") rfl ?_)
  | ((with_reducible refine at_name "other" ?_); refine we_var 1 rfl (by fail "vis") rfl ?_))
theorem ok_common (T : Tx K mg) : FnG P w K mg base CX0 (1 + 1) (He.ga K "common") (spD (Cs K) S_common) := by
  obtain ⟨fd, Fd⟩ := T.e_common
  have b := Fd.bindsN (ps := ["one", "other"]) fun _ _ _ _ _ _ us hl => match us, hl with | [_, _], _ => rfl
  refine fn_D [] Fd sc_common b .nil (fun _ _ => .nil) (fun ds M Φ h => by obtain ⟨a, b, rfl, h⟩ := h; rfl) ?_
  rintro cdv A outer s H as M Φ hr ⟨a, b, rfl, h⟩
  refine wss_cons (ws_par 0 1 rfl sc_common.nd rfl rfl (by decide) rfl rfl rfl ?_)
  repeat fail "e"
  refine wc_abs ?_
  repeat fail "e"
  refine wc_abs ?_
  refine wa_nil ⟨_, _, rfl, ?_⟩
  refine wss_cons (ws_while (W := fun m ρ M' => ∃ u v : Int, ρ = [some (.int u), some (.int v)] ∧ M' = M ∧ 0 ≤ u ∧ 0 ≤ v ∧ v.toNat = m ∧ Int.gcd u v = Int.gcd a b) PassesOwn.never _ ⟨_, _, rfl, rfl, ?_, ?_, rfl, ?_⟩ ?_)
  · split <;> omega
  · split <;> omega
  · split <;> split <;> simp
  · rintro m ρ M' ⟨u, v, rfl, rfl, hu, hv, hm, hg⟩
    refine wt_cmp (we_var 1 rfl (.inl rfl) rfl (we_int (wo_gt ⟨_, rfl, fun ht => ?_, fun hf => ?_⟩)))
    · have hv' : 0 < v := of_decide_eq_true ht
      refine wss_one (ws_par 0 1 rfl sc_common.nd rfl rfl (by decide) rfl rfl rfl ?_)
      refine wa_cons (we_var 1 rfl (.inl rfl) rfl (wa_cons (we_bin (we_var 0 rfl (.inl rfl) rfl (we_var 1 rfl (.inl rfl) rfl (wo_mod hv' ?_))))))
      refine wa_nil ⟨_, _, rfl, (u % v).toNat, ?_, v, u % v, rfl, rfl, by omega, Int.emod_nonneg _ (by omega), rfl, ?_⟩
      · have := Int.emod_lt_of_pos u hv'
        have := Int.emod_nonneg u (b := v) (by omega)
        omega
      · rw [← hg]; exact gcd_step hu hv'
    · have hv' : ¬ 0 < v := of_decide_eq_false hf
      have e : v = 0 := by omega
      subst e
      refine wss_one (ws_ret (we_var 0 rfl (.inl rfl) rfl ?_))
      have e2 : u = (Int.gcd a b : Int) := by rw [← hg]; simp; omega
      rw [e2]; exact h
end
local macro_rules | `(tactic| fail "c") => `(tactic| ((with_reducible refine at_call "common" ?_); refine we_call (ok_common (by assumption)) (Rm.mono (by assumption) (by decide)) rfl (Tx.g_common (by assumption)).1 (Tx.g_common (by assumption)).2 ?_))
def S_is_integer2 : FS := fun ds M Φ => ∃ i lo : Int, ds = [.int i, .int lo] ∧ Φ (.bl (decide (lo ≤ i))) M
section
local macro_rules | `(tactic| fail "v") => `(tactic| first
  | ((with_reducible refine at_name "value" ?_); refine we_var 0 rfl (by fail "vis") rfl ?_)
  | ((with_reducible refine at_name "low" ?_); refine we_var 1 rfl (by fail "vis") rfl ?_)
  | ((with_reducible refine at_name "high" ?_); refine we_var 2 rfl (by fail "vis") rfl ?_))
theorem ok_is_integer2 (T : Tx K mg) : FnG P w K mg base CX0 (0 + 1) (He.ga K "is_integer") (spD (Cs K) S_is_integer2) := by
  obtain ⟨fd, Fd⟩ := T.e_is_integer
  obtain ⟨ds, hd, b⟩ := Fd.binds1 (ps := ["value", "low", "high"]) 2 1 (by simp) rfl fun _ _ _ _ _ _ _ us its h1 h2 => match us, its, h1, h2 with | [_, _], [_, _], _, _ => ⟨_, rfl, rfl⟩
  refine fn_D [.non] Fd sc_is_integer b hd (fun _ _ => .cons .non .nil) (fun ds M Φ h => by obtain ⟨i, lo, rfl, h⟩ := h; rfl) ?_
  rintro cdv A outer s H as M Φ hr ⟨i, lo, rfl, h⟩
  refine wss_cons (ws_if ?_)
  refine WW.wt (ww_or (wt_not (wt_val ?_)))
  repeat fail "e"
  refine wc_isi rfl T.kt_int_int ⟨_, rfl, nofun, fun _ => ?_⟩
  refine ww_or1 (wt_val ?_)
  repeat fail "e"
  refine wc_isi rfl T.kt_int_bool ⟨_, rfl, nofun, fun _ => wss_nil ?_⟩
  refine wss_one (ws_ret (we_and (we_or ?_)))
  repeat fail "e"
  refine ⟨_, rfl, nofun, fun _ => we_one ?_⟩
  repeat fail "e"
  refine ⟨_, rfl, fun hc => ?_, fun hc => ?_⟩
  · refine we_one (we_or ?_)
    repeat fail "e"
    refine ⟨_, rfl, fun _ => ?_, nofun⟩
    rw [← hc]; exact h
  · rw [← hc]; exact h
end
local macro_rules | `(tactic| fail "c") => `(tactic| ((with_reducible refine at_call "is_integer" ?_); refine we_call (ok_is_integer2 (by assumption)) (Rm.mono (by assumption) (by decide)) rfl (Tx.g_is_integer (by assumption)).1 (Tx.g_is_integer (by assumption)).2 ?_))
def S_is_ratio : FS := fun ds M Φ => ∃ q : Rat, ds = [rt q] ∧ 0 ≤ q ∧ Φ (.bl true) M
section
local macro_rules | `(tactic| fail "v") => `(tactic| first
  | ((with_reducible refine at_name "value" ?_); refine we_var 0 rfl (by fail "vis") rfl ?_))
theorem ok_is_ratio (T : Tx K mg) : FnG P w K mg base CX0 (2 + 1) (He.ga K "is_ratio") (spD (Cs K) S_is_ratio) := by
  obtain ⟨fd, Fd⟩ := T.e_is_ratio
  have b := Fd.bindsN (ps := ["value"]) fun _ _ _ _ _ _ us hl => match us, hl with | [_], _ => rfl
  refine fn_D [] Fd sc_is_ratio b .nil (fun _ _ => .nil) (fun ds M Φ h => by obtain ⟨q, rfl, hq, h⟩ := h; rfl) ?_
  rintro cdv A outer s H as M Φ hr ⟨q, rfl, hq, h⟩
  refine wss_cons (ws_if ?_)
  refine WW.wt (ww_or (wt_not (wt_val ?_)))
  repeat fail "e"
  refine wc_isi rfl T.kt_tuple_tuple ⟨_, rfl, nofun, fun _ => ww_or1 (wt_cmp ?_)⟩
  repeat fail "e"
  refine wc_lenT ?_
  repeat fail "e"
  refine ⟨_, rfl, nofun, fun _ => wss_nil ?_⟩
  refine wss_cons (ws_if ?_)
  refine WW.wt (ww_or (wt_not (wt_val ?_)))
  repeat fail "e"
  refine ⟨_, _, rfl, _, rfl, fun hc => ?_, fun _ => ww_or1 (wt_not (wt_val ?_))⟩
  · have := num_nonneg.mpr hq
    simp [this] at hc
  repeat fail "e"
  refine ⟨_, _, rfl, _, rfl, fun hc => ?_, fun _ => wss_nil ?_⟩
  · have := rat_den_pos q
    have : (1 : Int) ≤ q.den := by omega
    simp [this] at hc
  repeat fail "e"
  refine ⟨_, _, rfl, ?_⟩
  repeat fail "e"
  rw [rat_gcd]
  exact h
end
local macro_rules | `(tactic| fail "c") => `(tactic| ((with_reducible refine at_call "is_ratio" ?_); refine we_call (ok_is_ratio (by assumption)) (Rm.mono (by assumption) (by decide)) rfl (Tx.g_is_ratio (by assumption)).1 (Tx.g_is_ratio (by assumption)).2 ?_))
def S_Amount_init : FS := fun ds M Φ => ∃ (a dx : Addr) (n u : Int), ds = [.ref a, .int n, .int u] ∧ M a = some (.slt 0 dx []) ∧ u ≠ 0 ∧ n.natAbs < 2 ^ 100000 ∧ u.natAbs < 2 ^ 9000 ∧ Φ .non (put M a (.slt 0 dx [some (.int (Rat.divInt n u).den), some (.int (Rat.divInt n u).num)]))
def S_Amount_init1 : FS := fun ds M Φ => ∃ (a dx : Addr) (n : Int), ds = [.ref a, .int n] ∧ M a = some (.slt 0 dx []) ∧ n.natAbs < 2 ^ 100000 ∧ Φ .non (put M a (.slt 0 dx [some (.int (Rat.divInt n 1).den), some (.int (Rat.divInt n 1).num)]))
theorem sg_lt (u : Int) : (if u < 0 then (-1 : Int) else 1).natAbs < 2 ^ 1 := by split <;> decide
section
local macro_rules | `(tactic| fail "v") => `(tactic| first
  | ((with_reducible refine at_name "self" ?_); refine we_var 0 rfl (by fail "vis") rfl ?_)
  | ((with_reducible refine at_name "above" ?_); refine we_var 1 rfl (by fail "vis") rfl ?_)
  | ((with_reducible refine at_name "under" ?_); refine we_var 2 rfl (by fail "vis") rfl ?_)
  | ((with_reducible refine at_name "by" ?_); refine we_var 3 rfl (by fail "vis") rfl ?_)
  | ((with_reducible refine at_name "sign" ?_); refine we_var 4 rfl (by fail "vis") rfl ?_))
theorem body_Amount_init (T : Tx K mg) (cdv : Value) (A : Around) (outer : List PySem.Env) (s : Shared) (H : Hp) (M : Mem) (Φ : D → Mem → Prop) (ad dx : Addr) (n u : Int) (hr : Rm 2 (cxOf CX0 P w K mg base ["self", "above", "under", "by", "sign"] "Amount.__init__" (defScope s_Amount_init) (He.ma K (He.ga K "Amount") "__init__") cdv A outer s H E0).nox.A)
    (hM : M ad = some (.slt 0 dx [])) (hu : u ≠ 0) (hn : n.natAbs < 2 ^ 100000) (hb : u.natAbs < 2 ^ 9000) (h : Φ .non (put M ad (.slt 0 dx [some (.int (Rat.divInt n u).den), some (.int (Rat.divInt n u).num)]))) :
    WSs (Cs K) (cxOf CX0 P w K mg base ["self", "above", "under", "by", "sign"] "Amount.__init__" (defScope s_Amount_init) (He.ma K (He.ga K "Amount") "__init__") cdv A outer s H E0).nox (defBody s_Amount_init) (startE ["self", "above", "under", "by", "sign"] [.ref ad, .int n, .int u]) M { nx := fun _ M' => Φ .non M', rt := Φ } := by
  refine wss_cons (ws_set 3 sc_Amount_init.nd rfl (.inl rfl) ?_)
  repeat fail "e"
  refine ⟨_, _, rfl, ?_⟩
  refine wss_cons (ws_set 4 sc_Amount_init.nd rfl (.inl rfl) (we_if ?_))
  repeat fail "e"
  have key : ∀ sg : Int, sg = (if u < 0 then (-1 : Int) else 1) → WSs (Cs K) (cxOf CX0 P w K mg base ["self", "above", "under", "by", "sign"] "Amount.__init__" (defScope s_Amount_init) (He.ma K (He.ga K "Amount") "__init__") cdv A outer s H E0).nox
      ((defBody s_Amount_init).drop 2) [some (.ref ad), some (.int n), some (.int u), some (.int (Int.gcd n u)), some (.int sg)] M { nx := fun _ M' => Φ .non M', rt := Φ } := by
    intro sg hsg
    refine wss_cons (ws_slot (c := 0) T.c_Amount T.sl_Amount_top ?_)
    repeat fail "e"
    refine wo_mul (wide_mul (by rw [hsg]; exact sg_lt u) hn (by decide) (by decide) (by decide)) ?_
    repeat fail "e"
    refine wo_fdiv (wide_div (gcd_pos hu) (gcd_lt hu hb) (by decide) (by decide)) ?_
    repeat fail "e"
    refine ⟨ad, dx, [], rfl, hM, ?_⟩
    refine wss_one (ws_slot (c := 0) T.c_Amount T.sl_Amount_bottom ?_)
    repeat fail "e"
    refine wo_mul (wide_mul (by rw [hsg]; exact sg_lt u) hb (by decide) (by decide) (by decide)) ?_
    repeat fail "e"
    refine wo_fdiv (wide_div (gcd_pos hu) (gcd_lt hu hb) (by decide) (by decide)) ?_
    repeat fail "e"
    refine ⟨ad, dx, _, rfl, put_same, ?_⟩
    rw [put_put, hsg, top_eq hu, bot_eq hu]
    exact h
  refine ⟨_, rfl, fun hc => ?_, fun hc => ?_⟩
  · have hc' : u < 0 := of_decide_eq_true hc
    refine we_un (we_int (wu_neg ?_))
    exact key _ (by rw [if_pos hc'])
  · have hc' : ¬ u < 0 := of_decide_eq_false hc
    refine we_int ?_
    exact key _ (by rw [if_neg hc'])
end
section
local macro_rules | `(tactic| fail "v") => `(tactic| first
  | ((with_reducible refine at_name "self" ?_); refine we_var 0 rfl (by fail "vis") rfl ?_)
  | ((with_reducible refine at_name "above" ?_); refine we_var 1 rfl (by fail "vis") rfl ?_)
  | ((with_reducible refine at_name "under" ?_); refine we_var 2 rfl (by fail "vis") rfl ?_)
  | ((with_reducible refine at_name "by" ?_); refine we_var 3 rfl (by fail "vis") rfl ?_)
  | ((with_reducible refine at_name "sign" ?_); refine we_var 4 rfl (by fail "vis") rfl ?_))
theorem ok_Amount_init (T : Tx K mg) : FnG P w K mg base CX0 (2 + 1) (He.ma K (He.ga K "Amount") "__init__") (spD (Cs K) S_Amount_init) := by
  obtain ⟨fd, Fd⟩ := T.e_Amount_init
  obtain ⟨ds, hd, b⟩ := Fd.binds1 (ps := ["self", "above", "under"]) 3 1 (by simp) rfl fun _ _ _ _ _ _ _ us its h1 h2 => match us, its, h1, h2 with | [_, _, _], [_], _, _ => ⟨_, rfl, rfl⟩
  refine fn_D [] Fd sc_Amount_init b hd (fun _ _ => .nil) (fun ds M Φ h => by obtain ⟨ad, dx, n, u, rfl, hM, hu, hn, hb, h⟩ := h; rfl) ?_
  rintro cdv A outer s H as M Φ hr ⟨ad, dx, n, u, rfl, hM, hu, hn, hb, h⟩
  exact body_Amount_init T cdv A outer s H M Φ ad dx n u hr hM hu hn hb h
end

section
local macro_rules | `(tactic| fail "v") => `(tactic| first
  | ((with_reducible refine at_name "self" ?_); refine we_var 0 rfl (by fail "vis") rfl ?_)
  | ((with_reducible refine at_name "above" ?_); refine we_var 1 rfl (by fail "vis") rfl ?_)
  | ((with_reducible refine at_name "under" ?_); refine we_var 2 rfl (by fail "vis") rfl ?_)
  | ((with_reducible refine at_name "by" ?_); refine we_var 3 rfl (by fail "vis") rfl ?_)
  | ((with_reducible refine at_name "sign" ?_); refine we_var 4 rfl (by fail "vis") rfl ?_))
theorem ok_Amount_init1 (T : Tx K mg) : FnG P w K mg base CX0 (2 + 1) (He.ma K (He.ga K "Amount") "__init__") (spD (Cs K) S_Amount_init1) := by
  obtain ⟨fd, Fd⟩ := T.e_Amount_init
  obtain ⟨ds, hd, b⟩ := Fd.binds1 (ps := ["self", "above", "under"]) 2 0 (by simp) rfl fun _ _ _ _ _ _ _ us its h1 h2 => match us, its, h1, h2 with | [_, _], [_], _, _ => ⟨_, rfl, rfl⟩
  refine fn_D [.int 1] Fd sc_Amount_init b hd (fun _ _ => .cons (.int 1) .nil) (fun ds M Φ h => by obtain ⟨ad, dx, n, rfl, hM, hn, h⟩ := h; rfl) ?_
  rintro cdv A outer s H as M Φ hr ⟨ad, dx, n, rfl, hM, hn, h⟩
  exact body_Amount_init T cdv A outer s H M Φ ad dx n 1 hr hM (by decide) hn (by decide) h
end

/-! Amount(n, u), Amount(n) -/
theorem we_Amount {X : Cx} {ρ : DL.Env} {M : Mem} {Φ : D → Mem → Prop} {e1 e2 : Expr} {p pos : Pos} (eK : X.K = K) (eM : X.mg = mg) (Fn : FnD (Cs K) X 3 (He.ma K (He.ga K "Amount") "__init__") S_Amount_init) (T : Tx K mg) (hr : Rm 4 X.A) (hg : Gl X "Amount")
    (h : WA (Cs K) X [e1, e2] ρ M fun ds M1 => ∃ n u : Int, ds = [.int n, .int u] ∧ u ≠ 0 ∧ n.natAbs < 2 ^ 100000 ∧ u.natAbs < 2 ^ 9000 ∧ Φ (amt (Rat.divInt n u)) M1)
    (he : starEach [e1, e2] X.env = (false, eval e1 X.env) :: starEach [e2] X.env := by rfl) (hpl : (backTo pos (starEach [e2] X.env)).any (·.1) = false := by rfl) : WE (Cs K) X (.Call (.Name "Amount" p) [e1, e2] [] pos) ρ M Φ := by
  subst eK eM
  refine we_make (n := 0) T.mk_Amount Fn hr hg T.g_Amount.1 (.mk fun F σ H A Q k => h.run F σ H A Q fun vs ds H1 M1 p m r q => k vs ds H1 M1 p m r ?_) (by decide) he hpl
  obtain ⟨n, u, rfl, hu, hn, hb, hΦ⟩ := q
  intro a dx ha hdx hne
  refine ⟨a, dx, n, u, rfl, put_same, hu, hn, hb, rfl, [_, _], by simp, put_same, ?_⟩
  rw [put_put, era_put (by rw [put_ne (Ne.symm hne)]; exact ha), era_put hdx]
  exact hΦ
theorem we_Amount1 {X : Cx} {ρ : DL.Env} {M : Mem} {Φ : D → Mem → Prop} {e1 : Expr} {p pos : Pos} (eK : X.K = K) (eM : X.mg = mg) (Fn : FnD (Cs K) X 3 (He.ma K (He.ga K "Amount") "__init__") S_Amount_init1) (T : Tx K mg) (hr : Rm 4 X.A) (hg : Gl X "Amount")
    (h : WA (Cs K) X [e1] ρ M fun ds M1 => ∃ n : Int, ds = [.int n] ∧ n.natAbs < 2 ^ 100000 ∧ Φ (amt (Rat.divInt n 1)) M1)
    (he : starEach [e1] X.env = (false, eval e1 X.env) :: starEach [] X.env := by rfl) (hpl : (backTo pos (starEach [] X.env)).any (·.1) = false := by rfl) : WE (Cs K) X (.Call (.Name "Amount" p) [e1] [] pos) ρ M Φ := by
  subst eK eM
  refine we_make (n := 0) T.mk_Amount Fn hr hg T.g_Amount.1 (.mk fun F σ H A Q k => h.run F σ H A Q fun vs ds H1 M1 p m r q => k vs ds H1 M1 p m r ?_) (by decide) he hpl
  obtain ⟨n, rfl, hn, hΦ⟩ := q
  intro a dx ha hdx hne
  refine ⟨a, dx, n, rfl, put_same, hn, rfl, [_, _], by simp, put_same, ?_⟩
  rw [put_put, era_put (by rw [put_ne (Ne.symm hne)]; exact ha), era_put hdx]
  exact hΦ
local macro_rules | `(tactic| fail "c") => `(tactic| ((with_reducible refine at_call "Amount" ?_); first | refine we_Amount rfl rfl (ok_Amount_init (by assumption)) (by assumption) (Rm.mono (by assumption) (by decide)) rfl ?_ | refine we_Amount1 rfl rfl (ok_Amount_init1 (by assumption)) (by assumption) (Rm.mono (by assumption) (by decide)) rfl ?_))
def S_Amount_pair : FS := fun ds M Φ => ∃ q : Rat, ds = [amt q] ∧ Φ (rt q) M
section
local macro_rules | `(tactic| fail "v") => `(tactic| first
  | ((with_reducible refine at_name "self" ?_); refine we_var 0 rfl (by fail "vis") rfl ?_))
theorem ok_Amount_pair (T : Tx K mg) : FnG P w K mg base CX0 (1 + 1) (He5.wf K (He.ga K "Amount") "property" "pair") (spD (Cs K) S_Amount_pair) := by
  obtain ⟨fd, Fd⟩ := T.e_Amount_pair
  have b := Fd.bindsN (ps := ["self"]) fun _ _ _ _ _ _ us hl => match us, hl with | [_], _ => rfl
  refine fn_D [] Fd sc_Amount_pair b .nil (fun _ _ => .nil) (fun ds M Φ h => by obtain ⟨q, rfl, h⟩ := h; rfl) ?_
  rintro cdv A outer s H as M Φ hr ⟨q, rfl, h⟩
  repeat fail "e"
  exact h
end
local macro_rules | `(tactic| fail "a") => `(tactic| ((with_reducible refine at_wat "pair" ?_); refine wat_prop (c := 0) (Tx.c_Amount (by assumption)) (Tx.p_Amount_pair (by assumption)).at_ (Tx.p_Amount_pair (by assumption)).get (Tx.p_Amount_pair (by assumption)).tk (Tx.p_Amount_pair (by assumption)).rc (ok_Amount_pair (by assumption)) (Rm.mono (by assumption) (by decide)) ?_))
def S_Amount_over : FS := fun ds M Φ => ∃ (p q : Rat) (B : Nat), ds = [amt p, amt q] ∧ q ≠ 0 ∧ B ≤ 4400 ∧ Bz B p ∧ Bz B q ∧ Φ (amt (p / q)) M
theorem big_mul {B : Nat} {x y : Int} (h : B ≤ 4400) (hx : x.natAbs < 2 ^ B) (hy : y.natAbs < 2 ^ B) : CMulW x y := by
  have hx' : x.natAbs < 2 ^ 4400 := Nat.lt_of_lt_of_le hx (Nat.pow_le_pow_right (by decide) h)
  have hy' : y.natAbs < 2 ^ 4400 := Nat.lt_of_lt_of_le hy (Nat.pow_le_pow_right (by decide) h)
  exact wide_mul hx' hy' (by decide) (by decide) (by decide)
theorem big_lt {B C : Nat} {x : Int} (h : B ≤ C) (hx : x.natAbs < 2 ^ B) : x.natAbs < 2 ^ C := Nat.lt_of_lt_of_le hx (Nat.pow_le_pow_right (by decide) h)
theorem num_ne {q : Rat} (h : q ≠ 0) : q.num ≠ 0 := fun z => h (Rat.num_eq_zero.mp z)
section
local macro_rules | `(tactic| fail "v") => `(tactic| first
  | ((with_reducible refine at_name "self" ?_); refine we_var 0 rfl (by fail "vis") rfl ?_)
  | ((with_reducible refine at_name "other" ?_); refine we_var 1 rfl (by fail "vis") rfl ?_))
theorem ok_Amount_over (T : Tx K mg) : FnG P w K mg base CX0 (4 + 1) (He.ma K (He.ga K "Amount") "over") (spD (Cs K) S_Amount_over) := by
  obtain ⟨fd, Fd⟩ := T.e_Amount_over
  have b := Fd.bindsN (ps := ["self", "other"]) fun _ _ _ _ _ _ us hl => match us, hl with | [_, _], _ => rfl
  refine fn_D [] Fd sc_Amount_over b .nil (fun _ _ => .nil) (fun ds M Φ h => by obtain ⟨p, q, B, rfl, hq, hB, bp, bq, h⟩ := h; rfl) ?_
  rintro cdv A outer s H as M Φ hr ⟨p, q, B, rfl, hq, hB, bp, bq, h⟩
  refine wss_one (ws_ret ?_)
  fail "c"
  repeat fail "e"
  refine wo_mul (big_mul hB bp.n (den_lt bq)) ?_
  repeat fail "e"
  refine wo_mul (big_mul hB (den_lt bp) bq.n) ?_
  repeat fail "e"
  refine ⟨_, _, rfl, Int.mul_ne_zero (rat_den_ne p) (num_ne hq), big_lt (by omega) (mul_lt bp.n (den_lt bq)), big_lt (by omega) (mul_lt (den_lt bp) bq.n), ?_⟩
  rw [← rat_div]
  exact h
end
local macro_rules | `(tactic| fail "m") => `(tactic| ((with_reducible refine at_meth "over" ?_); refine we_meth (c := 0) (Tx.c_Amount (by assumption)) (Tx.m_Amount_over (by assumption)) (ok_Amount_over (by assumption)) (Rm.mono (by assumption) (by decide)) ?_))
def S_Amount_add : FS := fun ds M Φ => ∃ (p q : Rat) (B : Nat), ds = [amt p, amt q] ∧ B ≤ 4400 ∧ Bz B p ∧ Bz B q ∧ Φ (amt (p + q)) M
section
local macro_rules | `(tactic| fail "v") => `(tactic| first
  | ((with_reducible refine at_name "self" ?_); refine we_var 0 rfl (by fail "vis") rfl ?_)
  | ((with_reducible refine at_name "other" ?_); refine we_var 1 rfl (by fail "vis") rfl ?_))
theorem ok_Amount_add (T : Tx K mg) : FnG P w K mg base CX0 (4 + 1) (He.ma K (He.ga K "Amount") "__add__") (spD (Cs K) S_Amount_add) := by
  obtain ⟨fd, Fd⟩ := T.e_Amount_add
  have b := Fd.bindsN (ps := ["self", "other"]) fun _ _ _ _ _ _ us hl => match us, hl with | [_, _], _ => rfl
  refine fn_D [] Fd sc_Amount_add b .nil (fun _ _ => .nil) (fun ds M Φ h => by obtain ⟨p, q, B, rfl, hB, bp, bq, h⟩ := h; rfl) ?_
  rintro cdv A outer s H as M Φ hr ⟨p, q, B, rfl, hB, bp, bq, h⟩
  refine wss_one (ws_ret ?_)
  fail "c"
  repeat fail "e"
  refine wo_mul (big_mul hB bp.n (den_lt bq)) ?_
  repeat fail "e"
  refine wo_mul (big_mul hB bq.n (den_lt bp)) ?_
  repeat fail "e"
  refine wo_mul (big_mul hB (den_lt bp) (den_lt bq)) ?_
  repeat fail "e"
  refine ⟨_, _, rfl, Int.mul_ne_zero (rat_den_ne p) (rat_den_ne q), big_lt (by omega) (add_lt (mul_lt bp.n (den_lt bq)) (mul_lt bq.n (den_lt bp))), big_lt (by omega) (mul_lt (den_lt bp) (den_lt bq)), ?_⟩
  rw [← rat_add]
  exact h
end
local macro_rules | `(tactic| fail "o") => `(tactic| ((with_reducible refine at_bin .Add ?_); refine wo_bin (op := .Add) (n := 0) (Tx.sf_Amount (by assumption)) (Tx.o_Amount_add (by assumption)).1 (Tx.o_Amount_add (by assumption)).2 (ok_Amount_add (by assumption)) (Rm.mono (by assumption) (by decide)) ?_))
def S_Amount_mul : FS := fun ds M Φ => ∃ (p q : Rat) (B : Nat), ds = [amt p, amt q] ∧ B ≤ 4400 ∧ Bz B p ∧ Bz B q ∧ Φ (amt (p * q)) M
section
local macro_rules | `(tactic| fail "v") => `(tactic| first
  | ((with_reducible refine at_name "self" ?_); refine we_var 0 rfl (by fail "vis") rfl ?_)
  | ((with_reducible refine at_name "other" ?_); refine we_var 1 rfl (by fail "vis") rfl ?_))
theorem ok_Amount_mul (T : Tx K mg) : FnG P w K mg base CX0 (4 + 1) (He.ma K (He.ga K "Amount") "__mul__") (spD (Cs K) S_Amount_mul) := by
  obtain ⟨fd, Fd⟩ := T.e_Amount_mul
  have b := Fd.bindsN (ps := ["self", "other"]) fun _ _ _ _ _ _ us hl => match us, hl with | [_, _], _ => rfl
  refine fn_D [] Fd sc_Amount_mul b .nil (fun _ _ => .nil) (fun ds M Φ h => by obtain ⟨p, q, B, rfl, hB, bp, bq, h⟩ := h; rfl) ?_
  rintro cdv A outer s H as M Φ hr ⟨p, q, B, rfl, hB, bp, bq, h⟩
  refine wss_one (ws_ret ?_)
  fail "c"
  repeat fail "e"
  refine wo_mul (big_mul hB bp.n bq.n) ?_
  repeat fail "e"
  refine wo_mul (big_mul hB (den_lt bp) (den_lt bq)) ?_
  repeat fail "e"
  refine ⟨_, _, rfl, Int.mul_ne_zero (rat_den_ne p) (rat_den_ne q), big_lt (by omega) (mul_lt bp.n bq.n), big_lt (by omega) (mul_lt (den_lt bp) (den_lt bq)), ?_⟩
  rw [← rat_mul]
  exact h
end
local macro_rules | `(tactic| fail "o") => `(tactic| ((with_reducible refine at_bin .Mult ?_); refine wo_bin (op := .Mult) (n := 0) (Tx.sf_Amount (by assumption)) (Tx.o_Amount_mul (by assumption)).1 (Tx.o_Amount_mul (by assumption)).2 (ok_Amount_mul (by assumption)) (Rm.mono (by assumption) (by decide)) ?_))

def S_Amount_lt : FS := fun ds M Φ => ∃ (p q : Rat) (B : Nat), ds = [amt p, amt q] ∧ B ≤ 4400 ∧ Bz B p ∧ Bz B q ∧ Φ (.bl (decide (p < q))) M
theorem dec_lt (p q : Rat) : decide (p.num * q.den < q.num * p.den) = decide (p < q) := by
  by_cases h : p < q
  · rw [decide_eq_true h, decide_eq_true ((Rat.lt_iff p q).mp h)]
  · rw [decide_eq_false h, decide_eq_false (fun z => h ((Rat.lt_iff p q).mpr z))]
theorem dec_le (p q : Rat) : decide (p.num * q.den ≤ q.num * p.den) = decide (p ≤ q) := by
  by_cases h : p ≤ q
  · rw [decide_eq_true h, decide_eq_true ((Rat.le_iff p q).mp h)]
  · rw [decide_eq_false h, decide_eq_false (fun z => h ((Rat.le_iff p q).mpr z))]
section
local macro_rules | `(tactic| fail "v") => `(tactic| first
  | ((with_reducible refine at_name "self" ?_); refine we_var 0 rfl (by fail "vis") rfl ?_)
  | ((with_reducible refine at_name "other" ?_); refine we_var 1 rfl (by fail "vis") rfl ?_))
theorem ok_Amount_lt (T : Tx K mg) : FnG P w K mg base CX0 (1 + 1) (He.ma K (He.ga K "Amount") "__lt__") (spD (Cs K) S_Amount_lt) := by
  obtain ⟨fd, Fd⟩ := T.e_Amount_lt
  have b := Fd.bindsN (ps := ["self", "other"]) fun _ _ _ _ _ _ us hl => match us, hl with | [_, _], _ => rfl
  refine fn_D [] Fd sc_Amount_lt b .nil (fun _ _ => .nil) (fun ds M Φ h => by obtain ⟨p, q, B, rfl, hB, bp, bq, h⟩ := h; rfl) ?_
  rintro cdv A outer s H as M Φ hr ⟨p, q, B, rfl, hB, bp, bq, h⟩
  refine wss_cons (ws_if (wt_not (wt_val ?_)))
  repeat fail "e"
  refine wc_isiS (.inr ⟨_, rfl, rfl⟩) T.c_Amount T.i_Amount T.kt_Amount_Amount ⟨_, rfl, nofun, fun _ => wss_nil ?_⟩
  repeat fail "e"
  refine wo_mul (big_mul hB bp.n (den_lt bq)) ?_
  repeat fail "e"
  refine wo_mul (big_mul hB bq.n (den_lt bp)) ?_
  repeat fail "e"
  rw [dec_lt]; exact h
end
local macro_rules | `(tactic| fail "o") => `(tactic| ((with_reducible refine at_cmp .Lt ?_); refine wo_own (op := .Lt) (n := 0) (n' := 0) (fun _ _ => rfl) (Tx.nf_Amount (by assumption)) (Tx.o_Amount_lt (by assumption)).1 (Tx.o_Amount_lt (by assumption)).2 (ok_Amount_lt (by assumption)) (Rm.mono (by assumption) (by decide)) ?_))
def S_Amount_le : FS := fun ds M Φ => ∃ (p q : Rat) (B : Nat), ds = [amt p, amt q] ∧ B ≤ 4400 ∧ Bz B p ∧ Bz B q ∧ Φ (.bl (decide (p ≤ q))) M
section
local macro_rules | `(tactic| fail "v") => `(tactic| first
  | ((with_reducible refine at_name "self" ?_); refine we_var 0 rfl (by fail "vis") rfl ?_)
  | ((with_reducible refine at_name "other" ?_); refine we_var 1 rfl (by fail "vis") rfl ?_))
theorem ok_Amount_le (T : Tx K mg) : FnG P w K mg base CX0 (1 + 1) (He.ma K (He.ga K "Amount") "__le__") (spD (Cs K) S_Amount_le) := by
  obtain ⟨fd, Fd⟩ := T.e_Amount_le
  have b := Fd.bindsN (ps := ["self", "other"]) fun _ _ _ _ _ _ us hl => match us, hl with | [_, _], _ => rfl
  refine fn_D [] Fd sc_Amount_le b .nil (fun _ _ => .nil) (fun ds M Φ h => by obtain ⟨p, q, B, rfl, hB, bp, bq, h⟩ := h; rfl) ?_
  rintro cdv A outer s H as M Φ hr ⟨p, q, B, rfl, hB, bp, bq, h⟩
  refine wss_cons (ws_if (wt_not (wt_val ?_)))
  repeat fail "e"
  refine wc_isiS (.inr ⟨_, rfl, rfl⟩) T.c_Amount T.i_Amount T.kt_Amount_Amount ⟨_, rfl, nofun, fun _ => wss_nil ?_⟩
  repeat fail "e"
  refine wo_mul (big_mul hB bp.n (den_lt bq)) ?_
  repeat fail "e"
  refine wo_mul (big_mul hB bq.n (den_lt bp)) ?_
  repeat fail "e"
  rw [dec_le]; exact h
end
local macro_rules | `(tactic| fail "o") => `(tactic| ((with_reducible refine at_cmp .LtE ?_); refine wo_own (op := .LtE) (n := 0) (n' := 0) (fun _ _ => rfl) (Tx.nf_Amount (by assumption)) (Tx.o_Amount_le (by assumption)).1 (Tx.o_Amount_le (by assumption)).2 (ok_Amount_le (by assumption)) (Rm.mono (by assumption) (by decide)) ?_))
def S_amount_of : FS := fun ds M Φ => ∃ (q : Rat) (B : Nat), ds = [rt q] ∧ B ≤ 9000 ∧ Bz B q ∧ Φ (amt q) M
section
local macro_rules | `(tactic| fail "v") => `(tactic| first
  | ((with_reducible refine at_name "ratio" ?_); refine we_var 0 rfl (by fail "vis") rfl ?_))
theorem ok_amount_of (T : Tx K mg) : FnG P w K mg base CX0 (4 + 1) (He.ga K "amount_of") (spD (Cs K) S_amount_of) := by
  obtain ⟨fd, Fd⟩ := T.e_amount_of
  have b := Fd.bindsN (ps := ["ratio"]) fun _ _ _ _ _ _ us hl => match us, hl with | [_], _ => rfl
  refine fn_D [] Fd sc_amount_of b .nil (fun _ _ => .nil) (fun ds M Φ h => by obtain ⟨q, B, rfl, hB, bq, h⟩ := h; rfl) ?_
  rintro cdv A outer s H as M Φ hr ⟨q, B, rfl, hB, bq, h⟩
  refine wss_one (ws_ret ?_)
  fail "c"
  repeat fail "e"
  refine ⟨_, _, rfl, rat_den_ne q, big_lt (by omega) bq.n, big_lt hB (den_lt bq), ?_⟩
  rw [rat_div_self]; exact h
end
local macro_rules | `(tactic| fail "c") => `(tactic| ((with_reducible refine at_call "amount_of" ?_); refine we_call (ok_amount_of (by assumption)) (Rm.mono (by assumption) (by decide)) rfl (Tx.g_amount_of (by assumption)).1 (Tx.g_amount_of (by assumption)).2 ?_))
def S_nought : FS := fun ds M Φ => ds = [] ∧ Φ (amt 0) M
section

theorem ok_nought (T : Tx K mg) : FnG P w K mg base CX0 (4 + 1) (He.ga K "nought") (spD (Cs K) S_nought) := by
  obtain ⟨fd, Fd⟩ := T.e_nought
  have b := Fd.bindsN (ps := []) fun _ _ _ _ _ _ us hl => match us, hl with | [], _ => rfl
  refine fn_D [] Fd sc_nought b .nil (fun _ _ => .nil) (fun ds M Φ h => by obtain ⟨rfl, h⟩ := h; rfl) ?_
  rintro cdv A outer s H as M Φ hr ⟨rfl, h⟩
  refine wss_one (ws_ret ?_)
  fail "c"
  repeat fail "e"
  refine ⟨0, rfl, big_lt (B := 1) (by decide) (by decide), ?_⟩
  have e : Rat.divInt 0 1 = 0 := by decide
  rw [e]; exact h
end
local macro_rules | `(tactic| fail "c") => `(tactic| ((with_reducible refine at_call "nought" ?_); refine we_call0 (ok_nought (by assumption)) (Rm.mono (by assumption) (by decide)) rfl (Tx.g_nought (by assumption)).1 (Tx.g_nought (by assumption)).2 ?_))
def S_unit : FS := fun ds M Φ => ds = [] ∧ Φ (amt 1) M
section

theorem ok_unit (T : Tx K mg) : FnG P w K mg base CX0 (4 + 1) (He.ga K "unit") (spD (Cs K) S_unit) := by
  obtain ⟨fd, Fd⟩ := T.e_unit
  have b := Fd.bindsN (ps := []) fun _ _ _ _ _ _ us hl => match us, hl with | [], _ => rfl
  refine fn_D [] Fd sc_unit b .nil (fun _ _ => .nil) (fun ds M Φ h => by obtain ⟨rfl, h⟩ := h; rfl) ?_
  rintro cdv A outer s H as M Φ hr ⟨rfl, h⟩
  refine wss_one (ws_ret ?_)
  fail "c"
  repeat fail "e"
  refine ⟨1, rfl, big_lt (B := 1) (by decide) (by decide), ?_⟩
  have e : Rat.divInt 1 1 = 1 := by decide
  rw [e]; exact h
end
local macro_rules | `(tactic| fail "c") => `(tactic| ((with_reducible refine at_call "unit" ?_); refine we_call0 (ok_unit (by assumption)) (Rm.mono (by assumption) (by decide)) rfl (Tx.g_unit (by assumption)).1 (Tx.g_unit (by assumption)).2 ?_))

def S_check_ratio : FS := fun ds M Φ => ∃ q : Rat, ds = [rt q] ∧ 0 ≤ q ∧ Φ .non M
section
local macro_rules | `(tactic| fail "v") => `(tactic| first
  | ((with_reducible refine at_name "value" ?_); refine we_var 0 rfl (by fail "vis") rfl ?_))
theorem ok_check_ratio (T : Tx K mg) : FnG P w K mg base CX0 (3 + 1) (He.ga K "check_ratio") (spD (Cs K) S_check_ratio) := by
  obtain ⟨fd, Fd⟩ := T.e_check_ratio
  have b := Fd.bindsN (ps := ["value"]) fun _ _ _ _ _ _ us hl => match us, hl with | [_], _ => rfl
  refine fn_D [] Fd sc_check_ratio b .nil (fun _ _ => .nil) (fun ds M Φ h => by obtain ⟨q, rfl, hq, h⟩ := h; rfl) ?_
  rintro cdv A outer s H as M Φ hr ⟨q, rfl, hq, h⟩
  refine wss_one (ws_if (wt_not (wt_val ?_)))
  repeat fail "e"
  refine ⟨q, rfl, hq, _, rfl, nofun, fun _ => wss_nil ?_⟩
  exact h
end
local macro_rules | `(tactic| fail "c") => `(tactic| ((with_reducible refine at_call "check_ratio" ?_); refine we_call (ok_check_ratio (by assumption)) (Rm.mono (by assumption) (by decide)) rfl (Tx.g_check_ratio (by assumption)).1 (Tx.g_check_ratio (by assumption)).2 ?_))
def S_Source_init : FS := fun ds M Φ => ∃ (a dx : Addr) (v r : Rat), ds = [.ref a, rt v, rt r] ∧ M a = some (.slt 1 dx []) ∧ 0 ≤ v ∧ 0 ≤ r ∧ Bz 9000 v ∧ Bz 9000 r ∧ Φ .non (put M a (.slt 1 dx [some (amt r), some (amt v)]))
section
local macro_rules | `(tactic| fail "v") => `(tactic| first
  | ((with_reducible refine at_name "self" ?_); refine we_var 0 rfl (by fail "vis") rfl ?_)
  | ((with_reducible refine at_name "volts" ?_); refine we_var 1 rfl (by fail "vis") rfl ?_)
  | ((with_reducible refine at_name "ohms" ?_); refine we_var 2 rfl (by fail "vis") rfl ?_))
theorem ok_Source_init (T : Tx K mg) : FnG P w K mg base CX0 (5 + 1) (He.ma K (He.ga K "Source") "__init__") (spD (Cs K) S_Source_init) := by
  obtain ⟨fd, Fd⟩ := T.e_Source_init
  have b := Fd.bindsN (ps := ["self", "volts", "ohms"]) fun _ _ _ _ _ _ us hl => match us, hl with | [_, _, _], _ => rfl
  refine fn_D [] Fd sc_Source_init b .nil (fun _ _ => .nil) (fun ds M Φ h => by obtain ⟨ad, dx, v, r, rfl, hM, hv, hr0, bv, br, h⟩ := h; rfl) ?_
  rintro cdv A outer s H as M Φ hr ⟨ad, dx, v, r, rfl, hM, hv, hr0, bv, br, h⟩
  refine wss_cons (ws_expr ?_)
  repeat fail "e"
  refine ⟨v, rfl, hv, ?_⟩
  refine wss_cons (ws_expr ?_)
  repeat fail "e"
  refine ⟨r, rfl, hr0, ?_⟩
  refine wss_cons (ws_slot (c := 1) T.c_Source T.sl_Source_own_volts ?_)
  repeat fail "e"
  refine ⟨v, 9000, rfl, Nat.le_refl _, bv, ?_⟩
  repeat fail "e"
  refine ⟨ad, dx, [], rfl, hM, ?_⟩
  refine wss_one (ws_slot (c := 1) T.c_Source T.sl_Source_own_ohms ?_)
  repeat fail "e"
  refine ⟨r, 9000, rfl, Nat.le_refl _, br, ?_⟩
  repeat fail "e"
  refine ⟨ad, dx, _, rfl, put_same, ?_⟩
  rw [put_put]
  exact h
end

theorem we_Source {X : Cx} {ρ : DL.Env} {M : Mem} {Φ : D → Mem → Prop} {e1 e2 : Expr} {p pos : Pos} (eK : X.K = K) (eM : X.mg = mg) (Fn : FnD (Cs K) X 6 (He.ma K (He.ga K "Source") "__init__") S_Source_init) (T : Tx K mg) (hr : Rm 7 X.A) (hg : Gl X "Source")
    (h : WA (Cs K) X [e1, e2] ρ M fun ds M1 => ∃ v r : Rat, ds = [rt v, rt r] ∧ 0 ≤ v ∧ 0 ≤ r ∧ Bz 9000 v ∧ Bz 9000 r ∧ Φ (src v r) M1)
    (he : starEach [e1, e2] X.env = (false, eval e1 X.env) :: starEach [e2] X.env := by rfl) (hpl : (backTo pos (starEach [e2] X.env)).any (·.1) = false := by rfl) : WE (Cs K) X (.Call (.Name "Source" p) [e1, e2] [] pos) ρ M Φ := by
  subst eK eM
  refine we_make (n := 1) T.mk_Source Fn hr hg T.g_Source.1 (.mk fun F σ H A Q k => h.run F σ H A Q fun vs ds H1 M1 p m rr q => k vs ds H1 M1 p m rr ?_) (by decide) he hpl
  obtain ⟨v, r, rfl, hv, hr0, bv, br, hΦ⟩ := q
  intro a dx ha hdx hne
  refine ⟨a, dx, v, r, rfl, put_same, hv, hr0, bv, br, rfl, [_, _], by simp, put_same, ?_⟩
  rw [put_put, era_put (by rw [put_ne (Ne.symm hne)]; exact ha), era_put hdx]
  exact hΦ
local macro_rules | `(tactic| fail "c") => `(tactic| ((with_reducible refine at_call "Source" ?_); refine we_Source rfl rfl (ok_Source_init (by assumption)) (by assumption) (Rm.mono (by assumption) (by decide)) rfl ?_))
def S_Source_volts : FS := fun ds M Φ => ∃ v r : Rat, ds = [src v r] ∧ Φ (rt v) M
section
local macro_rules | `(tactic| fail "v") => `(tactic| first
  | ((with_reducible refine at_name "self" ?_); refine we_var 0 rfl (by fail "vis") rfl ?_))
theorem ok_Source_volts (T : Tx K mg) : FnG P w K mg base CX0 (3 + 1) (He5.wf K (He.ga K "Source") "property" "volts") (spD (Cs K) S_Source_volts) := by
  obtain ⟨fd, Fd⟩ := T.e_Source_volts
  have b := Fd.bindsN (ps := ["self"]) fun _ _ _ _ _ _ us hl => match us, hl with | [_], _ => rfl
  refine fn_D [] Fd sc_Source_volts b .nil (fun _ _ => .nil) (fun ds M Φ h => by obtain ⟨v, r, rfl, h⟩ := h; rfl) ?_
  rintro cdv A outer s H as M Φ hr ⟨v, r, rfl, h⟩
  repeat fail "e"
  exact ⟨_, rfl, h⟩
end
local macro_rules | `(tactic| fail "a") => `(tactic| ((with_reducible refine at_wat "volts" ?_); refine wat_prop (c := 1) (Tx.c_Source (by assumption)) (Tx.p_Source_volts (by assumption)).at_ (Tx.p_Source_volts (by assumption)).get (Tx.p_Source_volts (by assumption)).tk (Tx.p_Source_volts (by assumption)).rc (ok_Source_volts (by assumption)) (Rm.mono (by assumption) (by decide)) ?_))
def S_Source_ohms : FS := fun ds M Φ => ∃ v r : Rat, ds = [src v r] ∧ Φ (rt r) M
section
local macro_rules | `(tactic| fail "v") => `(tactic| first
  | ((with_reducible refine at_name "self" ?_); refine we_var 0 rfl (by fail "vis") rfl ?_))
theorem ok_Source_ohms (T : Tx K mg) : FnG P w K mg base CX0 (3 + 1) (He5.wf K (He.ga K "Source") "property" "ohms") (spD (Cs K) S_Source_ohms) := by
  obtain ⟨fd, Fd⟩ := T.e_Source_ohms
  have b := Fd.bindsN (ps := ["self"]) fun _ _ _ _ _ _ us hl => match us, hl with | [_], _ => rfl
  refine fn_D [] Fd sc_Source_ohms b .nil (fun _ _ => .nil) (fun ds M Φ h => by obtain ⟨v, r, rfl, h⟩ := h; rfl) ?_
  rintro cdv A outer s H as M Φ hr ⟨v, r, rfl, h⟩
  repeat fail "e"
  exact ⟨_, rfl, h⟩
end
local macro_rules | `(tactic| fail "a") => `(tactic| ((with_reducible refine at_wat "ohms" ?_); refine wat_prop (c := 1) (Tx.c_Source (by assumption)) (Tx.p_Source_ohms (by assumption)).at_ (Tx.p_Source_ohms (by assumption)).get (Tx.p_Source_ohms (by assumption)).tk (Tx.p_Source_ohms (by assumption)).rc (ok_Source_ohms (by assumption)) (Rm.mono (by assumption) (by decide)) ?_))
def S_source_of : FS := fun ds M Φ => ∃ v r : Rat, ds = [amt v, amt r] ∧ 0 ≤ v ∧ 0 ≤ r ∧ Bz 9000 v ∧ Bz 9000 r ∧ Φ (src v r) M
section
local macro_rules | `(tactic| fail "v") => `(tactic| first
  | ((with_reducible refine at_name "volts" ?_); refine we_var 0 rfl (by fail "vis") rfl ?_)
  | ((with_reducible refine at_name "ohms" ?_); refine we_var 1 rfl (by fail "vis") rfl ?_))
theorem ok_source_of (T : Tx K mg) : FnG P w K mg base CX0 (7 + 1) (He.ga K "source_of") (spD (Cs K) S_source_of) := by
  obtain ⟨fd, Fd⟩ := T.e_source_of
  have b := Fd.bindsN (ps := ["volts", "ohms"]) fun _ _ _ _ _ _ us hl => match us, hl with | [_, _], _ => rfl
  refine fn_D [] Fd sc_source_of b .nil (fun _ _ => .nil) (fun ds M Φ h => by obtain ⟨v, r, rfl, hv, hr0, bv, br, h⟩ := h; rfl) ?_
  rintro cdv A outer s H as M Φ hr ⟨v, r, rfl, hv, hr0, bv, br, h⟩
  repeat fail "e"
  refine ⟨v, rfl, ?_⟩
  repeat fail "e"
  refine ⟨r, rfl, ?_⟩
  repeat fail "e"
  exact ⟨v, r, rfl, hv, hr0, bv, br, h⟩
end
local macro_rules | `(tactic| fail "c") => `(tactic| ((with_reducible refine at_call "source_of" ?_); refine we_call (ok_source_of (by assumption)) (Rm.mono (by assumption) (by decide)) rfl (Tx.g_source_of (by assumption)).1 (Tx.g_source_of (by assumption)).2 ?_))
def S_share_beside : FS := fun ds M Φ => ∃ (v r l : Rat) (B : Nat), ds = [src v r, amt l] ∧ 1 ≤ B ∧ B ≤ 2000 ∧ Bz B r ∧ Bz B l ∧ Φ (amt (1 + r * l)) M
theorem Bz.share {B : Nat} {r l : Rat} (h1 : 1 ≤ B) (hr : Bz B r) (hl : Bz B l) : Bz (4 * B + 1) (1 + r * l) := by
  have h := Bz.add (Bz.one.mono (by omega : 1 ≤ 2 * B)) (hr.mul hl)
  exact h.mono (by omega)
section
local macro_rules | `(tactic| fail "v") => `(tactic| first
  | ((with_reducible refine at_name "source" ?_); refine we_var 0 rfl (by fail "vis") rfl ?_)
  | ((with_reducible refine at_name "draw" ?_); refine we_var 1 rfl (by fail "vis") rfl ?_))
theorem ok_share_beside (T : Tx K mg) : FnG P w K mg base CX0 (5 + 1) (He.ga K "share_beside") (spD (Cs K) S_share_beside) := by
  obtain ⟨fd, Fd⟩ := T.e_share_beside
  have b := Fd.bindsN (ps := ["source", "draw"]) fun _ _ _ _ _ _ us hl => match us, hl with | [_, _], _ => rfl
  refine fn_D [] Fd sc_share_beside b .nil (fun _ _ => .nil) (fun ds M Φ h => by obtain ⟨v, r, l, B, rfl, h1, hB, br, bl, h⟩ := h; rfl) ?_
  rintro cdv A outer s H as M Φ hr ⟨v, r, l, B, rfl, h1, hB, br, bl, h⟩
  repeat fail "e"
  refine ⟨rfl, ?_⟩
  repeat fail "e"
  refine ⟨r, l, B, rfl, by omega, br, bl, ?_⟩
  repeat fail "e"
  exact ⟨1, r * l, 2 * B, rfl, by omega, Bz.one.mono (by omega), br.mul bl, h⟩
end
local macro_rules | `(tactic| fail "c") => `(tactic| ((with_reducible refine at_call "share_beside" ?_); refine we_call (ok_share_beside (by assumption)) (Rm.mono (by assumption) (by decide)) rfl (Tx.g_share_beside (by assumption)).1 (Tx.g_share_beside (by assumption)).2 ?_))
def S_read_beside : FS := fun ds M Φ => ∃ (v r l : Rat) (B : Nat), ds = [src v r, amt l] ∧ 1 ≤ B ∧ B ≤ 1000 ∧ 0 ≤ r ∧ 0 ≤ l ∧ Bz B v ∧ Bz B r ∧ Bz B l ∧ Φ (amt (v / (1 + r * l))) M
section
local macro_rules | `(tactic| fail "v") => `(tactic| first
  | ((with_reducible refine at_name "source" ?_); refine we_var 0 rfl (by fail "vis") rfl ?_)
  | ((with_reducible refine at_name "draw" ?_); refine we_var 1 rfl (by fail "vis") rfl ?_))
theorem ok_read_beside (T : Tx K mg) : FnG P w K mg base CX0 (6 + 1) (He.ga K "read_beside") (spD (Cs K) S_read_beside) := by
  obtain ⟨fd, Fd⟩ := T.e_read_beside
  have b := Fd.bindsN (ps := ["source", "draw"]) fun _ _ _ _ _ _ us hl => match us, hl with | [_, _], _ => rfl
  refine fn_D [] Fd sc_read_beside b .nil (fun _ _ => .nil) (fun ds M Φ h => by obtain ⟨v, r, l, B, rfl, h1, hB, hr0, hl0, bv, br, bl, h⟩ := h; rfl) ?_
  rintro cdv A outer s H as M Φ hr ⟨v, r, l, B, rfl, h1, hB, hr0, hl0, bv, br, bl, h⟩
  repeat fail "e"
  refine ⟨v, r, l, B, rfl, h1, by omega, br, bl, ?_⟩
  repeat fail "e"
  exact ⟨v, 1 + r * l, 4 * B + 1, rfl, Rat.ne_of_gt (share_pos hr0 hl0), by omega, bv.mono (by omega), Bz.share h1 br bl, h⟩
end
local macro_rules | `(tactic| fail "c") => `(tactic| ((with_reducible refine at_call "read_beside" ?_); refine we_call (ok_read_beside (by assumption)) (Rm.mono (by assumption) (by decide)) rfl (Tx.g_read_beside (by assumption)).1 (Tx.g_read_beside (by assumption)).2 ?_))

def S_Source_at : FS := fun ds M Φ => ∃ (v r l : Rat) (B : Nat), ds = [src v r, rt l] ∧ 1 ≤ B ∧ B ≤ 1000 ∧ 0 ≤ r ∧ 0 ≤ l ∧ Bz B v ∧ Bz B r ∧ Bz B l ∧ Φ (rt (v / (1 + r * l))) M
section
local macro_rules | `(tactic| fail "v") => `(tactic| first
  | ((with_reducible refine at_name "self" ?_); refine we_var 0 rfl (by fail "vis") rfl ?_)
  | ((with_reducible refine at_name "load" ?_); refine we_var 1 rfl (by fail "vis") rfl ?_))
theorem ok_Source_at (T : Tx K mg) : FnG P w K mg base CX0 (7 + 1) (He.ma K (He.ga K "Source") "at") (spD (Cs K) S_Source_at) := by
  obtain ⟨fd, Fd⟩ := T.e_Source_at
  have b := Fd.bindsN (ps := ["self", "load"]) fun _ _ _ _ _ _ us hl => match us, hl with | [_, _], _ => rfl
  refine fn_D [] Fd sc_Source_at b .nil (fun _ _ => .nil) (fun ds M Φ h => by obtain ⟨v, r, l, B, rfl, h1, hB, hr0, hl0, bv, br, bl, h⟩ := h; rfl) ?_
  rintro cdv A outer s H as M Φ hr ⟨v, r, l, B, rfl, h1, hB, hr0, hl0, bv, br, bl, h⟩
  refine wss_cons (ws_expr ?_)
  repeat fail "e"
  refine ⟨l, rfl, hl0, ?_⟩
  repeat fail "e"
  refine ⟨l, B, rfl, by omega, bl, ?_⟩
  repeat fail "e"
  refine ⟨v, r, l, B, rfl, h1, hB, hr0, hl0, bv, br, bl, ?_⟩
  repeat fail "e"
  exact ⟨_, rfl, h⟩
end
local macro_rules | `(tactic| fail "m") => `(tactic| ((with_reducible refine at_meth "at" ?_); refine we_meth (c := 1) (Tx.c_Source (by assumption)) (Tx.m_Source_at (by assumption)) (ok_Source_at (by assumption)) (Rm.mono (by assumption) (by decide)) ?_))
def S_is_as_strong : FS := fun ds M Φ => ∃ (v r w s : Rat) (B : Nat), ds = [src v r, src w s] ∧ B ≤ 2000 ∧ Bz B v ∧ Bz B r ∧ Bz B w ∧ Bz B s ∧ Φ (.bl (strong v r w s)) M
section
local macro_rules | `(tactic| fail "v") => `(tactic| first
  | ((with_reducible refine at_name "one" ?_); refine we_var 0 rfl (by fail "vis") rfl ?_)
  | ((with_reducible refine at_name "other" ?_); refine we_var 1 rfl (by fail "vis") rfl ?_))
theorem ok_is_as_strong (T : Tx K mg) : FnG P w K mg base CX0 (5 + 1) (He.ga K "is_as_strong") (spD (Cs K) S_is_as_strong) := by
  obtain ⟨fd, Fd⟩ := T.e_is_as_strong
  have b := Fd.bindsN (ps := ["one", "other"]) fun _ _ _ _ _ _ us hl => match us, hl with | [_, _], _ => rfl
  refine fn_D [] Fd sc_is_as_strong b .nil (fun _ _ => .nil) (fun ds M Φ h => by obtain ⟨v, r, w', s', B, rfl, hB, bv, br, bw, bs, h⟩ := h; rfl) ?_
  rintro cdv A outer s H as M Φ hr ⟨v, r, w', s', B, rfl, hB, bv, br, bw, bs, h⟩
  refine wss_cons (ws_if (wt_cmp ?_))
  repeat fail "e"
  refine ⟨v, w', B, rfl, by omega, bv, bw, _, rfl, fun hc => ?_, fun hc => wss_nil ?_⟩
  · repeat fail "e"
    have e : strong v r w' s' = false := by unfold strong; rw [hc]; rfl
    rw [e] at h; exact h
  · repeat fail "e"
    refine ⟨w', r, B, rfl, by omega, bw, br, ?_⟩
    repeat fail "e"
    refine ⟨v, s', B, rfl, by omega, bv, bs, ?_⟩
    repeat fail "e"
    refine ⟨_, _, 2 * B, rfl, by omega, bw.mul br, bv.mul bs, ?_⟩
    have e : strong v r w' s' = decide (w' * r ≤ v * s') := by unfold strong; rw [hc]; rfl
    rw [e] at h; exact h
end
local macro_rules | `(tactic| fail "c") => `(tactic| ((with_reducible refine at_call "is_as_strong" ?_); refine we_call (ok_is_as_strong (by assumption)) (Rm.mono (by assumption) (by decide)) rfl (Tx.g_is_as_strong (by assumption)).1 (Tx.g_is_as_strong (by assumption)).2 ?_))
def S_Source_ge : FS := fun ds M Φ => ∃ (v r w s : Rat) (B : Nat), ds = [src v r, src w s] ∧ B ≤ 2000 ∧ Bz B v ∧ Bz B r ∧ Bz B w ∧ Bz B s ∧ Φ (.bl (strong v r w s)) M
section
local macro_rules | `(tactic| fail "v") => `(tactic| first
  | ((with_reducible refine at_name "self" ?_); refine we_var 0 rfl (by fail "vis") rfl ?_)
  | ((with_reducible refine at_name "other" ?_); refine we_var 1 rfl (by fail "vis") rfl ?_))
theorem ok_Source_ge (T : Tx K mg) : FnG P w K mg base CX0 (6 + 1) (He.ma K (He.ga K "Source") "__ge__") (spD (Cs K) S_Source_ge) := by
  obtain ⟨fd, Fd⟩ := T.e_Source_ge
  have b := Fd.bindsN (ps := ["self", "other"]) fun _ _ _ _ _ _ us hl => match us, hl with | [_, _], _ => rfl
  refine fn_D [] Fd sc_Source_ge b .nil (fun _ _ => .nil) (fun ds M Φ h => by obtain ⟨v, r, w', s', B, rfl, hB, bv, br, bw, bs, h⟩ := h; rfl) ?_
  rintro cdv A outer s H as M Φ hr ⟨v, r, w', s', B, rfl, hB, bv, br, bw, bs, h⟩
  refine wss_cons (ws_if (wt_not (wt_val ?_)))
  repeat fail "e"
  refine wc_isiS (.inr ⟨_, rfl, rfl⟩) T.c_Source T.i_Source T.kt_Source_Source ⟨_, rfl, nofun, fun _ => wss_nil ?_⟩
  repeat fail "e"
  exact ⟨v, r, w', s', B, rfl, hB, bv, br, bw, bs, h⟩
end
local macro_rules | `(tactic| fail "o") => `(tactic| ((with_reducible refine at_cmp .GtE ?_); refine wo_own (op := .GtE) (n := 1) (n' := 1) (fun _ _ => rfl) (Tx.nf_Source (by assumption)) (Tx.o_Source_ge (by assumption)).1 (Tx.o_Source_ge (by assumption)).2 (ok_Source_ge (by assumption)) (Rm.mono (by assumption) (by decide)) ?_))
def S_Source_le : FS := fun ds M Φ => ∃ (v r w s : Rat) (B : Nat), ds = [src v r, src w s] ∧ B ≤ 2000 ∧ Bz B v ∧ Bz B r ∧ Bz B w ∧ Bz B s ∧ Φ (.bl (strong w s v r)) M
section
local macro_rules | `(tactic| fail "v") => `(tactic| first
  | ((with_reducible refine at_name "self" ?_); refine we_var 0 rfl (by fail "vis") rfl ?_)
  | ((with_reducible refine at_name "other" ?_); refine we_var 1 rfl (by fail "vis") rfl ?_))
theorem ok_Source_le (T : Tx K mg) : FnG P w K mg base CX0 (6 + 1) (He.ma K (He.ga K "Source") "__le__") (spD (Cs K) S_Source_le) := by
  obtain ⟨fd, Fd⟩ := T.e_Source_le
  have b := Fd.bindsN (ps := ["self", "other"]) fun _ _ _ _ _ _ us hl => match us, hl with | [_, _], _ => rfl
  refine fn_D [] Fd sc_Source_le b .nil (fun _ _ => .nil) (fun ds M Φ h => by obtain ⟨v, r, w', s', B, rfl, hB, bv, br, bw, bs, h⟩ := h; rfl) ?_
  rintro cdv A outer s H as M Φ hr ⟨v, r, w', s', B, rfl, hB, bv, br, bw, bs, h⟩
  refine wss_cons (ws_if (wt_not (wt_val ?_)))
  repeat fail "e"
  refine wc_isiS (.inr ⟨_, rfl, rfl⟩) T.c_Source T.i_Source T.kt_Source_Source ⟨_, rfl, nofun, fun _ => wss_nil ?_⟩
  repeat fail "e"
  exact ⟨w', s', v, r, B, rfl, hB, bw, bs, bv, br, h⟩
end
local macro_rules | `(tactic| fail "o") => `(tactic| ((with_reducible refine at_cmp .LtE ?_); refine wo_own (op := .LtE) (n := 1) (n' := 1) (fun _ _ => rfl) (Tx.nf_Source (by assumption)) (Tx.o_Source_le (by assumption)).1 (Tx.o_Source_le (by assumption)).2 (ok_Source_le (by assumption)) (Rm.mono (by assumption) (by decide)) ?_))

def S_Amount_eq : FS := fun ds M Φ => ∃ (p q : Rat), ds = [amt p, amt q] ∧ Φ (.bl (decide (p = q))) M
section
local macro_rules | `(tactic| fail "v") => `(tactic| first
  | ((with_reducible refine at_name "self" ?_); refine we_var 0 rfl (by fail "vis") rfl ?_)
  | ((with_reducible refine at_name "other" ?_); refine we_var 1 rfl (by fail "vis") rfl ?_))
theorem ok_Amount_eq (T : Tx K mg) : FnG P w K mg base CX0 (3 + 1) (He.ma K (He.ga K "Amount") "__eq__") (spD (Cs K) S_Amount_eq) := by
  obtain ⟨fd, Fd⟩ := T.e_Amount_eq
  have b := Fd.bindsN (ps := ["self", "other"]) fun _ _ _ _ _ _ us hl => match us, hl with | [_, _], _ => rfl
  refine fn_D [] Fd sc_Amount_eq b .nil (fun _ _ => .nil) (fun ds M Φ h => by obtain ⟨p, q, rfl, h⟩ := h; rfl) ?_
  rintro cdv A outer s H as M Φ hr ⟨p, q, rfl, h⟩
  refine wss_one (ws_ret (we_and ?_))
  repeat fail "x"
  refine wc_isiS (.inr ⟨_, rfl, rfl⟩) T.c_Amount T.i_Amount T.kt_Amount_Amount ⟨_, rfl, fun _ => we_one ?_, nofun⟩
  repeat fail "x"
  refine ⟨p, rfl, ?_⟩
  repeat fail "x"
  refine ⟨q, rfl, ?_⟩
  refine wo_eqD hr (rt_isPy _) (rt_isPy _) (rt_shaped _) (rt_shaped _) ?_
  rw [rt_eqv]; exact h
end
local macro_rules | `(tactic| fail "o") => `(tactic| ((with_reducible refine at_cmp .Eq ?_); refine wo_own (op := .Eq) (n := 0) (n' := 0) (fun _ _ => rfl) (Tx.nf_Amount (by assumption)) (Tx.o_Amount_eq (by assumption)).1 (Tx.o_Amount_eq (by assumption)).2 (ok_Amount_eq (by assumption)) (Rm.mono (by assumption) (by decide)) ?_))
local macro_rules | `(tactic| fail "o") => `(tactic| ((with_reducible refine at_cmp .NotEq ?_); refine wo_ne (n := 0) (Tx.ne_Amount (by assumption)).ne (Tx.ne_Amount (by assumption)).ob (Tx.o_Amount_eq (by assumption)).1 (Tx.o_Amount_eq (by assumption)).2 (ok_Amount_eq (by assumption)) (Rm.mono (by assumption) (by decide)) ?_))
def S_Source_eq : FS := fun ds M Φ => ∃ (v r w s : Rat), ds = [src v r, src w s] ∧ Φ (.bl (decide (v = w) && decide (r = s))) M
section
local macro_rules | `(tactic| fail "v") => `(tactic| first
  | ((with_reducible refine at_name "self" ?_); refine we_var 0 rfl (by fail "vis") rfl ?_)
  | ((with_reducible refine at_name "other" ?_); refine we_var 1 rfl (by fail "vis") rfl ?_))
theorem ok_Source_eq (T : Tx K mg) : FnG P w K mg base CX0 (5 + 1) (He.ma K (He.ga K "Source") "__eq__") (spD (Cs K) S_Source_eq) := by
  obtain ⟨fd, Fd⟩ := T.e_Source_eq
  have b := Fd.bindsN (ps := ["self", "other"]) fun _ _ _ _ _ _ us hl => match us, hl with | [_, _], _ => rfl
  refine fn_D [] Fd sc_Source_eq b .nil (fun _ _ => .nil) (fun ds M Φ h => by obtain ⟨v, r, w', s', rfl, h⟩ := h; rfl) ?_
  rintro cdv A outer s H as M Φ hr ⟨v, r, w', s', rfl, h⟩
  refine wss_one (ws_ret (we_and ?_))
  repeat fail "x"
  refine wc_isiS (.inr ⟨_, rfl, rfl⟩) T.c_Source T.i_Source T.kt_Source_Source ⟨_, rfl, fun _ => we_one ?_, nofun⟩
  repeat fail "x"
  refine ⟨v, r, rfl, ?_⟩
  repeat fail "x"
  refine ⟨v, r, rfl, ?_⟩
  repeat fail "x"
  refine ⟨w', s', rfl, ?_⟩
  repeat fail "x"
  refine ⟨w', s', rfl, ?_⟩
  repeat fail "x"
  refine wo_eqD hr (rt2_isPy _ _) (rt2_isPy _ _) (rt2_shaped _ _) (rt2_shaped _ _) ?_
  rw [tup2_eqv, rt_eqv, rt_eqv]; exact h
end
local macro_rules | `(tactic| fail "o") => `(tactic| ((with_reducible refine at_cmp .Eq ?_); refine wo_own (op := .Eq) (n := 1) (n' := 1) (fun _ _ => rfl) (Tx.nf_Source (by assumption)) (Tx.o_Source_eq (by assumption)).1 (Tx.o_Source_eq (by assumption)).2 (ok_Source_eq (by assumption)) (Rm.mono (by assumption) (by decide)) ?_))
local macro_rules | `(tactic| fail "o") => `(tactic| ((with_reducible refine at_cmp .NotEq ?_); refine wo_ne (n := 1) (Tx.ne_Source (by assumption)).ne (Tx.ne_Source (by assumption)).ob (Tx.o_Source_eq (by assumption)).1 (Tx.o_Source_eq (by assumption)).2 (ok_Source_eq (by assumption)) (Rm.mono (by assumption) (by decide)) ?_))
def S_Source_under : FS := fun ds M Φ => ∃ (v r l : Rat) (B : Nat), ds = [src v r, rt l] ∧ 1 ≤ B ∧ B ≤ 1000 ∧ 0 ≤ v ∧ 0 ≤ r ∧ 0 ≤ l ∧ Bz B v ∧ Bz B r ∧ Bz B l ∧ Φ (src (v / (1 + r * l)) (r / (1 + r * l))) M
section
local macro_rules | `(tactic| fail "v") => `(tactic| first
  | ((with_reducible refine at_name "self" ?_); refine we_var 0 rfl (by fail "vis") rfl ?_)
  | ((with_reducible refine at_name "load" ?_); refine we_var 1 rfl (by fail "vis") rfl ?_)
  | ((with_reducible refine at_name "share" ?_); refine we_var 2 rfl (by fail "vis") rfl ?_))
theorem ok_Source_under (T : Tx K mg) : FnG P w K mg base CX0 (8 + 1) (He.ma K (He.ga K "Source") "under") (spD (Cs K) S_Source_under) := by
  obtain ⟨fd, Fd⟩ := T.e_Source_under
  have b := Fd.bindsN (ps := ["self", "load"]) fun _ _ _ _ _ _ us hl => match us, hl with | [_, _], _ => rfl
  refine fn_D [] Fd sc_Source_under b .nil (fun _ _ => .nil) (fun ds M Φ h => by obtain ⟨v, r, l, B, rfl, h1, hB, hv0, hr0, hl0, bv, br, bl, h⟩ := h; rfl) ?_
  rintro cdv A outer s H as M Φ hr ⟨v, r, l, B, rfl, h1, hB, hv0, hr0, hl0, bv, br, bl, h⟩
  refine wss_cons (ws_expr ?_)
  repeat fail "e"
  refine ⟨l, rfl, hl0, ?_⟩
  refine wss_cons (ws_set 2 sc_Source_under.nd rfl (.inl rfl) ?_)
  repeat fail "e"
  refine ⟨l, B, rfl, by omega, bl, ?_⟩
  repeat fail "e"
  refine ⟨v, r, l, B, rfl, h1, by omega, br, bl, ?_⟩
  have hp := share_pos hr0 hl0
  have hs := Bz.share h1 br bl
  repeat fail "e"
  refine ⟨v, 1 + r * l, 4 * B + 1, rfl, Rat.ne_of_gt hp, by omega, bv.mono (by omega), hs, ?_⟩
  repeat fail "e"
  refine ⟨r, 1 + r * l, 4 * B + 1, rfl, Rat.ne_of_gt hp, by omega, br.mono (by omega), hs, ?_⟩
  repeat fail "e"
  exact ⟨_, _, rfl, q_div_nonneg hv0 hp, q_div_nonneg hr0 hp, (Bz.over (Rat.ne_of_gt hp) (bv.mono (by omega)) hs).mono (by omega), (Bz.over (Rat.ne_of_gt hp) (br.mono (by omega)) hs).mono (by omega), h⟩
end
local macro_rules | `(tactic| fail "m") => `(tactic| ((with_reducible refine at_meth "under" ?_); refine we_meth (c := 1) (Tx.c_Source (by assumption)) (Tx.m_Source_under (by assumption)) (ok_Source_under (by assumption)) (Rm.mono (by assumption) (by decide)) ?_))
def S_Source_add : FS := fun ds M Φ => ∃ (v r w s : Rat) (B : Nat), ds = [src v r, src w s] ∧ B ≤ 4000 ∧ 0 ≤ v ∧ 0 ≤ r ∧ 0 ≤ w ∧ 0 ≤ s ∧ Bz B v ∧ Bz B r ∧ Bz B w ∧ Bz B s ∧ Φ (src (v + w) (r + s)) M
section
local macro_rules | `(tactic| fail "v") => `(tactic| first
  | ((with_reducible refine at_name "self" ?_); refine we_var 0 rfl (by fail "vis") rfl ?_)
  | ((with_reducible refine at_name "other" ?_); refine we_var 1 rfl (by fail "vis") rfl ?_))
theorem ok_Source_add (T : Tx K mg) : FnG P w K mg base CX0 (8 + 1) (He.ma K (He.ga K "Source") "__add__") (spD (Cs K) S_Source_add) := by
  obtain ⟨fd, Fd⟩ := T.e_Source_add
  have b := Fd.bindsN (ps := ["self", "other"]) fun _ _ _ _ _ _ us hl => match us, hl with | [_, _], _ => rfl
  refine fn_D [] Fd sc_Source_add b .nil (fun _ _ => .nil) (fun ds M Φ h => by obtain ⟨v, r, w', s', B, rfl, hB, v0, r0, w0, s0, bv, br, bw, bs, h⟩ := h; rfl) ?_
  rintro cdv A outer s H as M Φ hr ⟨v, r, w', s', B, rfl, hB, v0, r0, w0, s0, bv, br, bw, bs, h⟩
  refine wss_cons (ws_if (wt_not (wt_val ?_)))
  repeat fail "e"
  refine wc_isiS (.inr ⟨_, rfl, rfl⟩) T.c_Source T.i_Source T.kt_Source_Source ⟨_, rfl, nofun, fun _ => wss_nil ?_⟩
  repeat fail "e"
  refine ⟨v, w', B, rfl, by omega, bv, bw, ?_⟩
  repeat fail "e"
  refine ⟨r, s', B, rfl, by omega, br, bs, ?_⟩
  repeat fail "e"
  exact ⟨_, _, rfl, Rat.add_nonneg v0 w0, Rat.add_nonneg r0 s0, (bv.add bw).mono (by omega), (br.add bs).mono (by omega), h⟩
end
local macro_rules | `(tactic| fail "o") => `(tactic| ((with_reducible refine at_bin .Add ?_); refine wo_bin (op := .Add) (n := 1) (Tx.sf_Source (by assumption)) (Tx.o_Source_add (by assumption)).1 (Tx.o_Source_add (by assumption)).2 (ok_Source_add (by assumption)) (Rm.mono (by assumption) (by decide)) ?_))
def S_Source_and : FS := fun ds M Φ => ∃ (v r w s : Rat) (B : Nat), ds = [src v r, src w s] ∧ B ≤ 1000 ∧ 0 ≤ v ∧ 0 ≤ r ∧ 0 ≤ w ∧ 0 ≤ s ∧ 0 < r + s ∧ Bz B v ∧ Bz B r ∧ Bz B w ∧ Bz B s ∧ Φ (src ((v * s + w * r) / (r + s)) (r * s / (r + s))) M
section
local macro_rules | `(tactic| fail "v") => `(tactic| first
  | ((with_reducible refine at_name "self" ?_); refine we_var 0 rfl (by fail "vis") rfl ?_)
  | ((with_reducible refine at_name "other" ?_); refine we_var 1 rfl (by fail "vis") rfl ?_)
  | ((with_reducible refine at_name "ohms" ?_); refine we_var 2 rfl (by fail "vis") rfl ?_)
  | ((with_reducible refine at_name "volts" ?_); refine we_var 3 rfl (by fail "vis") rfl ?_))
theorem ok_Source_and (T : Tx K mg) : FnG P w K mg base CX0 (8 + 1) (He.ma K (He.ga K "Source") "__and__") (spD (Cs K) S_Source_and) := by
  obtain ⟨fd, Fd⟩ := T.e_Source_and
  have b := Fd.bindsN (ps := ["self", "other"]) fun _ _ _ _ _ _ us hl => match us, hl with | [_, _], _ => rfl
  refine fn_D [] Fd sc_Source_and b .nil (fun _ _ => .nil) (fun ds M Φ h => by obtain ⟨v, r, w', s', B, rfl, hB, v0, r0, w0, s0, hp, bv, br, bw, bs, h⟩ := h; rfl) ?_
  rintro cdv A outer s H as M Φ hr ⟨v, r, w', s', B, rfl, hB, v0, r0, w0, s0, hp, bv, br, bw, bs, h⟩
  refine wss_cons (ws_if (wt_not (wt_val ?_)))
  repeat fail "e"
  refine wc_isiS (.inr ⟨_, rfl, rfl⟩) T.c_Source T.i_Source T.kt_Source_Source ⟨_, rfl, nofun, fun _ => wss_nil ?_⟩
  refine wss_cons (ws_set 2 sc_Source_and.nd rfl (.inl rfl) ?_)
  repeat fail "e"
  refine ⟨r, s', B, rfl, by omega, br, bs, ?_⟩
  refine wss_cons (ws_if (wt_cmp ?_))
  repeat fail "e"
  refine ⟨rfl, ?_⟩
  repeat fail "e"
  refine ⟨_, _, rfl, _, rfl, fun z => ?_, fun _ => wss_nil ?_⟩
  · exact absurd (of_decide_eq_true z) (Rat.ne_of_gt hp)
  refine wss_cons (ws_set 3 sc_Source_and.nd rfl (.inl rfl) ?_)
  repeat fail "e"
  refine ⟨v, s', B, rfl, by omega, bv, bs, ?_⟩
  repeat fail "e"
  refine ⟨w', r, B, rfl, by omega, bw, br, ?_⟩
  repeat fail "e"
  refine ⟨v * s', w' * r, 2 * B, rfl, by omega, bv.mul bs, bw.mul br, ?_⟩
  have b1 := (bv.mul bs).add (bw.mul br)
  have b2 := br.add bs
  have b3 := br.mul bs
  repeat fail "e"
  refine ⟨_, _, 4 * B + 1, rfl, Rat.ne_of_gt hp, by omega, b1.mono (by omega), b2.mono (by omega), ?_⟩
  repeat fail "e"
  refine ⟨r, s', B, rfl, by omega, br, bs, ?_⟩
  refine ⟨_, rfl, ?_⟩
  repeat fail "e"
  refine ⟨_, _, 4 * B + 1, rfl, Rat.ne_of_gt hp, by omega, b3.mono (by omega), b2.mono (by omega), ?_⟩
  repeat fail "e"
  exact ⟨_, _, rfl, q_div_nonneg (Rat.add_nonneg (Rat.mul_nonneg v0 s0) (Rat.mul_nonneg w0 r0)) hp, q_div_nonneg (Rat.mul_nonneg r0 s0) hp,
    (Bz.over (B := 4 * B + 1) (Rat.ne_of_gt hp) (b1.mono (by omega)) (b2.mono (by omega))).mono (by omega), (Bz.over (B := 4 * B + 1) (Rat.ne_of_gt hp) (b3.mono (by omega)) (b2.mono (by omega))).mono (by omega), h⟩
end
local macro_rules | `(tactic| fail "o") => `(tactic| ((with_reducible refine at_bin .BitAnd ?_); refine wo_bin (op := .BitAnd) (n := 1) (Tx.sf_Source (by assumption)) (Tx.o_Source_and (by assumption)).1 (Tx.o_Source_and (by assumption)).2 (ok_Source_and (by assumption)) (Rm.mono (by assumption) (by decide)) ?_))
def S_Source_mul : FS := fun ds M Φ => ∃ (v r : Rat) (n : Int) (B : Nat), ds = [src v r, .int n] ∧ 1 ≤ B ∧ B ≤ 4000 ∧ 0 ≤ v ∧ 0 ≤ r ∧ 0 ≤ n ∧ n.natAbs < 2 ^ B ∧ Bz B v ∧ Bz B r ∧ Φ (src (v * (n : Rat)) r) M
section
local macro_rules | `(tactic| fail "v") => `(tactic| first
  | ((with_reducible refine at_name "self" ?_); refine we_var 0 rfl (by fail "vis") rfl ?_)
  | ((with_reducible refine at_name "many" ?_); refine we_var 1 rfl (by fail "vis") rfl ?_))
theorem ok_Source_mul (T : Tx K mg) : FnG P w K mg base CX0 (8 + 1) (He.ma K (He.ga K "Source") "__mul__") (spD (Cs K) S_Source_mul) := by
  obtain ⟨fd, Fd⟩ := T.e_Source_mul
  have b := Fd.bindsN (ps := ["self", "many"]) fun _ _ _ _ _ _ us hl => match us, hl with | [_, _], _ => rfl
  refine fn_D [] Fd sc_Source_mul b .nil (fun _ _ => .nil) (fun ds M Φ h => by obtain ⟨v, r, n, B, rfl, h1, hB, v0, r0, n0, bn, bv, br, h⟩ := h; rfl) ?_
  rintro cdv A outer s H as M Φ hr ⟨v, r, n, B, rfl, h1, hB, v0, r0, n0, bn, bv, br, h⟩
  refine wss_cons (ws_if (wt_not (wt_val ?_)))
  repeat fail "e"
  refine ⟨_, _, rfl, _, rfl, fun z => ?_, fun _ => wss_nil ?_⟩
  · rw [decide_eq_true n0] at z; cases z
  repeat fail "e"
  refine ⟨n, rfl, big_lt (by omega) bn, ?_⟩
  rw [divInt_one]
  repeat fail "e"
  refine ⟨v, _, B, rfl, by omega, bv, Bz.ofInt bn h1, ?_⟩
  repeat fail "e"
  exact ⟨_, _, rfl, Rat.mul_nonneg v0 (ofInt_nonneg n0), r0, (bv.mul (Bz.ofInt bn h1)).mono (by omega), br.mono (by omega), h⟩
end
local macro_rules | `(tactic| fail "o") => `(tactic| ((with_reducible refine at_bin .Mult ?_); refine wo_mulT (n := 1) (gr := He.ma K (He.ga K "Source") "__rmul__") (Tx.sf_Source (by assumption)) (Tx.o_Source_mul (by assumption)).1 (Tx.o_Source_mul (by assumption)).2 (Tx.o_Source_rmul (by assumption)).1 (ok_Source_mul (by assumption)) (Rm.mono (by assumption) (by decide)) ?_))
def S_Source_rmul : FS := S_Source_mul
section
local macro_rules | `(tactic| fail "v") => `(tactic| first
  | ((with_reducible refine at_name "self" ?_); refine we_var 0 rfl (by fail "vis") rfl ?_)
  | ((with_reducible refine at_name "many" ?_); refine we_var 1 rfl (by fail "vis") rfl ?_))
theorem ok_Source_rmul (T : Tx K mg) : FnG P w K mg base CX0 (9 + 1) (He.ma K (He.ga K "Source") "__rmul__") (spD (Cs K) S_Source_rmul) := by
  obtain ⟨fd, Fd⟩ := T.e_Source_rmul
  have b := Fd.bindsN (ps := ["self", "many"]) fun _ _ _ _ _ _ us hl => match us, hl with | [_, _], _ => rfl
  refine fn_D [] Fd sc_Source_rmul b .nil (fun _ _ => .nil) (fun ds M Φ h => by obtain ⟨v, r, n, B, rfl, h1, hB, v0, r0, n0, bn, bv, br, h⟩ := h; rfl) ?_
  rintro cdv A outer s H as M Φ hr ⟨v, r, n, B, rfl, h1, hB, v0, r0, n0, bn, bv, br, h⟩
  repeat fail "e"
  exact ⟨v, r, n, B, rfl, h1, hB, v0, r0, n0, bn, bv, br, h⟩
end
local macro_rules | `(tactic| fail "o") => `(tactic| ((with_reducible refine at_bin .Mult ?_); refine wo_rmul (n := 1) (g0 := He.ma K (He.ga K "Source") "__mul__") (Tx.sf_Source (by assumption)) (Tx.o_Source_mul (by assumption)).1 (Tx.o_Source_rmul (by assumption)).1 (Tx.o_Source_rmul (by assumption)).2 (Tx.ne_Source (by assumption)).no (ok_Source_rmul (by assumption)) (Rm.mono (by assumption) (by decide)) ?_))

/-! ### the law's own draws -/
structure PotV (o sd n : Int) (c : Nat) : Prop where
  o0 : 0 ≤ o
  o1 : o < 2 ^ 1000
  s0 : 0 ≤ sd
  s1 : sd < 2 ^ 61
  n0 : 0 ≤ n
  n1 : n ≤ c
def Pot (M : Mem) (p : Addr) (c : Nat) : Prop := ∃ o sd n : Int, M p = some (.lst [.int o, .int sd, .int n]) ∧ PotV o sd n c
structure PotTo (M : Mem) (p : Addr) (M' : Mem) (c : Nat) : Prop where
  old : ∀ a, a ≠ p → M' a = M a
  pot : Pot M' p c
theorem PotTo.trans {M M1 M2 : Mem} {p : Addr} {c d : Nat} (a : PotTo M p M1 c) (b : PotTo M1 p M2 d) : PotTo M p M2 d := ⟨fun x h => (b.old x h).trans (a.old x h), b.pot⟩
theorem Pot.mono {M : Mem} {p : Addr} {c d : Nat} (h : Pot M p c) (l : c ≤ d) : Pot M p d := by
  obtain ⟨o, sd, n, e, v⟩ := h
  exact ⟨o, sd, n, e, v.o0, v.o1, v.s0, v.s1, v.n0, by have := v.n1; omega⟩
theorem PotTo.mono {M M' : Mem} {p : Addr} {c d : Nat} (h : PotTo M p M' c) (l : c ≤ d) : PotTo M p M' d := ⟨h.old, h.pot.mono l⟩
theorem PotTo.refl {M : Mem} {p : Addr} {c : Nat} (h : Pot M p c) : PotTo M p M c := ⟨fun _ _ => rfl, h⟩
theorem sq_lt {k n : Int} (h0 : 0 ≤ k) (h1 : k ≤ 200000) (h2 : 0 ≤ n) (h3 : n ≤ 1000001) : 0 ≤ k * n * n ∧ k * n * n < 2 ^ 60 := by
  have a1 : 0 ≤ k * n := Int.mul_nonneg h0 h2
  have a2 : k * n ≤ 200000 * 1000001 := Int.mul_le_mul h1 h3 h2 (by decide)
  have a3 : k * n * n ≤ 200000 * 1000001 * 1000001 := Int.mul_le_mul a2 h3 h2 (by decide)
  exact ⟨Int.mul_nonneg a1 h2, by omega⟩
theorem ok_mul {i j : Int} (h : i.natAbs < 2 ^ 64) (h' : j.natAbs < 2 ^ 1000) : CMulW i j := wide_mul h h' (by decide) (by decide) (by decide)
theorem ok_mul' {i j : Int} (h : i.natAbs < 2 ^ 1000) (h' : j.natAbs < 2 ^ 64) : CMulW i j := wide_mul h h' (by decide) (by decide) (by decide)
theorem lt1000 {i : Int} (h : i.natAbs < 2 ^ 64) : i.natAbs < 2 ^ 1000 := Nat.lt_of_lt_of_le h (Nat.pow_le_pow_right (by decide) (by decide))
theorem bits_le {x : Int} (h0 : 0 ≤ x) (h1 : x < 2 ^ 64) : (Builtin.Int.intBits x : Int) * 3 ≤ 2 ^ 27 := by
  have b : Builtin.Int.intBits x ≤ x.natAbs.log2 + 1 := by
    unfold Builtin.Int.intBits
    split <;> omega
  have l : x.natAbs.log2 < 64 := PySem.Flt.log2_lt_of (by decide) (by omega)
  omega
def S_law_pot : FS := fun ds M Φ => ∃ (ns : List Int) (k : Nat), ds = [.lst (ns.map D.int), .int k] ∧ k ≤ 100 ∧ ns.length ≤ 1000 ∧ ∀ p o sd, M p = none → PotV o sd 0 0 → Φ (.ref p) (put M p (.lst [.int o, .int sd, .int 0]))
section
local macro_rules | `(tactic| fail "v") => `(tactic| first
  | ((with_reducible refine at_name "_law_script" ?_); refine we_var 0 rfl (by fail "vis") rfl ?_)
  | ((with_reducible refine at_name "_law_place" ?_); refine we_var 1 rfl (by fail "vis") rfl ?_)
  | ((with_reducible refine at_name "_law_cell" ?_); refine we_var 2 rfl (by fail "vis") rfl ?_)
  | ((with_reducible refine at_name "_law_own" ?_); refine we_var 3 rfl (by fail "vis") rfl ?_)
  | ((with_reducible refine at_name "_law_small" ?_); refine we_var 4 rfl (by fail "vis") rfl ?_))
theorem ok_law_pot (T : Tx K mg) : FnG P w K mg base CX0 (2 + 1) (He.ga K "_law_pot") (spD (Cs K) S_law_pot) := by
  obtain ⟨fd, Fd⟩ := T.e_law_pot
  have b := Fd.bindsN (ps := ["_law_script", "_law_place"]) fun _ _ _ _ _ _ us hl => match us, hl with | [_, _], _ => rfl
  refine fn_D [] Fd sc_law_pot b .nil (fun _ _ => .nil) (fun ds M Φ h => by obtain ⟨ns, k, rfl, hk, hl, h⟩ := h; rfl) ?_
  rintro cdv A outer s H as M Φ hr ⟨ns, k, rfl, hk, hl, h⟩
  have key : ∀ cell : Int, WSs (Cs K) (cxOf CX0 P w K mg base ["_law_script", "_law_place", "_law_cell", "_law_own", "_law_small"] "_law_pot" (defScope s_law_pot) (He.ga K "_law_pot") cdv A outer s H E0).nox
      ((defBody s_law_pot).drop 1) [some (.lst (ns.map D.int)), some (.int k), some (.int cell), none, none] M { nx := fun _ M' => Φ .non M', rt := Φ } := by
    intro cell
    refine wss_cons (ws_set 3 sc_law_pot.nd rfl (.inl rfl) ?_)
    repeat fail "e"
    refine wc_abs ?_
    refine wa_nil (wc_int ?_)
    repeat fail "e"
    refine wo_pow (by decide +kernel) ?_
    repeat fail "e"
    refine wo_pow (by decide +kernel) ?_
    refine wo_mod (by decide +kernel) ?_
    generalize hA : (if cell < 0 then -cell else cell) % ((10 : Int) ^ (60 : Int).toNat) ^ (5 : Int).toNat = A1
    have hA0 : 0 ≤ A1 := by rw [← hA]; exact Int.emod_nonneg _ (by decide +kernel)
    have hA1 : A1 < 2 ^ 1000 := by
      rw [← hA]
      exact Int.lt_of_lt_of_le (Int.emod_lt_of_pos _ (by decide +kernel)) (by decide +kernel)
    repeat fail "e"
    refine wc_abs ?_
    repeat fail "e"
    refine wo_pow (by decide +kernel) ?_
    repeat fail "e"
    generalize decide ((10 : Int) ^ (18 : Int).toNat ≤ if cell < 0 then -cell else cell) = tb
    refine wc_intB ?_
    have hn : A1.natAbs < 2 ^ 1000 := by omega
    refine wo_mul (ok_mul' hn (by cases tb <;> decide)) ?_
    generalize hO : A1 * (if tb = true then (1 : Int) else 0) = O1
    have hO0 : 0 ≤ O1 := by rw [← hO]; cases tb <;> simp <;> omega
    have hO1 : O1 < 2 ^ 1000 := by rw [← hO]; cases tb <;> simp <;> omega
    refine wss_cons (ws_set 4 sc_law_pot.nd rfl (.inl rfl) ?_)
    repeat fail "e"
    refine wc_int ?_
    repeat fail "e"
    refine wo_mod (by decide) ?_
    generalize hB : cell % 2305843009213693951 = B1
    have hB0 : 0 ≤ B1 := by rw [← hB]; exact Int.emod_nonneg _ (by decide)
    have hB1 : B1 < 2305843009213693951 := by rw [← hB]; exact Int.emod_lt_of_pos _ (by decide)
    refine wss_one (ws_ret (we_lstO ?_))
    repeat fail "e"
    refine wo_mul (ok_mul (by omega) (lt1000 (by omega))) ?_
    repeat fail "e"
    refine wo_mul (ok_mul (by omega) (lt1000 (by omega))) ?_
    repeat fail "e"
    refine wo_mul (ok_mul (by omega) (lt1000 (by omega))) ?_
    repeat fail "e"
    refine wc_int ?_
    repeat fail "e"
    refine wo_mod (by decide) ?_
    repeat fail "e"
    generalize hC : (B1 * 61297 + 8659 * (k : Int) * (k : Int) + 105) % 2305843009213693921 = C1
    have hC0 : 0 ≤ C1 := by rw [← hC]; exact Int.emod_nonneg _ (by decide)
    have hC1 : C1 < 2305843009213693921 := by rw [← hC]; exact Int.emod_lt_of_pos _ (by decide)
    exact fun p hp => h p O1 C1 hp ⟨hO0, hO1, hC0, by omega, by decide, by decide⟩
  refine wss_cons (ws_set 2 sc_law_pot.nd rfl (.inl rfl) (we_if (wt_cmp ?_)))
  repeat fail "e"
  refine wc_lenL ?_
  repeat fail "e"
  refine ⟨_, rfl, fun hc => ?_, fun hc => ?_⟩
  · have hc' : k < ns.length := by
      have z := of_decide_eq_true hc
      rw [List.length_map] at z
      omega
    repeat fail "e"
    have hg : (ns.map D.int)[k]? = some (.int ns[k]) := by rw [List.getElem?_map, List.getElem?_eq_getElem hc']; rfl
    refine wix_lst (atI_nat hg) ?_
    exact key _
  · repeat fail "e"
    refine wo_mul (ok_mul (by decide) (lt1000 (by omega))) ?_
    repeat fail "x"
    exact key _
end
local macro_rules | `(tactic| fail "c") => `(tactic| ((with_reducible refine at_call "_law_pot" ?_); refine we_call (ok_law_pot (by assumption)) (Rm.mono (by assumption) (by decide)) rfl (Tx.g_law_pot (by assumption)).1 (Tx.g_law_pot (by assumption)).2 ?_))
def S_law_take : FS := fun ds M Φ => ∃ (p : Addr) (n : Int) (c : Nat), ds = [.ref p, .int n] ∧ 0 < n ∧ n < 2 ^ 60 ∧ c ≤ 1000000 ∧ Pot M p c ∧ ∀ r M', 0 ≤ r → r < n → PotTo M p M' (c + 1) → Φ (.int r) M'
theorem pr_at {i : Int} (h0 : 0 ≤ i) (h1 : i < 5) : ∃ pr : Int, atI [D.int 2147483647, .int 2147483629, .int 2147483587, .int 2147483579, .int 2147483563] i = some (.int pr) ∧ 0 < pr ∧ pr ≤ 2147483647 := by
  have : i = 0 ∨ i = 1 ∨ i = 2 ∨ i = 3 ∨ i = 4 := by omega
  rcases this with rfl | rfl | rfl | rfl | rfl
  · exact ⟨_, rfl, by decide, by decide⟩
  · exact ⟨_, rfl, by decide, by decide⟩
  · exact ⟨_, rfl, by decide, by decide⟩
  · exact ⟨_, rfl, by decide, by decide⟩
  · exact ⟨_, rfl, by decide, by decide⟩
section
local macro_rules | `(tactic| fail "v") => `(tactic| first
  | ((with_reducible refine at_name "_law_pot_here" ?_); refine we_var 0 rfl (by fail "vis") rfl ?_)
  | ((with_reducible refine at_name "_law_upto" ?_); refine we_var 1 rfl (by fail "vis") rfl ?_)
  | ((with_reducible refine at_name "_law_digit" ?_); refine we_var 2 rfl (by fail "vis") rfl ?_)
  | ((with_reducible refine at_name "_law_prime" ?_); refine we_var 3 rfl (by fail "vis") rfl ?_)
  | ((with_reducible refine at_name "_law_mixed" ?_); refine we_var 4 rfl (by fail "vis") rfl ?_))
theorem ok_law_take (T : Tx K mg) : FnG P w K mg base CX0 (2 + 1) (He.ga K "_law_take") (spD (Cs K) S_law_take) := by
  obtain ⟨fd, Fd⟩ := T.e_law_take
  have b := Fd.bindsN (ps := ["_law_pot_here", "_law_upto"]) fun _ _ _ _ _ _ us hl => match us, hl with | [_, _], _ => rfl
  refine fn_D [] Fd sc_law_take b .nil (fun _ _ => .nil) (fun ds M Φ h => by obtain ⟨p, n, c, rfl, hn, hn2, hc, ⟨o, sd, cn, hM, V⟩, h⟩ := h; rfl) ?_
  rintro cdv A outer s H as M Φ hr ⟨p, n, c, rfl, hn, hn2, hc, ⟨o, sd, cn, hM, V⟩, h⟩
  have o0 := V.o0
  have o1 := V.o1
  have s0 := V.s0
  have s1 := V.s1
  have n0 := V.n0
  have n1 := V.n1
  refine wss_cons (ws_if (wt_cmp ?_))
  repeat fail "x"
  refine wix_own hM rfl ?_
  repeat fail "x"
  refine ⟨_, rfl, fun hc => ?_, fun hc => wss_nil ?_⟩
  · refine wss_cons (ws_set 2 sc_law_take.nd rfl (.inl rfl) ?_)
    repeat fail "x"
    refine wix_own hM rfl ?_
    refine wa_nil (wc_int ?_)
    repeat fail "x"
    refine wo_mod hn ?_
    refine wss_cons (ws_asg ?_)
    repeat fail "x"
    refine wix_own hM rfl ?_
    repeat fail "x"
    refine wo_fdiv (wide_div (b := 60) hn (by omega) (by decide) (by decide)) ?_
    refine wg_sub ?_
    repeat fail "x"
    refine ⟨p, _, 0, 0, rfl, rfl, hM, rfl, ?_⟩
    repeat fail "e"
    have q0 : 0 ≤ o / n := Int.ediv_nonneg o0 (by omega)
    have q1 : o / n ≤ o := Int.ediv_le_self _ o0
    refine h _ _ (Int.emod_nonneg _ (by omega)) (Int.emod_lt_of_pos _ hn) ⟨fun a ha => put_ne ha, o / n, sd, cn, put_same, q0, by omega, s0, s1, n0, by omega⟩
  · refine wss_cons (ws_asg ?_)
    repeat fail "x"
    refine wix_own hM rfl ?_
    repeat fail "x"
    refine wg_sub ?_
    repeat fail "x"
    refine ⟨p, _, 2, 2, rfl, rfl, hM, rfl, ?_⟩
    generalize hM2 : put M p (.lst (List.set [D.int o, .int sd, .int cn] 2 (.int (cn + 1)))) = M2
    have hP : M2 p = some (.lst [.int o, .int sd, .int (cn + 1)]) := by rw [← hM2]; exact put_same
    have hO : ∀ a, a ≠ p → M2 a = M a := fun a ha => by rw [← hM2]; exact put_ne ha
    generalize hcn : cn + 1 = cm at hP
    have m0 : 0 ≤ cm := by omega
    have m1 : cm ≤ c + 1 := by omega
    have m2 : cm ≤ 1000001 := by omega
    refine wss_cons (ws_set 3 sc_law_take.nd rfl (.inl rfl) ?_)
    refine we_ix (we_lst ?_)
    repeat fail "x"
    refine wix_own hP rfl ?_
    refine wa_nil (wc_int ?_)
    repeat fail "x"
    refine wo_mod (by decide) ?_
    obtain ⟨pr, hpr, pr0, pr1⟩ := pr_at (Int.emod_nonneg cm (by decide : (5 : Int) ≠ 0)) (Int.emod_lt_of_pos cm (by decide : (0 : Int) < 5))
    refine wix_lst hpr ?_
    refine wss_cons (ws_set 4 sc_law_take.nd rfl (.inl rfl) ?_)
    repeat fail "x"
    refine wix_own hP rfl ?_
    repeat fail "x"
    refine wix_own hP rfl ?_
    refine wo_mul (ok_mul (by decide) (lt1000 (by omega))) ?_
    repeat fail "x"
    refine wix_own hP rfl ?_
    refine wo_mul (ok_mul (by omega) (lt1000 (by omega))) ?_
    have sq := sq_lt (k := 100251) (by decide) (by decide) m0 m2
    generalize 100251 * cm * cm = w1 at sq
    obtain ⟨w0, w2⟩ := sq
    repeat fail "x"
    refine wc_int ?_
    repeat fail "x"
    refine wo_pow ⟨by decide, bits_le (by omega) (by omega)⟩ ?_
    refine wa_nil (wc_int ?_)
    repeat fail "x"
    refine wo_mod pr0 ?_
    generalize hx : (sd + w1 + 49) ^ (3 : Int).toNat % pr = mx
    have x0 : 0 ≤ mx := by rw [← hx]; exact Int.emod_nonneg _ (by omega)
    have x1 : mx < pr := by rw [← hx]; exact Int.emod_lt_of_pos _ pr0
    refine wss_cons (ws_set 4 sc_law_take.nd rfl (.inl rfl) ?_)
    repeat fail "x"
    refine wc_int ?_
    repeat fail "x"
    refine wo_mod (by decide) ?_
    have y0 : 0 ≤ mx % 10023 := Int.emod_nonneg _ (by decide)
    have y1 : mx % 10023 < 10023 := Int.emod_lt_of_pos _ (by decide)
    repeat fail "x"
    refine wix_own hP rfl ?_
    refine wo_mul (ok_mul (by decide) (lt1000 (by omega))) ?_
    repeat fail "x"
    refine wo_mul (ok_mul (by omega) (lt1000 (by omega))) ?_
    refine wa_nil (wc_int ?_)
    repeat fail "x"
    refine wo_mod (by decide) ?_
    generalize mx * (mx % 10023 + 79 * cm) % 2305843009213693907 = my
    repeat fail "e"
    refine wo_fdiv (wide_div (b := 60) (by decide) (by decide) (by decide) (by decide)) ?_
    refine wa_nil (wc_int ?_)
    repeat fail "x"
    refine wo_mod hn ?_
    refine h _ _ (Int.emod_nonneg _ (by omega)) (Int.emod_lt_of_pos _ hn) ⟨hO, o, sd, cm, hP, o0, o1, s0, s1, m0, by omega⟩
end
local macro_rules | `(tactic| fail "c") => `(tactic| ((with_reducible refine at_call "_law_take" ?_); refine we_call (ok_law_take (by assumption)) (Rm.mono (by assumption) (by decide)) rfl (Tx.g_law_take (by assumption)).1 (Tx.g_law_take (by assumption)).2 ?_))
def S_law_of : FS := fun ds M Φ => ∃ (p : Addr) (es : List D) (c : Nat), ds = [.ref p, .lst es] ∧ es ≠ [] ∧ es.length ≤ 1000 ∧ c ≤ 1000000 ∧ Pot M p c ∧ ∀ d M', d ∈ es → PotTo M p M' (c + 1) → Φ d M'
section
local macro_rules | `(tactic| fail "v") => `(tactic| first
  | ((with_reducible refine at_name "_law_pot_here" ?_); refine we_var 0 rfl (by fail "vis") rfl ?_)
  | ((with_reducible refine at_name "_law_some" ?_); refine we_var 1 rfl (by fail "vis") rfl ?_))
theorem ok_law_of (T : Tx K mg) : FnG P w K mg base CX0 (3 + 1) (He.ga K "_law_of") (spD (Cs K) S_law_of) := by
  obtain ⟨fd, Fd⟩ := T.e_law_of
  have b := Fd.bindsN (ps := ["_law_pot_here", "_law_some"]) fun _ _ _ _ _ _ us hl => match us, hl with | [_, _], _ => rfl
  refine fn_D [] Fd sc_law_of b .nil (fun _ _ => .nil) (fun ds M Φ h => by obtain ⟨p, es, c, rfl, hne, hl, hc, hp, h⟩ := h; rfl) ?_
  rintro cdv A outer s H as M Φ hr ⟨p, es, c, rfl, hne, hl, hc, hp, h⟩
  refine wss_one (ws_ret (we_ix ?_))
  repeat fail "x"
  refine wc_lenL ?_
  repeat fail "x"
  have l0 : 0 < es.length := List.length_pos_iff.mpr hne
  refine ⟨p, es.length, c, rfl, by omega, by omega, hc, hp, fun r M' r0 r1 ht => ?_⟩
  obtain ⟨j, rfl⟩ := Int.eq_ofNat_of_zero_le r0
  have hj : j < es.length := by omega
  refine wix_lst (atI_nat (List.getElem?_eq_getElem hj)) ?_
  exact h _ M' (List.getElem_mem hj) ht
end
local macro_rules | `(tactic| fail "c") => `(tactic| ((with_reducible refine at_call "_law_of" ?_); refine we_call (ok_law_of (by assumption)) (Rm.mono (by assumption) (by decide)) rfl (Tx.g_law_of (by assumption)).1 (Tx.g_law_of (by assumption)).2 ?_))
def S_law_cells : FS := fun ds M Φ => ∃ (ns : List Int) (m : Nat), ds = [.lst (ns.map D.int), .int m] ∧ m ≤ 100 ∧ ∀ k : Nat, k ≤ 101 → Φ (.lst (upTo k)) M
section
local macro_rules | `(tactic| fail "v") => `(tactic| first
  | ((with_reducible refine at_name "_law_script" ?_); refine we_var 0 rfl (by fail "vis") rfl ?_)
  | ((with_reducible refine at_name "_law_most" ?_); refine we_var 1 rfl (by fail "vis") rfl ?_))
theorem ok_law_cells (T : Tx K mg) : FnG P w K mg base CX0 (2 + 1) (He.ga K "_law_cells") (spD (Cs K) S_law_cells) := by
  obtain ⟨fd, Fd⟩ := T.e_law_cells
  have b := Fd.bindsN (ps := ["_law_script", "_law_most"]) fun _ _ _ _ _ _ us hl => match us, hl with | [_, _], _ => rfl
  refine fn_D [] Fd sc_law_cells b .nil (fun _ _ => .nil) (fun ds M Φ h => by obtain ⟨ns, m, rfl, hm, h⟩ := h; rfl) ?_
  rintro cdv A outer s H as M Φ hr ⟨ns, m, rfl, hm, h⟩
  refine wss_one (ws_ret (we_listR rfl rfl T.f_list rfl T.f_range ?_))
  repeat fail "x"
  refine wc_lenL ?_
  refine wa_nil (wc_min rfl ?_)
  refine wa_nil (wc_max rfl ?_)
  rw [List.length_map]
  generalize hk : (if (if (ns.length : Int) < (m : Int) then (ns.length : Int) else (m : Int)) > 1 then (if (ns.length : Int) < (m : Int) then (ns.length : Int) else (m : Int)) else (1 : Int)) = k
  have k0 : 0 ≤ k := by rw [← hk]; split <;> split <;> omega
  have k1 : k ≤ 101 := by rw [← hk]; split <;> split <;> omega
  obtain ⟨j, rfl⟩ := Int.eq_ofNat_of_zero_le k0
  exact ⟨j, rfl, by omega, h j (by omega)⟩
end
local macro_rules | `(tactic| fail "c") => `(tactic| ((with_reducible refine at_call "_law_cells" ?_); refine we_call (ok_law_cells (by assumption)) (Rm.mono (by assumption) (by decide)) rfl (Tx.g_law_cells (by assumption)).1 (Tx.g_law_cells (by assumption)).2 ?_))

/-! ### the law's own fractions -/
def S_law_common : FS := fun ds M Φ => ∃ a b : Int, ds = [.int a, .int b] ∧ Φ (.int (Int.gcd a b)) M
section
local macro_rules | `(tactic| fail "v") => `(tactic| first
  | ((with_reducible refine at_name "_law_one" ?_); refine we_var 0 rfl (by fail "vis") rfl ?_)
  | ((with_reducible refine at_name "_law_other" ?_); refine we_var 1 rfl (by fail "vis") rfl ?_)
  | ((with_reducible refine at_name "_law_left" ?_); refine we_var 2 rfl (by fail "vis") rfl ?_)
  | ((with_reducible refine at_name "_law_right_here" ?_); refine we_var 3 rfl (by fail "vis") rfl ?_))
theorem ok_law_common (T : Tx K mg) : FnG P w K mg base CX0 (1 + 1) (He.ga K "_law_common") (spD (Cs K) S_law_common) := by
  obtain ⟨fd, Fd⟩ := T.e_law_common
  have b := Fd.bindsN (ps := ["_law_one", "_law_other"]) fun _ _ _ _ _ _ us hl => match us, hl with | [_, _], _ => rfl
  refine fn_D [] Fd sc_law_common b .nil (fun _ _ => .nil) (fun ds M Φ h => by obtain ⟨a, b, rfl, h⟩ := h; rfl) ?_
  rintro cdv A outer s H as M Φ hr ⟨a, b, rfl, h⟩
  refine wss_cons (ws_par 2 3 rfl sc_law_common.nd rfl rfl (by decide) rfl rfl rfl ?_)
  repeat fail "x"
  refine wc_abs ?_
  repeat fail "x"
  refine wc_abs ?_
  refine wa_nil ⟨_, _, rfl, ?_⟩
  refine wss_cons (ws_while (W := fun m ρ M' => ∃ u v : Int, ρ = [some (.int a), some (.int b), some (.int u), some (.int v)] ∧ M' = M ∧ 0 ≤ u ∧ 0 ≤ v ∧ v.toNat = m ∧ Int.gcd u v = Int.gcd a b) PassesOwn.never _ ⟨_, _, rfl, rfl, ?_, ?_, rfl, ?_⟩ ?_)
  · split <;> omega
  · split <;> omega
  · split <;> split <;> simp
  · rintro m ρ M' ⟨u, v, rfl, rfl, hu, hv, hm, hg⟩
    refine wt_cmp ?_
    repeat fail "x"
    refine ⟨_, rfl, fun ht => ?_, fun hf => ?_⟩
    · have hv' : 0 < v := of_decide_eq_true ht
      refine wss_one (ws_par 2 3 rfl sc_law_common.nd rfl rfl (by decide) rfl rfl rfl ?_)
      repeat fail "x"
      refine wc_int ?_
      repeat fail "x"
      refine wc_int (wo_mod hv' ?_)
      refine wa_nil ⟨_, _, rfl, (u % v).toNat, ?_, v, u % v, rfl, rfl, by omega, Int.emod_nonneg _ (by omega), rfl, ?_⟩
      · have := Int.emod_lt_of_pos u hv'
        have := Int.emod_nonneg u (b := v) (by omega)
        omega
      · rw [← hg]; exact gcd_step hu hv'
    · have hv' : ¬ 0 < v := of_decide_eq_false hf
      have e : v = 0 := by omega
      subst e
      repeat fail "e"
      have e2 : u = (Int.gcd a b : Int) := by rw [← hg]; simp; omega
      rw [e2]; exact h
end
local macro_rules | `(tactic| fail "c") => `(tactic| ((with_reducible refine at_call "_law_common" ?_); refine we_call (ok_law_common (by assumption)) (Rm.mono (by assumption) (by decide)) rfl (Tx.g_law_common (by assumption)).1 (Tx.g_law_common (by assumption)).2 ?_))
def S_law_pair : FS := fun ds M Φ => ∃ a u : Int, ds = [.int a, .int u] ∧ 0 < u ∧ u.natAbs < 2 ^ 9000 ∧ Φ (rt (Rat.divInt a u)) M
section
local macro_rules | `(tactic| fail "v") => `(tactic| first
  | ((with_reducible refine at_name "_law_above" ?_); refine we_var 0 rfl (by fail "vis") rfl ?_)
  | ((with_reducible refine at_name "_law_under" ?_); refine we_var 1 rfl (by fail "vis") rfl ?_)
  | ((with_reducible refine at_name "_law_by" ?_); refine we_var 2 rfl (by fail "vis") rfl ?_))
theorem ok_law_pair (T : Tx K mg) : FnG P w K mg base CX0 (2 + 1) (He.ga K "_law_pair") (spD (Cs K) S_law_pair) := by
  obtain ⟨fd, Fd⟩ := T.e_law_pair
  have b := Fd.bindsN (ps := ["_law_above", "_law_under"]) fun _ _ _ _ _ _ us hl => match us, hl with | [_, _], _ => rfl
  refine fn_D [] Fd sc_law_pair b .nil (fun _ _ => .nil) (fun ds M Φ h => by obtain ⟨a, u, rfl, hu, hb, h⟩ := h; rfl) ?_
  rintro cdv A outer s H as M Φ hr ⟨a, u, rfl, hu, hb, h⟩
  refine wss_cons (ws_set 2 sc_law_pair.nd rfl (.inl rfl) ?_)
  repeat fail "x"
  refine ⟨_, _, rfl, ?_⟩
  have hu' : u ≠ 0 := by omega
  repeat fail "e"
  refine wo_fdiv (wide_div (gcd_pos hu') (gcd_lt hu' hb) (by decide) (by decide)) ?_
  repeat fail "x"
  refine wo_fdiv (wide_div (gcd_pos hu') (gcd_lt hu' hb) (by decide) (by decide)) ?_
  repeat fail "x"
  have e1 := top_eq (a := a) hu'
  have e2 := bot_eq (a := a) hu'
  rw [if_neg (by omega), Int.one_mul] at e1 e2
  rw [e1, e2]
  exact h
end
local macro_rules | `(tactic| fail "c") => `(tactic| ((with_reducible refine at_call "_law_pair" ?_); refine we_call (ok_law_pair (by assumption)) (Rm.mono (by assumption) (by decide)) rfl (Tx.g_law_pair (by assumption)).1 (Tx.g_law_pair (by assumption)).2 ?_))
def S_law_plus : FS := fun ds M Φ => ∃ (p q : Rat) (B : Nat), ds = [rt p, rt q] ∧ B ≤ 4400 ∧ Bz B p ∧ Bz B q ∧ Φ (rt (p + q)) M
section
local macro_rules | `(tactic| fail "v") => `(tactic| first
  | ((with_reducible refine at_name "_law_one" ?_); refine we_var 0 rfl (by fail "vis") rfl ?_)
  | ((with_reducible refine at_name "_law_other" ?_); refine we_var 1 rfl (by fail "vis") rfl ?_))
theorem ok_law_plus (T : Tx K mg) : FnG P w K mg base CX0 (3 + 1) (He.ga K "_law_plus") (spD (Cs K) S_law_plus) := by
  obtain ⟨fd, Fd⟩ := T.e_law_plus
  have b := Fd.bindsN (ps := ["_law_one", "_law_other"]) fun _ _ _ _ _ _ us hl => match us, hl with | [_, _], _ => rfl
  refine fn_D [] Fd sc_law_plus b .nil (fun _ _ => .nil) (fun ds M Φ h => by obtain ⟨p, q, B, rfl, hB, bp, bq, h⟩ := h; rfl) ?_
  rintro cdv A outer s H as M Φ hr ⟨p, q, B, rfl, hB, bp, bq, h⟩
  repeat fail "e"
  refine wo_mul (big_mul hB bp.n (den_lt bq)) ?_
  repeat fail "x"
  refine wo_mul (big_mul hB bq.n (den_lt bp)) ?_
  repeat fail "x"
  refine wo_mul (big_mul hB (den_lt bp) (den_lt bq)) ?_
  repeat fail "x"
  refine ⟨_, _, rfl, Int.mul_pos (rat_den_pos p) (rat_den_pos q), big_lt (by omega) (mul_lt (den_lt bp) (den_lt bq)), ?_⟩
  rw [← rat_add]; exact h
end
local macro_rules | `(tactic| fail "c") => `(tactic| ((with_reducible refine at_call "_law_plus" ?_); refine we_call (ok_law_plus (by assumption)) (Rm.mono (by assumption) (by decide)) rfl (Tx.g_law_plus (by assumption)).1 (Tx.g_law_plus (by assumption)).2 ?_))
def S_law_times : FS := fun ds M Φ => ∃ (p q : Rat) (B : Nat), ds = [rt p, rt q] ∧ B ≤ 4400 ∧ Bz B p ∧ Bz B q ∧ Φ (rt (p * q)) M
section
local macro_rules | `(tactic| fail "v") => `(tactic| first
  | ((with_reducible refine at_name "_law_one" ?_); refine we_var 0 rfl (by fail "vis") rfl ?_)
  | ((with_reducible refine at_name "_law_other" ?_); refine we_var 1 rfl (by fail "vis") rfl ?_))
theorem ok_law_times (T : Tx K mg) : FnG P w K mg base CX0 (3 + 1) (He.ga K "_law_times") (spD (Cs K) S_law_times) := by
  obtain ⟨fd, Fd⟩ := T.e_law_times
  have b := Fd.bindsN (ps := ["_law_one", "_law_other"]) fun _ _ _ _ _ _ us hl => match us, hl with | [_, _], _ => rfl
  refine fn_D [] Fd sc_law_times b .nil (fun _ _ => .nil) (fun ds M Φ h => by obtain ⟨p, q, B, rfl, hB, bp, bq, h⟩ := h; rfl) ?_
  rintro cdv A outer s H as M Φ hr ⟨p, q, B, rfl, hB, bp, bq, h⟩
  repeat fail "e"
  refine wo_mul (big_mul hB bp.n bq.n) ?_
  repeat fail "x"
  refine wo_mul (big_mul hB (den_lt bp) (den_lt bq)) ?_
  repeat fail "x"
  refine ⟨_, _, rfl, Int.mul_pos (rat_den_pos p) (rat_den_pos q), big_lt (by omega) (mul_lt (den_lt bp) (den_lt bq)), ?_⟩
  rw [← rat_mul]; exact h
end
local macro_rules | `(tactic| fail "c") => `(tactic| ((with_reducible refine at_call "_law_times" ?_); refine we_call (ok_law_times (by assumption)) (Rm.mono (by assumption) (by decide)) rfl (Tx.g_law_times (by assumption)).1 (Tx.g_law_times (by assumption)).2 ?_))
theorem num_pos {q : Rat} (h : 0 < q) : 0 < q.num := by
  have := Rat.num_nonneg.mpr (Rat.le_of_lt h)
  have := num_ne (Rat.ne_of_gt h)
  omega
def S_law_over : FS := fun ds M Φ => ∃ (p q : Rat) (B : Nat), ds = [rt p, rt q] ∧ 0 < q ∧ B ≤ 4400 ∧ Bz B p ∧ Bz B q ∧ Φ (rt (p / q)) M
section
local macro_rules | `(tactic| fail "v") => `(tactic| first
  | ((with_reducible refine at_name "_law_one" ?_); refine we_var 0 rfl (by fail "vis") rfl ?_)
  | ((with_reducible refine at_name "_law_other" ?_); refine we_var 1 rfl (by fail "vis") rfl ?_))
theorem ok_law_over (T : Tx K mg) : FnG P w K mg base CX0 (3 + 1) (He.ga K "_law_over") (spD (Cs K) S_law_over) := by
  obtain ⟨fd, Fd⟩ := T.e_law_over
  have b := Fd.bindsN (ps := ["_law_one", "_law_other"]) fun _ _ _ _ _ _ us hl => match us, hl with | [_, _], _ => rfl
  refine fn_D [] Fd sc_law_over b .nil (fun _ _ => .nil) (fun ds M Φ h => by obtain ⟨p, q, B, rfl, hq, hB, bp, bq, h⟩ := h; rfl) ?_
  rintro cdv A outer s H as M Φ hr ⟨p, q, B, rfl, hq, hB, bp, bq, h⟩
  repeat fail "e"
  refine wo_mul (big_mul hB bp.n (den_lt bq)) ?_
  repeat fail "x"
  refine wo_mul (big_mul hB (den_lt bp) bq.n) ?_
  repeat fail "x"
  refine ⟨_, _, rfl, Int.mul_pos (rat_den_pos p) (num_pos hq), big_lt (by omega) (mul_lt (den_lt bp) bq.n), ?_⟩
  rw [← rat_div]; exact h
end
local macro_rules | `(tactic| fail "c") => `(tactic| ((with_reducible refine at_call "_law_over" ?_); refine we_call (ok_law_over (by assumption)) (Rm.mono (by assumption) (by decide)) rfl (Tx.g_law_over (by assumption)).1 (Tx.g_law_over (by assumption)).2 ?_))

/-- a source as the law has it -/
structure Nn (B : Nat) (v r : Rat) : Prop where
  v0 : 0 ≤ v
  r0 : 0 ≤ r
  bv : Bz B v
  br : Bz B r
theorem Nn.mono {B C : Nat} {v r : Rat} (h : Nn B v r) (l : B ≤ C) : Nn C v r := ⟨h.v0, h.r0, h.bv.mono l, h.br.mono l⟩
theorem _root_.DL.div_nonneg {a u : Int} (ha : 0 ≤ a) (hu : 0 < u) : 0 ≤ Rat.divInt a u := by
  rw [← Rat.num_nonneg, Rat.num_divInt]
  exact Int.ediv_nonneg (Int.mul_nonneg (by rw [Int.sign_eq_one_of_pos hu]; decide) ha) (by omega)
def S_law_ratio : FS := fun ds M Φ => ∃ (p : Addr) (c : Nat), ds = [.ref p] ∧ c ≤ 900000 ∧ Pot M p c ∧ ∀ q M', 0 ≤ q → Bz 28 q → PotTo M p M' (c + 5) → Φ (rt q) M'
section
local macro_rules | `(tactic| fail "v") => `(tactic| first
  | ((with_reducible refine at_name "_law_pot_here" ?_); refine we_var 0 rfl (by fail "vis") rfl ?_)
  | ((with_reducible refine at_name "_law_above" ?_); refine we_var 1 rfl (by fail "vis") rfl ?_))
theorem ok_law_ratio (T : Tx K mg) : FnG P w K mg base CX0 (4 + 1) (He.ga K "_law_ratio") (spD (Cs K) S_law_ratio) := by
  obtain ⟨fd, Fd⟩ := T.e_law_ratio
  have b := Fd.bindsN (ps := ["_law_pot_here"]) fun _ _ _ _ _ _ us hl => match us, hl with | [_], _ => rfl
  refine fn_D [] Fd sc_law_ratio b .nil (fun _ _ => .nil) (fun ds M Φ h => by obtain ⟨p, c, rfl, hc, hp, h⟩ := h; rfl) ?_
  rintro cdv A outer s H as M Φ hr ⟨p, c, rfl, hc, hp, h⟩
  refine wss_cons (ws_set 1 sc_law_ratio.nd rfl (.inl rfl) ?_)
  fail "c"
  refine wa_cons ?_
  fail "v"
  refine wa_cons (we_lst ?_)
  repeat fail "x"
  refine ⟨p, 9, c, rfl, by decide, by decide, by omega, hp, fun r1 M1 a0 a1 t1 => ?_⟩
  repeat fail "x"
  refine ⟨p, 60, c + 1, rfl, by decide, by decide, by omega, t1.pot, fun r2 M2 b0 b1 t2 => ?_⟩
  repeat fail "x"
  refine wo_pow (by decide +kernel) ?_
  repeat fail "x"
  refine ⟨p, 9, c + 2, rfl, by decide, by decide, by omega, t2.pot, fun r3 M3 c0 c1 t3 => ?_⟩
  repeat fail "x"
  refine ⟨p, _, c + 3, rfl, by simp, by show 4 ≤ 1000; decide, by omega, t3.pot, fun d M4 hd t4 => ?_⟩
  have e5 : (10 : Int) ^ (8 : Int).toNat = 100000000 := by decide +kernel
  rw [e5] at hd
  obtain ⟨k, rfl, k0, k1⟩ : ∃ k : Int, d = .int k ∧ 0 ≤ k ∧ k < 100000010 := by
    simp at hd
    rcases hd with rfl | rfl | rfl | rfl
    · exact ⟨_, rfl, by omega, by omega⟩
    · exact ⟨_, rfl, by omega, by omega⟩
    · exact ⟨_, rfl, by omega, by omega⟩
    · exact ⟨_, rfl, by omega, by omega⟩
  refine wss_one (ws_ret ?_)
  repeat fail "x"
  refine ⟨p, 12, c + 4, rfl, by decide, by decide, by omega, t4.pot, fun r5 M5 d0 d1 t5 => ?_⟩
  repeat fail "x"
  refine ⟨_, _, rfl, by omega, big_lt (B := 5) (by decide) (by omega), h _ M5 (div_nonneg k0 (by omega)) (Bz.div (by omega) (by omega) (by omega)) ((((t1.trans t2).trans t3).trans t4).trans t5)⟩
end
local macro_rules | `(tactic| fail "c") => `(tactic| ((with_reducible refine at_call "_law_ratio" ?_); refine we_call (ok_law_ratio (by assumption)) (Rm.mono (by assumption) (by decide)) rfl (Tx.g_law_ratio (by assumption)).1 (Tx.g_law_ratio (by assumption)).2 ?_))

def S_law_is_beside : FS := fun ds M Φ => ∃ (v r l : Rat), ds = [src v r, rt l] ∧ Nn 28 v r ∧ 0 < l ∧ Bz 28 l ∧ Φ (.bl true) M
section
local macro_rules | `(tactic| fail "v") => `(tactic| first
  | ((with_reducible refine at_name "_law_one" ?_); refine we_var 0 rfl (by fail "vis") rfl ?_)
  | ((with_reducible refine at_name "_law_load" ?_); refine we_var 1 rfl (by fail "vis") rfl ?_)
  | ((with_reducible refine at_name "_law_bare" ?_); refine we_var 2 rfl (by fail "vis") rfl ?_))
theorem ok_law_is_beside (T : Tx K mg) : FnG P w K mg base CX0 (9 + 1) (He.ga K "_law_is_beside") (spD (Cs K) S_law_is_beside) := by
  obtain ⟨fd, Fd⟩ := T.e_law_is_beside
  have b := Fd.bindsN (ps := ["_law_one", "_law_load"]) fun _ _ _ _ _ _ us hl => match us, hl with | [_, _], _ => rfl
  refine fn_D [] Fd sc_law_is_beside b .nil (fun _ _ => .nil) (fun ds M Φ h => by obtain ⟨v, r, l, rfl, N, hl, bl, h⟩ := h; rfl) ?_
  rintro cdv A outer s H as M Φ hr ⟨v, r, l, rfl, N, hl, bl, h⟩
  have il : 0 < 1 / l := q_pos_div (by decide) hl
  have ib : Bz 56 (1 / l) := Bz.over (Rat.ne_of_gt hl) (Bz.one.mono (by decide)) bl
  have rs : 0 < r + 1 / l := by have := N.r0; grind
  have rs' : 0 < 1 / l + r := by rw [Rat.add_comm]; exact rs
  refine wss_cons (ws_set 2 sc_law_is_beside.nd rfl (.inl rfl) ?_)
  repeat fail "x"
  refine ⟨1, l, 28, rfl, hl, by decide, Bz.one.mono (by decide), bl, ?_⟩
  repeat fail "x"
  refine ⟨0, 1 / l, rfl, Rat.le_refl, Rat.le_of_lt il, Bz.zero.mono (by decide), ib.mono (by decide), ?_⟩
  refine wss_one (ws_ret (we_and ?_))
  repeat fail "x"
  refine ⟨v, r, l, 28, rfl, by decide, by decide, N.v0, N.r0, Rat.le_of_lt hl, N.bv, N.br, bl, ?_⟩
  repeat fail "x"
  refine ⟨v, r, 0, 1 / l, 56, rfl, by decide, N.v0, N.r0, Rat.le_refl, Rat.le_of_lt il, rs, N.bv.mono (by decide), N.br.mono (by decide), Bz.zero.mono (by decide), ib, ?_⟩
  repeat fail "x"
  refine ⟨_, _, _, _, rfl, _, rfl, fun _ => we_one ?_, fun z => ?_⟩
  rotate_left
  · rw [eq2_true (bes_v N.r0 hl).symm (bes_o N.r0 hl).symm] at z; cases z
  repeat fail "x"
  refine ⟨v, r, l, 28, rfl, by decide, by decide, N.v0, N.r0, Rat.le_of_lt hl, N.bv, N.br, bl, ?_⟩
  repeat fail "x"
  refine ⟨0, 1 / l, v, r, 56, rfl, by decide, Rat.le_refl, Rat.le_of_lt il, N.v0, N.r0, rs', Bz.zero.mono (by decide), ib, N.bv.mono (by decide), N.br.mono (by decide), ?_⟩
  repeat fail "x"
  refine ⟨_, _, _, _, rfl, ?_⟩
  have e1 : (0 * r + v * (1 / l)) / (1 / l + r) = v / (1 + r * l) := by rw [Rat.add_comm, Rat.add_comm (1 / l)]; exact bes_v N.r0 hl
  have e2 : 1 / l * r / (1 / l + r) = r / (1 + r * l) := by rw [Rat.mul_comm, Rat.add_comm (1 / l)]; exact bes_o N.r0 hl
  rw [eq2_true e1.symm e2.symm]
  exact h
end
local macro_rules | `(tactic| fail "c") => `(tactic| ((with_reducible refine at_call "_law_is_beside" ?_); refine we_call (ok_law_is_beside (by assumption)) (Rm.mono (by assumption) (by decide)) rfl (Tx.g_law_is_beside (by assumption)).1 (Tx.g_law_is_beside (by assumption)).2 ?_))
/-- the bounds of what & gives -/
theorem and_bz {v r w s : Rat} {B : Nat} (hp : 0 < r + s) (bv : Bz B v) (br : Bz B r) (bw : Bz B w) (bs : Bz B s) : Bz (8 * B + 2) ((v * s + w * r) / (r + s)) ∧ Bz (8 * B + 2) (r * s / (r + s)) := by
  have b1 := (bv.mul bs).add (bw.mul br)
  have b2 := br.add bs
  have b3 := br.mul bs
  exact ⟨(Bz.over (B := 4 * B + 1) (Rat.ne_of_gt hp) (b1.mono (by omega)) (b2.mono (by omega))).mono (by omega), (Bz.over (B := 4 * B + 1) (Rat.ne_of_gt hp) (b3.mono (by omega)) (b2.mono (by omega))).mono (by omega)⟩
theorem and_nn {v r w s : Rat} {B : Nat} (a : Nn B v r) (b : Nn B w s) (hp : 0 < r + s) : Nn (8 * B + 2) ((v * s + w * r) / (r + s)) (r * s / (r + s)) :=
  ⟨q_div_nonneg (Rat.add_nonneg (Rat.mul_nonneg a.v0 b.r0) (Rat.mul_nonneg b.v0 a.r0)) hp, q_div_nonneg (Rat.mul_nonneg a.r0 b.r0) hp, (and_bz hp a.bv a.br b.bv b.br).1, (and_bz hp a.bv a.br b.bv b.br).2⟩
theorem add_nn {v r w s : Rat} {B : Nat} (a : Nn B v r) (b : Nn B w s) : Nn (2 * B + 1) (v + w) (r + s) := ⟨Rat.add_nonneg a.v0 b.v0, Rat.add_nonneg a.r0 b.r0, a.bv.add b.bv, a.br.add b.br⟩
/-- & and + with both sources at hand -/
theorem S_and_mk {v r w s : Rat} {B : Nat} {M : Mem} {Φ : D → Mem → Prop} (hB : B ≤ 1000) (a : Nn B v r) (b : Nn B w s) (hp : 0 < r + s) (h : Φ (src ((v * s + w * r) / (r + s)) (r * s / (r + s))) M) : S_Source_and [src v r, src w s] M Φ :=
  ⟨v, r, w, s, B, rfl, hB, a.v0, a.r0, b.v0, b.r0, hp, a.bv, a.br, b.bv, b.br, h⟩
theorem S_add_mk {v r w s : Rat} {B : Nat} {M : Mem} {Φ : D → Mem → Prop} (hB : B ≤ 4000) (a : Nn B v r) (b : Nn B w s) (h : Φ (src (v + w) (r + s)) M) : S_Source_add [src v r, src w s] M Φ :=
  ⟨v, r, w, s, B, rfl, hB, a.v0, a.r0, b.v0, b.r0, a.bv, a.br, b.bv, b.br, h⟩
theorem S_eq_mk {v r w s : Rat} {M : Mem} {Φ : D → Mem → Prop} (h : Φ (.bl (decide (v = w) && decide (r = s))) M) : S_Source_eq [src v r, src w s] M Φ := ⟨v, r, w, s, rfl, h⟩
theorem S_ge_mk {v r w s : Rat} {B : Nat} {M : Mem} {Φ : D → Mem → Prop} (hB : B ≤ 2000) (a : Nn B v r) (b : Nn B w s) (h : Φ (.bl (strong v r w s)) M) : S_Source_ge [src v r, src w s] M Φ := ⟨v, r, w, s, B, rfl, hB, a.bv, a.br, b.bv, b.br, h⟩
theorem S_under_mk {v r l : Rat} {B : Nat} {M : Mem} {Φ : D → Mem → Prop} (h1 : 1 ≤ B) (hB : B ≤ 1000) (a : Nn B v r) (l0 : 0 ≤ l) (bl : Bz B l) (h : Φ (src (v / (1 + r * l)) (r / (1 + r * l))) M) : S_Source_under [src v r, rt l] M Φ :=
  ⟨v, r, l, B, rfl, h1, hB, a.v0, a.r0, l0, a.bv, a.br, bl, h⟩
theorem under_nn {v r l : Rat} {B : Nat} (h1 : 1 ≤ B) (a : Nn B v r) (l0 : 0 ≤ l) (bl : Bz B l) : Nn (8 * B + 2) (v / (1 + r * l)) (r / (1 + r * l)) := by
  have hp := share_pos a.r0 l0
  have hs := Bz.share h1 a.br bl
  exact ⟨q_div_nonneg a.v0 hp, q_div_nonneg a.r0 hp, (Bz.over (Rat.ne_of_gt hp) (a.bv.mono (by omega)) hs).mono (by omega), (Bz.over (Rat.ne_of_gt hp) (a.br.mono (by omega)) hs).mono (by omega)⟩
def S_law_are_joined : FS := fun ds M Φ => ∃ (v r w s x t : Rat), ds = [src v r, src w s, src x t] ∧ Nn 28 v r ∧ Nn 28 w s ∧ Nn 28 x t ∧ 0 < r ∧ 0 < s ∧ 0 < t ∧ Φ (.bl true) M
section
local macro_rules | `(tactic| fail "v") => `(tactic| first
  | ((with_reducible refine at_name "_law_one" ?_); refine we_var 0 rfl (by fail "vis") rfl ?_)
  | ((with_reducible refine at_name "_law_other" ?_); refine we_var 1 rfl (by fail "vis") rfl ?_)
  | ((with_reducible refine at_name "_law_third" ?_); refine we_var 2 rfl (by fail "vis") rfl ?_))
theorem ok_law_are_joined (T : Tx K mg) : FnG P w K mg base CX0 (9 + 1) (He.ga K "_law_are_joined") (spD (Cs K) S_law_are_joined) := by
  obtain ⟨fd, Fd⟩ := T.e_law_are_joined
  have b := Fd.bindsN (ps := ["_law_one", "_law_other", "_law_third"]) fun _ _ _ _ _ _ us hl => match us, hl with | [_, _, _], _ => rfl
  refine fn_D [] Fd sc_law_are_joined b .nil (fun _ _ => .nil) (fun ds M Φ h => by obtain ⟨v, r, w', s', x, t, rfl, N1, N2, N3, r0, s0, t0, h⟩ := h; rfl) ?_
  rintro cdv A outer s H as M Φ hr ⟨v, r, w', s', x, t, rfl, N1, N2, N3, r0, s0, t0, h⟩
  have p12 : 0 < r + s' := q_add_pos r0 s0
  have p21 : 0 < s' + r := q_add_pos s0 r0
  have p23 : 0 < s' + t := q_add_pos s0 t0
  have p11 : 0 < r + r := q_add_pos r0 r0
  have q12 : 0 < r * s' / (r + s') := q_pos_div (Rat.mul_pos r0 s0) p12
  have q23 : 0 < s' * t / (s' + t) := q_pos_div (Rat.mul_pos s0 t0) p23
  have pL : 0 < r * s' / (r + s') + t := q_add_pos q12 t0
  have pR : 0 < r + s' * t / (s' + t) := q_add_pos r0 q23
  refine wss_cons (ws_if (WW.wt (ww_or (wt_cmp ?_))))
  repeat fail "x"
  refine S_add_mk (by decide) N1 N2 ?_
  repeat fail "x"
  refine S_add_mk (by decide) N2 N1 ?_
  repeat fail "x"
  refine S_eq_mk ⟨_, rfl, _, rfl, fun z => ?_, fun _ => ww_or1 (wt_cmp ?_)⟩
  · rw [eq2_true (Rat.add_comm v w') (Rat.add_comm r s')] at z; cases z
  repeat fail "x"
  refine S_add_mk (by decide) N1 N2 ?_
  repeat fail "x"
  refine S_add_mk (B := 57) (by decide) (add_nn N1 N2) (N3.mono (by decide)) ?_
  repeat fail "x"
  refine S_add_mk (by decide) N2 N3 ?_
  repeat fail "x"
  refine S_add_mk (B := 57) (by decide) (N1.mono (by decide)) (add_nn N2 N3) ?_
  repeat fail "x"
  refine S_eq_mk ⟨_, rfl, _, rfl, fun z => ?_, fun _ => wss_nil ?_⟩
  · rw [eq2_true (Rat.add_assoc v w' x) (Rat.add_assoc r s' t)] at z; cases z
  refine wss_cons (ws_if (WW.wt (ww_or (wt_cmp ?_))))
  repeat fail "x"
  refine S_and_mk (by decide) N1 N2 p12 ?_
  repeat fail "x"
  refine S_and_mk (by decide) N2 N1 p21 ?_
  repeat fail "x"
  refine S_eq_mk ⟨_, rfl, _, rfl, fun z => ?_, fun _ => ww_or1 (wt_cmp ?_)⟩
  · rw [eq2_true (by rw [Rat.add_comm (v * s'), Rat.add_comm r]) (by rw [Rat.mul_comm, Rat.add_comm r])] at z; cases z
  repeat fail "x"
  refine S_and_mk (by decide) N1 N2 p12 ?_
  repeat fail "x"
  refine S_and_mk (B := 226) (by decide) (and_nn N1 N2 p12) (N3.mono (by decide)) pL ?_
  repeat fail "x"
  refine S_and_mk (by decide) N2 N3 p23 ?_
  repeat fail "x"
  refine S_and_mk (B := 226) (by decide) (N1.mono (by decide)) (and_nn N2 N3 p23) pR ?_
  repeat fail "x"
  refine S_eq_mk ⟨_, rfl, _, rfl, fun z => ?_, fun _ => wss_nil ?_⟩
  · rw [eq2_true (and_assoc_v r0 s0 t0) (and_assoc_o r0 s0 t0)] at z; cases z
  refine wss_one (ws_ret (we_and ?_))
  repeat fail "x"
  refine S_and_mk (by decide) N1 N1 p11 ?_
  repeat fail "x"
  refine ⟨_, _, rfl, ?_⟩
  repeat fail "x"
  refine ⟨_, _, rfl, ?_⟩
  refine wo_eqD hr (rt_isPy _) (rt_isPy _) (rt_shaped _) (rt_shaped _) ⟨_, rfl, fun _ => we_one ?_, fun z => ?_⟩
  rotate_left
  · rw [rt_eqv, decide_eq_true (and_self_v r0)] at z; cases z
  repeat fail "x"
  refine S_and_mk (by decide) N1 N1 p11 ?_
  repeat fail "x"
  refine S_ge_mk (B := 226) (by decide) (and_nn N1 N1 p11) (N1.mono (by decide)) ?_
  rw [strong_half N1.v0 r0]
  exact h
end
local macro_rules | `(tactic| fail "c") => `(tactic| ((with_reducible refine at_call "_law_are_joined" ?_); refine we_call (ok_law_are_joined (by assumption)) (Rm.mono (by assumption) (by decide)) rfl (Tx.g_law_are_joined (by assumption)).1 (Tx.g_law_are_joined (by assumption)).2 ?_))
def S_law_is_carried : FS := fun ds M Φ => ∃ (v r w s l : Rat) (n : Int), ds = [src v r, src w s, rt l, .int n] ∧ Nn 28 v r ∧ Nn 28 w s ∧ 0 ≤ l ∧ Bz 28 l ∧ 0 ≤ n ∧ n < 9 ∧ Φ (.bl true) M
section
local macro_rules | `(tactic| fail "v") => `(tactic| first
  | ((with_reducible refine at_name "_law_one" ?_); refine we_var 0 rfl (by fail "vis") rfl ?_)
  | ((with_reducible refine at_name "_law_other" ?_); refine we_var 1 rfl (by fail "vis") rfl ?_)
  | ((with_reducible refine at_name "_law_load" ?_); refine we_var 2 rfl (by fail "vis") rfl ?_)
  | ((with_reducible refine at_name "_law_many" ?_); refine we_var 3 rfl (by fail "vis") rfl ?_))
theorem ok_law_is_carried (T : Tx K mg) : FnG P w K mg base CX0 (10 + 1) (He.ga K "_law_is_carried") (spD (Cs K) S_law_is_carried) := by
  obtain ⟨fd, Fd⟩ := T.e_law_is_carried
  have b := Fd.bindsN (ps := ["_law_one", "_law_other", "_law_load", "_law_many"]) fun _ _ _ _ _ _ us hl => match us, hl with | [_, _, _, _], _ => rfl
  refine fn_D [] Fd sc_law_is_carried b .nil (fun _ _ => .nil) (fun ds M Φ h => by obtain ⟨v, r, w', s', l, n, rfl, N1, N2, l0, bl, n0, n1, h⟩ := h; rfl) ?_
  rintro cdv A outer s H as M Φ hr ⟨v, r, w', s', l, n, rfl, N1, N2, l0, bl, n0, n1, h⟩
  have bn : n.natAbs < 2 ^ 28 := by omega
  refine wss_cons (ws_if (wt_not (wt_cmp ?_)))
  repeat fail "x"
  refine S_ge_mk (by decide) N1 N2 ⟨_, rfl, fun _ => ?_, fun hs => wss_nil ?_⟩
  · repeat fail "e"
    exact h
  have hs' : strong v r w' s' = true := by
    revert hs
    cases strong v r w' s' <;> simp
  refine wss_one (ws_ret (we_and ?_))
  repeat fail "x"
  refine S_under_mk (by decide) (by decide) N1 l0 bl ?_
  repeat fail "x"
  refine S_under_mk (by decide) (by decide) N2 l0 bl ?_
  repeat fail "x"
  refine S_ge_mk (B := 226) (by decide) (under_nn (by decide) N1 l0 bl) (under_nn (by decide) N2 l0 bl) ⟨_, rfl, fun _ => we_one ?_, fun z => ?_⟩
  rotate_left
  · rw [strong_under hs' N1.r0 N2.r0 l0] at z; cases z
  repeat fail "x"
  refine ⟨v, r, n, 28, rfl, by decide, by decide, N1.v0, N1.r0, n0, bn, N1.bv, N1.br, ?_⟩
  repeat fail "x"
  refine ⟨w', s', n, 28, rfl, by decide, by decide, N2.v0, N2.r0, n0, bn, N2.bv, N2.br, ?_⟩
  have qn := ofInt_nonneg n0
  have nb : Bz 28 (n : Rat) := Bz.ofInt bn (by decide)
  repeat fail "x"
  refine S_ge_mk (B := 56) (by decide) ⟨Rat.mul_nonneg N1.v0 qn, N1.r0, N1.bv.mul nb, N1.br.mono (by decide)⟩ ⟨Rat.mul_nonneg N2.v0 qn, N2.r0, N2.bv.mul nb, N2.br.mono (by decide)⟩ ?_
  rw [strong_many hs' qn]
  exact h
end
local macro_rules | `(tactic| fail "c") => `(tactic| ((with_reducible refine at_call "_law_is_carried" ?_); refine we_call (ok_law_is_carried (by assumption)) (Rm.mono (by assumption) (by decide)) rfl (Tx.g_law_is_carried (by assumption)).1 (Tx.g_law_is_carried (by assumption)).2 ?_))

def n_right4 : List Str := ["_law_pot_here", "_law_rows", "_law_lap", "_law_volts", "_law_ohms", "_law_one", "_law_other", "_law_third", "_law_load", "_law_more", "_law_many", "_law_firm"]
def S_law_right : FS := fun ds M Φ => ∃ (p : Addr) (c : Nat), ds = [.ref p] ∧ c ≤ 600000 ∧ Pot M p c ∧ ∀ M', PotTo M p M' (c + 100) → Φ (.bl true) M'
section
local macro_rules | `(tactic| fail "v") => `(tactic| first
  | ((with_reducible refine at_name "_law_pot_here" ?_); refine we_var 0 rfl (by fail "vis") rfl ?_)
  | ((with_reducible refine at_name "_law_rows" ?_); refine we_var 1 rfl (by fail "vis") rfl ?_)
  | ((with_reducible refine at_name "_law_lap" ?_); refine we_var 2 rfl (by fail "vis") rfl ?_)
  | ((with_reducible refine at_name "_law_volts" ?_); refine we_var 3 rfl (by fail "vis") rfl ?_)
  | ((with_reducible refine at_name "_law_ohms" ?_); refine we_var 4 rfl (by fail "vis") rfl ?_)
  | ((with_reducible refine at_name "_law_one" ?_); refine we_var 5 rfl (by fail "vis") rfl ?_)
  | ((with_reducible refine at_name "_law_other" ?_); refine we_var 6 rfl (by fail "vis") rfl ?_)
  | ((with_reducible refine at_name "_law_third" ?_); refine we_var 7 rfl (by fail "vis") rfl ?_)
  | ((with_reducible refine at_name "_law_load" ?_); refine we_var 8 rfl (by fail "vis") rfl ?_)
  | ((with_reducible refine at_name "_law_more" ?_); refine we_var 9 rfl (by fail "vis") rfl ?_)
  | ((with_reducible refine at_name "_law_many" ?_); refine we_var 10 rfl (by fail "vis") rfl ?_)
  | ((with_reducible refine at_name "_law_firm" ?_); refine we_var 11 rfl (by fail "vis") rfl ?_))
theorem ok_law_right (T : Tx K mg) : FnG P w K mg base CX0 (11 + 1) (He.ga K "_law_right") (spD (Cs K) S_law_right) := by
  obtain ⟨fd, Fd⟩ := T.e_law_right
  have b := Fd.bindsN (ps := ["_law_pot_here"]) fun _ _ _ _ _ _ us hl => match us, hl with | [_], _ => rfl
  refine fn_D [] Fd sc_law_right b .nil (fun _ _ => .nil) (fun ds M Φ h => by obtain ⟨p, c, rfl, hc, hp, h⟩ := h; rfl) ?_
  rintro cdv A outer s H as M Φ hr ⟨p, c, rfl, hc, hp, h⟩
  refine wss_cons (ws_set 1 sc_law_right.nd rfl (.inl rfl) (we_lstO (wa_nil ⟨by decide, fun q hq => ?_⟩)))
  have hqp : q ≠ p := fun z => by
    obtain ⟨_, _, _, e, _⟩ := hp
    rw [z, e] at hq; cases hq
  refine wss_cons (ws_forR PassesOwn.never rfl rfl T.f_range (we_int ⟨3, rfl, by decide, fun i ρ' M' => ∃ (x y z : Option D) (l : List (Rat × Rat)), ρ' = [some (.ref p), some (.ref q), x, y, z, none, none, none, none, none, none, none] ∧ l.length = i ∧ (∀ u ∈ l, Nn 28 u.1 u.2 ∧ 0 < u.2) ∧ M' q = some (.lst (l.map fun u => src u.1 u.2)) ∧ Pot M' p (c + 12 * i) ∧ ∀ a, a ≠ p → a ≠ q → M' a = M a, ?_, ?_, ?_⟩))
  · obtain ⟨o, sd, n, e, v⟩ := hp
    exact ⟨none, none, none, [], rfl, rfl, nofun, put_same, ⟨o, sd, n, by rw [put_ne (Ne.symm hqp)]; exact e, v⟩, fun a _ ha => put_ne ha⟩
  · rintro i d ρ' M' hd ⟨x, y, z, l, rfl, hl, hN, hM, hpt, ho⟩
    have hi : i < 3 := by
      have := (List.getElem?_eq_some_iff.mp hd).1
      simpa [DL.upTo] using this
    refine wg_name 2 sc_law_right.nd rfl (.inl rfl) ?_
    refine wss_cons (ws_par 3 4 rfl sc_law_right.nd rfl rfl (by decide) rfl rfl rfl ?_)
    repeat fail "x"
    refine ⟨p, c + 12 * i, rfl, by omega, hpt, fun v M1 v0 bv t1 => ?_⟩
    repeat fail "x"
    refine ⟨p, c + 12 * i + 5, rfl, by omega, t1.pot, fun r M2 r0 br t2 => ?_⟩
    refine wa_nil ⟨_, _, rfl, ?_⟩
    have key : ∀ (r' : Rat) (M3 : Mem), 0 < r' → Bz 28 r' → PotTo M' p M3 (c + 12 * i + 12) → M3 q = some (.lst (l.map fun u => src u.1 u.2)) ∧ ∃ (x y z : Option D) (l' : List (Rat × Rat)), [some (.ref p), some (.ref q), some d, some (rt v), some (rt r), none, none, none, none, none, none, none] = [some (D.ref p), some (.ref q), x, y, z, none, none, none, none, none, none, none] ∧ l'.length = i + 1 ∧ (∀ u ∈ l', Nn 28 u.1 u.2 ∧ 0 < u.2) ∧ put M3 q (.lst ((l.map fun u => src u.1 u.2) ++ [src v r'])) q = some (.lst (l'.map fun u => src u.1 u.2)) ∧ Pot (put M3 q (.lst ((l.map fun u => src u.1 u.2) ++ [src v r']))) p (c + 12 * (i + 1)) ∧ ∀ a, a ≠ p → a ≠ q → put M3 q (.lst ((l.map fun u => src u.1 u.2) ++ [src v r'])) a = M a := by
      intro r' M3 r0' br' t3
      refine ⟨by rw [t3.old q hqp]; exact hM, _, _, _, l ++ [(v, r')], rfl, by rw [List.length_append, hl]; rfl, ?_, ?_, ?_, ?_⟩
      · intro u hu
        rcases List.mem_append.mp hu with hu | hu
        · exact hN u hu
        · cases List.mem_singleton.mp hu
          exact ⟨⟨v0, Rat.le_of_lt r0', bv, br'⟩, r0'⟩
      · rw [put_same, List.map_append]; rfl
      · obtain ⟨o, sd, n, e, v⟩ := t3.pot.mono (show c + 12 * i + 12 ≤ c + 12 * (i + 1) by omega)
        exact ⟨o, sd, n, by rw [put_ne (Ne.symm hqp)]; exact e, v⟩
      · intro a ha hb
        rw [put_ne hb, t3.old a ha, ho a ha hb]
    refine wss_one (ws_expr (we_append ?_))
    fail "v"
    refine ⟨q, _, rfl, (t2.old q hqp).trans ((t1.old q hqp).trans hM), ?_⟩
    fail "c"
    refine wa_cons ?_
    fail "v"
    refine wa_cons (we_if (wt_cmp ?_))
    repeat fail "x"
    refine ⟨_, rfl, fun hc1 => ?_, fun hc1 => ?_⟩
    · have hn : 0 < r.num := of_decide_eq_true hc1
      have r0' : 0 < r := Rat.lt_of_le_of_ne r0 fun z => by rw [← z] at hn; exact absurd hn (by decide)
      repeat fail "x"
      refine ⟨v, r, rfl, v0, r0, bv.mono (by decide), br.mono (by decide), ?_⟩
      obtain ⟨k1, k2⟩ := key r M2 r0' br ((t1.trans t2).mono (by omega))
      exact ⟨_, k1, by rw [List.length_map]; omega, k2⟩
    · repeat fail "x"
      refine ⟨p, 9, c + 12 * i + 10, rfl, by decide, by decide, by omega, t2.pot, fun r1 M3 a0 a1 t3 => ?_⟩
      repeat fail "x"
      refine ⟨p, 3, c + 12 * i + 11, rfl, by decide, by decide, by omega, t3.pot, fun r2 M4 b0 b1 t4 => ?_⟩
      repeat fail "x"
      refine ⟨_, _, rfl, by omega, big_lt (B := 5) (by decide) (by omega), ?_⟩
      have q0 : 0 < Rat.divInt (1 + r1) (1 + r2) := divInt_pos (by omega) (by omega)
      have qb : Bz 28 (Rat.divInt (1 + r1) (1 + r2)) := Bz.div (by omega) (by omega) (by omega)
      refine wa_nil ⟨v, _, rfl, v0, Rat.le_of_lt q0, bv.mono (by decide), qb.mono (by decide), ?_⟩
      obtain ⟨k1, k2⟩ := key _ M4 q0 qb ((((t1.trans t2).trans t3).trans t4).mono (by omega))
      exact ⟨_, k1, by rw [List.length_map]; omega, k2⟩
  rintro ρ' M' ⟨x0, y0, z0, l, rfl, hl, hN, hM, hpt, ho⟩
  have hl3 : l.length = 3 := hl
  obtain ⟨⟨v, r⟩, ⟨w', s'⟩, ⟨x, t⟩, rfl⟩ : ∃ a b c, l = [a, b, c] := by
    match l, hl3 with
    | [a, b, c], _ => exact ⟨a, b, c, rfl⟩
  obtain ⟨N1, r0⟩ : Nn 28 v r ∧ 0 < r := hN (v, r) (by simp)
  obtain ⟨N2, s0⟩ : Nn 28 w' s' ∧ 0 < s' := hN (w', s') (by simp)
  obtain ⟨N3, t0⟩ : Nn 28 x t ∧ 0 < t := hN (x, t) (by simp)
  refine wss_frz 1 rfl hM ?_
  have T0 : PotTo M p (era M' q) (c + 36) := by
    refine ⟨fun a ha => ?_, ?_⟩
    · by_cases e : a = q
      · rw [e, era_same, hq]
      · rw [era_ne e, ho a ha e]
    · obtain ⟨o, sd, n, e, v⟩ := hpt
      exact ⟨o, sd, n, by rw [era_ne (Ne.symm hqp)]; exact e, v⟩
  generalize era M' q = M1 at T0
  refine wss_cons (ws_asg ?_)
  fail "v"
  refine wg_unl rfl rfl (wgs_cons (wg_name 5 sc_law_right.nd rfl (.inl rfl) (wgs_cons (wg_name 6 sc_law_right.nd rfl (.inl rfl) (wgs_cons (wg_name 7 sc_law_right.nd rfl (.inl rfl) (wgs_nil ?_)))))))
  refine wss_cons (ws_asg ?_)
  refine we_lcR rfl sc_law_right.nd rfl T.f_range (blkOk_by (N := n_right4) (sc := defScope s_law_right) (own := [("_law_lap", 2)]) (by decide +kernel)) (fun _ _ _ _ _ => pg_name (i := 2) sc_law_right.nd rfl (.inl rfl)) (tg_name (j := 2) (by decide)) ?_
  refine we_int ⟨2, rfl, by decide, fun i acc M5 => PotTo M p M5 (c + 36 + 2 * i) ∧ ∃ ls : List Rat, acc = ls.map rt ∧ ∀ l ∈ ls, 0 < l ∧ Bz 28 l, ⟨T0, [], rfl, nofun⟩, ?_, ?_⟩
  · rintro i d acc M5 hd hl ⟨hp5, ls, rfl, hls⟩ s0 H0 C cl fp
    have hi : i < 2 := by
      have := (List.getElem?_eq_some_iff.mp hd).1
      simpa [DL.upTo] using this
    repeat fail "x"
    refine ⟨p, 60, c + 36 + 2 * i, rfl, by decide, by decide, by omega, hp5.pot, fun r1 M3 a0 a1 t3 => ?_⟩
    repeat fail "x"
    refine ⟨p, 9, c + 36 + 2 * i + 1, rfl, by decide, by decide, by omega, t3.pot, fun r2 M4 b0 b1 t4 => ?_⟩
    repeat fail "x"
    refine ⟨_, _, rfl, by omega, big_lt (B := 5) (by decide) (by omega), ((hp5.trans t3).trans t4).mono (by omega), ls ++ [Rat.divInt (1 + r1) (1 + r2)], by rw [List.map_append]; rfl, fun l hl => ?_⟩
    rcases List.mem_append.mp hl with z | z
    · exact hls l z
    · cases List.mem_singleton.mp z
      exact ⟨divInt_pos (by omega) (by omega), Bz.div (by omega) (by omega) (by omega)⟩
  rintro acc M5 hl2 ⟨T1, ls, rfl, hls⟩
  have hl2' : ls.length = 2 := by rw [List.length_map] at hl2; exact hl2
  obtain ⟨l, m, rfl⟩ : ∃ a b, ls = [a, b] := by
    match ls, hl2' with
    | [a, b], _ => exact ⟨a, b, rfl⟩
  obtain ⟨l0, bl⟩ : 0 < l ∧ Bz 28 l := hls l (by simp)
  obtain ⟨m0, bm⟩ : 0 < m ∧ Bz 28 m := hls m (by simp)
  have l0' := Rat.le_of_lt l0
  have m0' := Rat.le_of_lt m0
  refine wg_unl rfl rfl (wgs_cons (wg_name 8 sc_law_right.nd rfl (.inl rfl) (wgs_cons (wg_name 9 sc_law_right.nd rfl (.inl rfl) (wgs_nil ?_)))))
  refine wss_cons (ws_par 10 11 rfl sc_law_right.nd rfl rfl (by decide) rfl rfl rfl ?_)
  repeat fail "x"
  refine ⟨p, 9, c + 40, rfl, by decide, by decide, by omega, T1.pot, fun n M6 n0 n1 t6 => ?_⟩
  repeat fail "x"
  refine ⟨_, _, rfl, ?_⟩
  repeat fail "x"
  refine ⟨v, 0, rfl, N1.v0, Rat.le_refl, N1.bv.mono (by decide), Bz.zero.mono (by decide), ?_⟩
  refine wa_nil ⟨_, _, rfl, ?_⟩
  have hend : Φ (.bl true) M6 := h M6 ((T1.trans t6).mono (by omega))
  have NF : Nn 28 v 0 := ⟨N1.v0, Rat.le_refl, N1.bv, Bz.zero.mono (by decide)⟩
  refine wss_cons (ws_if (WW.wt (ww_or (wt_cmp ?_))))
  repeat fail "x"
  refine S_under_mk (by decide) (by decide) N1 l0' bl ?_
  refine ⟨_, rfl, ?_⟩
  repeat fail "x"
  refine S_under_mk (B := 226) (by decide) (by decide) (under_nn (by decide) N1 l0' bl) m0' (bm.mono (by decide)) ?_
  repeat fail "x"
  refine ⟨l, m, 28, rfl, by decide, bl, bm, ?_⟩
  repeat fail "x"
  refine S_under_mk (B := 57) (by decide) (by decide) (N1.mono (by decide)) (Rat.add_nonneg l0' m0') (bl.add bm) ?_
  repeat fail "x"
  refine S_eq_mk ⟨_, rfl, _, rfl, fun z => ?_, fun _ => ww_or1 (wt_cmp ?_)⟩
  · rw [eq2_true (und_und_v N1.r0 l0' m0') (und_und_o N1.r0 l0' m0')] at z; cases z
  repeat fail "x"
  refine S_under_mk (l := 0) (by decide) (by decide) N1 Rat.le_refl (Bz.zero.mono (by decide)) ?_
  repeat fail "x"
  refine S_eq_mk ⟨_, rfl, _, rfl, fun z => ?_, fun _ => wss_nil ?_⟩
  · rw [eq2_true und_zero und_zero] at z; cases z
  refine wss_cons (ws_if (WW.wt (ww_or (wt_not (wt_val ?_)))))
  repeat fail "x"
  refine ⟨v, r, l, rfl, N1, l0, bl, _, rfl, nofun, fun _ => ww_or (wt_not (wt_val ?_))⟩
  repeat fail "x"
  refine ⟨v, 0, m, rfl, NF, m0, bm, _, rfl, nofun, fun _ => ww_or1 (wt_cmp ?_)⟩
  repeat fail "x"
  refine S_under_mk (by decide) (by decide) NF l0' bl ?_
  repeat fail "x"
  refine S_eq_mk ⟨_, rfl, _, rfl, fun z => ?_, fun _ => wss_nil ?_⟩
  · rw [eq2_true (show v / (1 + 0 * l) = v by grind) (show 0 / (1 + 0 * l) = 0 by grind)] at z; cases z
  refine wss_cons (ws_if (WW.wt (ww_or (wt_cmp ?_))))
  repeat fail "x"
  have bn : n.natAbs < 2 ^ 28 := by omega
  have qn := ofInt_nonneg n0
  have nb : Bz 28 (n : Rat) := Bz.ofInt bn (by decide)
  refine ⟨v, r, n, 28, rfl, by decide, by decide, N1.v0, N1.r0, n0, bn, N1.bv, N1.br, ?_⟩
  refine ⟨_, rfl, ?_⟩
  repeat fail "x"
  refine ⟨_, r, l, 56, rfl, by decide, by decide, N1.r0, l0', N1.bv.mul nb, N1.br.mono (by decide), bl.mono (by decide), ?_⟩
  have b7 : Bz 1000 (v * (n : Rat) / (1 + r * l)) := (Bz.over (B := 113) (Rat.ne_of_gt (share_pos N1.r0 l0')) ((N1.bv.mul nb).mono (by decide)) (Bz.share (by decide) N1.br bl)).mono (by decide)
  have b8 : Bz 1000 (v / (1 + r * l)) := (Bz.over (B := 113) (Rat.ne_of_gt (share_pos N1.r0 l0')) (N1.bv.mono (by decide)) (Bz.share (by decide) N1.br bl)).mono (by decide)
  repeat fail "x"
  refine wc_reprS hr (Shw.rt (b7.mono (by decide))) (by decide) (by decide) ?_
  repeat fail "x"
  refine ⟨_, r, l, 28, rfl, by decide, by decide, N1.r0, l0', N1.bv, N1.br, bl, ?_⟩
  repeat fail "x"
  refine ⟨(n : Rat), _, 1000, rfl, by decide, nb.mono (by decide), b8, ?_⟩
  have e9 : (n : Rat) * (v / (1 + r * l)) = v * (n : Rat) / (1 + r * l) := by grind
  rw [e9]
  repeat fail "x"
  refine wc_reprS hr (Shw.rt (b7.mono (by decide))) (by decide) (by decide) ?_
  repeat fail "x"
  refine ⟨_, rfl, fun z => ?_, fun _ => ww_or1 (wt_cmp ?_)⟩
  · rw [decide_eq_true rfl] at z; cases z
  repeat fail "x"
  have pF : 0 < r + 0 := by rw [Rat.add_zero]; exact r0
  refine S_and_mk (by decide) N1 NF pF ?_
  repeat fail "x"
  refine S_eq_mk ⟨_, rfl, _, rfl, fun z => ?_, fun _ => wss_nil ?_⟩
  · rw [eq2_true (show (v * 0 + v * r) / (r + 0) = v by grind) (show r * 0 / (r + 0) = 0 by grind)] at z; cases z
  refine wss_cons (ws_if (WW.wt (ww_or (wt_not (wt_val ?_)))))
  repeat fail "x"
  refine ⟨v, r, w', s', x, t, rfl, N1, N2, N3, r0, s0, t0, _, rfl, nofun, fun _ => ww_or1 (wt_not (wt_cmp ?_))⟩
  repeat fail "x"
  refine S_ge_mk (by decide) NF N1 ⟨_, rfl, fun z => ?_, fun _ => wss_nil ?_⟩
  · rw [strong_firm N1.v0 N1.r0] at z; cases z
  refine wss_one (ws_ret (we_and ?_))
  repeat fail "x"
  refine ⟨v, r, w', s', l, n, rfl, N1, N2, l0', bl, n0, n1, _, rfl, fun _ => we_one ?_, nofun⟩
  repeat fail "x"
  exact ⟨w', s', v, r, m, n, rfl, N2, N1, m0', bm, n0, n1, hend⟩
end
local macro_rules | `(tactic| fail "c") => `(tactic| ((with_reducible refine at_call "_law_right" ?_); refine we_call (ok_law_right (by assumption)) (Rm.mono (by assumption) (by decide)) rfl (Tx.g_law_right (by assumption)).1 (Tx.g_law_right (by assumption)).2 ?_))

theorem rep_map (n : Nat) (b : Bool) : List.replicate n (D.bl b) = (List.replicate n b).map D.bl := by rw [List.map_replicate]
theorem all_rep (n : Nat) : (List.replicate n true).all id = true := by simp
theorem any_rep (n : Nat) : (List.replicate n false).any id = false := by simp
def n_law : List Str := ["_law_script", "_law_place", "_law_pot_here", "_law_lap"]
def S_law : FS := fun ds M Φ => ∃ ns : List Int, ds = [.lst (ns.map D.int)] ∧ ns.length ≤ 1000 ∧ ∀ M', Φ (.bl true) M'
section
local macro_rules | `(tactic| fail "v") => `(tactic| first
  | ((with_reducible refine at_name "_law_script" ?_); refine we_var 0 rfl (by fail "vis") rfl ?_)
  | ((with_reducible refine at_name "_law_place" ?_); refine we_var 1 rfl (by fail "vis") rfl ?_)
  | ((with_reducible refine at_name "_law_pot_here" ?_); refine we_var 2 rfl (by fail "vis") rfl ?_)
  | ((with_reducible refine at_name "_law_lap" ?_); refine we_var 3 rfl (by fail "vis") rfl ?_))
theorem ok_law (T : Tx K mg) : FnG P w K mg base CX0 (12 + 1) (He.ga K "law") (spD (Cs K) S_law) := by
  obtain ⟨fd, Fd⟩ := T.e_law
  have b := Fd.bindsN (ps := ["_law_script"]) fun _ _ _ _ _ _ us hl => match us, hl with | [_], _ => rfl
  refine fn_D [] Fd sc_law b .nil (fun _ _ => .nil) (fun ds M Φ h => by obtain ⟨ns, rfl, hl, h⟩ := h; rfl) ?_
  rintro cdv A outer s H as M Φ hr ⟨ns, rfl, hl, h⟩
  refine wss_cons (ws_forL PassesOwn.never rfl ?_)
  repeat fail "x"
  refine ⟨ns, 4, rfl, by decide, fun k hk => ⟨_, rfl, fun i ρ' M' => ∃ x y, ρ' = [some (.lst (ns.map D.int)), x, y, none], ⟨none, none, rfl⟩, ?_, ?_⟩⟩
  · rintro i d ρ' M' hd ⟨x, y, rfl⟩
    obtain ⟨j, rfl, hj⟩ : ∃ j : Nat, d = .int j ∧ j ≤ 100 := by
      unfold DL.upTo at hd
      rw [List.getElem?_map] at hd
      obtain ⟨j, hj, rfl⟩ := Option.map_eq_some_iff.mp hd
      have := List.mem_range.mp (List.mem_of_getElem? hj)
      exact ⟨j, rfl, by omega⟩
    refine wg_name 1 sc_law.nd rfl (.inl rfl) ?_
    refine wss_cons (ws_set 2 sc_law.nd rfl (.inr rfl) ?_)
    repeat fail "x"
    refine ⟨ns, j, rfl, hj, hl, fun p o sd hp pv => ?_⟩
    refine wss_one (ws_if (wt_not (wt_val ?_)))
    fail "c"
    refine wa_cons (we_lcR rfl sc_law.nd rfl (Tx.f_range (by assumption)) (blkOk_by (N := n_law) (sc := defScope s_law) (own := [("_law_lap", 3)]) (by decide +kernel)) (fun _ _ _ _ _ => pg_name (i := 3) sc_law.nd rfl (.inl rfl)) (tg_name (j := 3) (by decide)) ?_)
    refine we_int ⟨6, rfl, by decide, fun i acc M5 => Pot M5 p (100 * i) ∧ acc = List.replicate i (.bl true), ⟨⟨o, sd, 0, put_same, pv⟩, rfl⟩, ?_, ?_⟩
    · rintro i d acc M5 hd hl ⟨hp5, rfl⟩ s0 H0 C cl fp
      have hi : i < 6 := by
        have := (List.getElem?_eq_some_iff.mp hd).1
        simpa [DL.upTo] using this
      repeat fail "x"
      exact ⟨p, 100 * i, rfl, by omega, hp5, fun M6 t6 => ⟨t6.pot.mono (by omega), (List.replicate_succ' ..).symm⟩⟩
    rintro acc M5 hl ⟨_, rfl⟩
    rw [rep_map]
    refine wa_nil (wc_all rfl ⟨_, rfl, fun z => ?_, fun _ => wss_nil ⟨_, _, rfl⟩⟩)
    rw [all_rep] at z; cases z
  rintro ρ' M' ⟨x, y, rfl⟩
  refine wss_one (ws_ret (we_bl (h M')))
end
local macro_rules | `(tactic| fail "c") => `(tactic| ((with_reducible refine at_call "law" ?_); refine we_call (ok_law (by assumption)) (Rm.mono (by assumption) (by decide)) rfl (Tx.g_law (by assumption)).1 (Tx.g_law (by assumption)).2 ?_))


end Lw
namespace Lw
open PySem PySem.Spec PyProof.Rows L2 DL
abbrev hkN : PySem.W.Hook := hookN 6 fa fn
def obN (s : PySem.W.SharedT) : He.AlD := obsNG 6 fa fn (HandSHeadRun.getT s)
theorem obN_eq (s : PySem.W.SharedT) : obN s = hkN.obs s.abs := obsNG_eq (HandSHeadRun.getT_eq s)
theorem run (w : World) : HandSHeadRun.RunEq R (PySem.W.view R.prog [lawAt]) hkN obN 4000 loose w := by
  intro os
  kernel_rfl
end Lw
open PySem PySem.W PySem.Calls PyProof.Rows
theorem PySem.Challenge.cw_rangehunt_k04_whole_loads_are_sources_of_holds : PySem.Challenge.rw_rangehunt_k04_whole_loads_are_sources_of.Holds := by
  w_on; o_law
  refine HandSHeadRun.head_any (r := Lw.R) (q := view Lw.R.prog [Lw.lawAt]) (H := Lw.hkN) (ob := Lw.obN) (M := 4000) (loose := Lw.loose) (d := HandSHeadRun.topDef Lw.R.prog Lw.lawAt) (kwd := []) Lw.obN_eq
    (by kernel_rfl) (fun s => by kernel_rfl) Lw.run (by kernel_rfl) (by kernel_rfl) (by kernel_rfl) (by rfl) (by first | assumption | decide +kernel) (by decide +kernel) ⟨rfl, rfl, rfl, rfl, rfl, by decide +kernel⟩ ?hw ?hc
  case hw => w_witness2
  case hc =>
    refine DL.walk_D (l := PySem.Challenge.rw_rangehunt_k04_whole_loads_are_sources_of) (n := 63) (k := 13) (S := Lw.S_law) (Cs := Lw.Cs) rfl (by decide) (by kernel_rfl) (by kernel_rfl) (DL.room0.mono (by decide)) ?F (fun ns h => ⟨ns, rfl, by omega, fun _ => rfl⟩)
    intro w K mg h base KX G c
    exact Lw.ok_law (Lw.tx_mk KX G c)
