import PyProof.Rows.All
import Wide.All
import OpenK.AllK
import Wide.FinOn
import HandS.ForMost
import HandS.SlotsOwn
import HandS.Wide
import HandS.Exc
import HandS.NoneIn
import HandS.IsInst
import HandS.Star
import HandS.Defaults
import HandS.Conv
import HandS.RaiseMore
import KE.KStateDown
import Lean
import HandS.Head0
import HandS.Head1
import HandS.Head2
import HandS.HeadEnd
import HandS.HeadHook1
import HandS.HeadHook2
import HandS.HeadNt
import HandS.Style
import HandS.DictComp
import HandS.Zip
import HandS.TupAny
import HandS.Deep
import HandS.FStr
import HandS.Small
import KE.KEqDict
import KE.KEqNest
import KE.KExcSuper
import HandS.ExcInit
import HandS.ExcIs
import HandS.ExcField
import HandS.ExcValue
import PySem.Challenge.RW_rangehunt_k08_errors_and_what_they_keep
set_option Elab.async false
set_option linter.all false
set_option maxRecDepth 100000
set_option maxHeartbeats 4000000
/-! A layer over HandS: what a def does, told of data alone. -/
namespace DL
open PySem PySem.Spec PyProof.Rows L2

/-- data: obj c ds is an instance with slots of the class number c, never changed; dct ks ds a dict, never changed; exc c d an exception of the class number c that keeps d; ref a an address as such -/
inductive D where
  | non | bl (b : Bool) | int (i : Int) | str (x : Str) | ty (n : String)
  | tup (ds : List D) | lst (ds : List D) | obj (c : Nat) (ds : List D) | ref (a : Addr)
  | dct (ks : List Key) (ds : List D) | exc (c : Nat) (d : D)
/-- an exception that is held: of the class at C, its dict at dd -/
def ExV (C dd a : Addr) : HO := .ext fun h => ∃ (oe : Obj) (vs : Array Value), h.get? a = some oe ∧ Zc (.ref C) (some dd) oe ∧ oe.data = .fields vs

mutual
inductive Rep (Cs : Nat → Addr) (Z : Addr → Prop) (H : Hp) : V → D → Prop
  | non : Rep Cs Z H .non .non
  | bl (b : Bool) : Rep Cs Z H (.bl b) (.bl b)
  | int (i : Int) : Rep Cs Z H (.int i) (.int i)
  | str (x : Str) : Rep Cs Z H (.str x) (.str x)
  | ty (n : String) : Rep Cs Z H (.ty n) (.ty n)
  | ref (a : Addr) : Rep Cs Z H (.ref a) (.ref a)
  | tup {a : Addr} {vs : List V} {ds : List D} (hz : ¬ Z a) (h : Rd H a (.tup vs)) (r : Reps Cs Z H vs ds) : Rep Cs Z H (.ref a) (.tup ds)
  | lst {a : Addr} {vs : List V} {ds : List D} (hz : ¬ Z a) (h : Rd H a (.lst vs)) (r : Reps Cs Z H vs ds) : Rep Cs Z H (.ref a) (.lst ds)
  | obj {a dx : Addr} {c : Nat} {vs : List V} {ds : List D} (hz : ¬ Z a) (hx : ¬ Z dx) (h : H a = some (SlX.SlO a (Cs c) dx (vs.map some))) (h2 : H dx = some (.xd [])) (r : Reps Cs Z H vs ds) : Rep Cs Z H (.ref a) (.obj c ds)
  | dct {a : Addr} {vs : List V} {ks : List Key} {ds : List D} (hz : ¬ Z a) (h : Rd H a (.dK (ks.zip vs))) (hl : ks.length = vs.length) (r : Reps Cs Z H vs ds) : Rep Cs Z H (.ref a) (.dct ks ds)
  | exc {a dd : Addr} {c : Nat} {v : V} {d : D} (hz : ¬ Z a) (hx : ¬ Z dd) (h : H a = some (ExV (Cs c) dd a)) (h2 : H dd = some (.xd [("value", v)])) (r : Rep Cs Z H v d) : Rep Cs Z H (.ref a) (.exc c d)
inductive Reps (Cs : Nat → Addr) (Z : Addr → Prop) (H : Hp) : List V → List D → Prop
  | nil : Reps Cs Z H [] []
  | cons {v : V} {d : D} {vs : List V} {ds : List D} (h : Rep Cs Z H v d) (r : Reps Cs Z H vs ds) : Reps Cs Z H (v :: vs) (d :: ds)
end

/-- what is owned: it may change -/
inductive MO where
  | lst (ds : List D)
  | slt (c : Nat) (dx : Addr) (os : List (Option D))
  | aux (a : Addr)
  | dct (ks : List Key) (ds : List D)
  | ins (c : Nat) (dx : Addr) (ns : List Str) (ds : List D)
/-- the own dict of an instance that is owned -/
def MO.dxo : MO → Option Addr
  | .slt _ dx _ => some dx
  | .ins _ dx _ _ => some dx
  | _ => none

abbrev Mem := Addr → Option MO
def put (M : Mem) (a : Addr) (m : MO) : Mem := fun b => if b = a then some m else M b
def era (M : Mem) (a : Addr) : Mem := fun b => if b = a then none else M b
theorem put_same {M : Mem} {a : Addr} {m : MO} : put M a m a = some m := by unfold put; rw [if_pos rfl]
theorem put_ne {M : Mem} {a b : Addr} {m : MO} (h : b ≠ a) : put M a m b = M b := by unfold put; rw [if_neg h]
theorem era_same {M : Mem} {a : Addr} : era M a a = none := by unfold era; rw [if_pos rfl]
theorem era_ne {M : Mem} {a b : Addr} (h : b ≠ a) : era M a b = M b := by unfold era; rw [if_neg h]
theorem put_put {M : Mem} {a : Addr} {m n : MO} : put (put M a m) a n = put M a n := by
  funext b; unfold put; split <;> rfl
theorem era_put {M : Mem} {a : Addr} {m : MO} (h : M a = none) : era (put M a m) a = M := by
  funext b; unfold era put
  by_cases e : b = a
  · subst e; rw [if_pos rfl, h]
  · rw [if_neg e, if_neg e]
/-- what a datum keeps away from: what others own, what is owned -/
def Zf (F : Addr → Prop) (M : Mem) (a : Addr) : Prop := F a ∨ M a ≠ none

section
variable (Cs : Nat → Addr)
inductive RepO (Z : Addr → Prop) (H : Hp) : List (Option V) → List (Option D) → Prop
  | nil : RepO Z H [] []
  | none {vs : List (Option V)} {ds : List (Option D)} (r : RepO Z H vs ds) : RepO Z H (Option.none :: vs) (Option.none :: ds)
  | some {v : V} {d : D} {vs : List (Option V)} {ds : List (Option D)} (h : Rep Cs Z H v d) (r : RepO Z H vs ds) : RepO Z H (Option.some v :: vs) (Option.some d :: ds)
def MOk (F : Addr → Prop) (M : Mem) (H : Hp) (a : Addr) : MO → Prop
  | .lst ds => ∃ vs, H a = some (.lst vs) ∧ Reps Cs (Zf F M) H vs ds
  | .slt c dx os => dx ≠ a ∧ M dx = some (.aux a) ∧ ∃ vs, SlX.Slt H a (Cs c) dx vs ∧ RepO Cs (Zf F M) H vs os
  | .aux _ => ∃ o, H a = some o
  | .dct ks ds => ∃ vs, H a = some (.dK (ks.zip vs)) ∧ ks.length = vs.length ∧ Reps Cs (Zf F M) H vs ds
  | .ins c dx ns ds => dx ≠ a ∧ M dx = some (.aux a) ∧ ∃ vs, H a = some (.ins (Cs c) dx (ns.zip vs)) ∧ H dx = some (.own a) ∧ ns.length = vs.length ∧ Reps Cs (Zf F M) H vs ds
structure MemAt (F : Addr → Prop) (M : Mem) (H : Hp) : Prop where
  at_ : ∀ a m, M a = some m → MOk Cs F M H a m
  ff : ∀ a, F a → M a = none ∧ H a ≠ none
abbrev Env := List (Option D)
structure At (F : Addr → Prop) (M : Mem) (H : Hp) (σ : L2.St) (ρ : Env) : Prop where
  mem : MemAt Cs F M H
  len : σ.length = ρ.length
  env : ∀ (i : Nat) (d : D), ρ[i]? = some (some d) → ∃ v, σ[i]? = some (some v) ∧ Rep Cs (Zf F M) H v d
end
/-- o stays, or is a dict that is locked from now on -/
def Kp (o : HO) (x : Option HO) : Prop := x = some o ∨ ∃ od kvs, o = .dK kvs ∧ x = some (.frz od o)
theorem Kp.some {o : HO} {x : Option HO} (k : Kp o x) : x ≠ none := by
  rcases k with k | ⟨_, _, _, k⟩ <;> (rw [k]; exact fun z => nomatch z)
theorem Kp.eq {o : HO} {x : Option HO} (k : Kp o x) (h : ∀ kvs, o ≠ .dK kvs) : x = Option.some o := by
  rcases k with k | ⟨_, kvs, e, _⟩
  · exact k
  · exact absurd e (h kvs)
/-- what a step may do: all that is not owned stays; what is owned behind was owned ahead, or is new -/
structure Post (M : Mem) (H : Hp) (M' : Mem) (H' : Hp) : Prop where
  ex : ∀ a o, M a = none → H a = some o → Kp o (H' a)
  new : ∀ a, M' a ≠ none → M a ≠ none ∨ H a = none
section
variable {Cs : Nat → Addr} {F : Addr → Prop} {M M1 M2 : Mem} {H H1 H2 : Hp}
theorem MOk.aux {a dx : Addr} {n : MO} (h : MOk Cs F M H a n) (e : n.dxo = some dx) : dx ≠ a ∧ M dx = some (.aux a) := by
  cases n with
  | slt c d os => cases e; exact ⟨h.1, h.2.1⟩
  | ins c d ns ds => cases e; exact ⟨h.1, h.2.1⟩
  | lst ds => cases e
  | aux y => cases e
  | dct ks ds => cases e
theorem MOk.there {a : Addr} {n : MO} (h : MOk Cs F M H a n) : ∃ o, H a = some o := by
  cases n with
  | slt c d os =>
    obtain ⟨_, _, vs, z, _⟩ := h
    rcases z with ⟨z, _⟩ | ⟨z, _⟩ <;> exact ⟨_, z⟩
  | ins c d ns ds => obtain ⟨_, _, vs, z, _⟩ := h; exact ⟨_, z⟩
  | lst ds => obtain ⟨vs, z, _⟩ := h; exact ⟨_, z⟩
  | aux y => exact h
  | dct ks ds => obtain ⟨vs, z, _⟩ := h; exact ⟨_, z⟩
theorem Post.refl : Post M H M H := ⟨fun _ _ _ h => .inl h, fun _ h => .inl h⟩
theorem Post.trans (a : Post M H M1 H1) (b : Post M1 H1 M2 H2) : Post M H M2 H2 where
  ex := fun x o hm h => by
    have h1 : M1 x = none := by
      cases e : M1 x with
      | none => rfl
      | some m =>
        rcases a.new x (by rw [e]; exact fun z => nomatch z) with z | z
        · exact absurd hm z
        · rw [z] at h; cases h
    rcases a.ex x o hm h with k | ⟨od, kvs, e, k⟩
    · exact b.ex x o h1 k
    · exact .inr ⟨od, kvs, e, (b.ex x _ h1 k).eq fun _ z => nomatch z⟩
  new := fun x hm => by
    rcases b.new x hm with z | z
    · exact a.new x z
    · by_cases hx : M x = none
      · refine .inr ?_
        cases e : H x with
        | none => rfl
        | some o => exact absurd z (a.ex x o hx e).some
      · exact .inl hx
theorem Post.keep (p : Post M H M1 H1) {x : Addr} {o : HO} (hm : M x = none) (h : H x = some o) (n : ∀ kvs, o ≠ .dK kvs) : H1 x = some o := (p.ex x o hm h).eq n
/-- less is owned -/
theorem Post.sub (h : ∀ a, M1 a ≠ none → M a ≠ none) : Post M H M1 H := ⟨fun _ _ _ h => .inl h, fun a q => .inl (h a q)⟩
theorem rd_ex {a : Addr} {u : HO} (p : Post M H M1 H1) (hz : ¬ Zf F M a) (h : Rd H a u) : Rd H1 a u ∧ ¬ Zf F M1 a := by
  have hm : M a = none := Classical.byContradiction fun q => hz (.inr q)
  have hs : H a ≠ none := by
    rcases h with h | ⟨o, h⟩ <;> (rw [h]; exact fun z => nomatch z)
  refine ⟨?_, fun q => ?_⟩
  · rcases h with h | ⟨o, h⟩
    · rcases p.ex a _ hm h with k | ⟨od, kvs, e, k⟩
      · exact .inl k
      · exact .inr ⟨od, k⟩
    · exact .inr ⟨o, p.keep hm h fun _ z => nomatch z⟩
  · rcases q with q | q
    · exact hz (.inl q)
    · rcases p.new a q with z | z
      · exact hz (.inr z)
      · exact hs z
mutual
theorem Rep.go (p : Post M H M1 H1) : ∀ {v : V} {d : D}, Rep Cs (Zf F M) H v d → Rep Cs (Zf F M1) H1 v d
  | _, _, .non => .non
  | _, _, .bl b => .bl b
  | _, _, .int i => .int i
  | _, _, .str x => .str x
  | _, _, .ty n => .ty n
  | _, _, .ref a => .ref a
  | _, _, .tup hz h r => .tup (rd_ex p hz h).2 (rd_ex p hz h).1 (Reps.go p r)
  | _, _, .lst hz h r => .lst (rd_ex p hz h).2 (rd_ex p hz h).1 (Reps.go p r)
  | _, _, .obj hz hx h h2 r => .obj (rd_ex p hz (.inl h)).2 (rd_ex p hx (.inl h2)).2 (p.keep (Classical.byContradiction fun q => hz (.inr q)) h fun _ z => nomatch z) (p.keep (Classical.byContradiction fun q => hx (.inr q)) h2 fun _ z => nomatch z) (Reps.go p r)
  | _, _, .dct hz h hl r => .dct (rd_ex p hz h).2 (rd_ex p hz h).1 hl (Reps.go p r)
  | _, _, .exc hz hx h h2 r => .exc (rd_ex p hz (.inl h)).2 (rd_ex p hx (.inl h2)).2 (p.keep (Classical.byContradiction fun q => hz (.inr q)) h fun _ z => nomatch z) (p.keep (Classical.byContradiction fun q => hx (.inr q)) h2 fun _ z => nomatch z) (Rep.go p r)
theorem Reps.go (p : Post M H M1 H1) : ∀ {vs : List V} {ds : List D}, Reps Cs (Zf F M) H vs ds → Reps Cs (Zf F M1) H1 vs ds
  | _, _, .nil => .nil
  | _, _, .cons h r => .cons (Rep.go p h) (Reps.go p r)
end
theorem RepO.go (p : Post M H M1 H1) : ∀ {vs : List (Option V)} {ds : List (Option D)}, RepO Cs (Zf F M) H vs ds → RepO Cs (Zf F M1) H1 vs ds
  | _, _, .nil => .nil
  | _, _, .none r => .none (RepO.go p r)
  | _, _, .some h r => .some (h.go p) (RepO.go p r)
theorem At.go {σ : L2.St} {ρ : Env} (A : At Cs F M H σ ρ) (p : Post M H M1 H1) (m : MemAt Cs F M1 H1) : At Cs F M1 H1 σ ρ :=
  ⟨m, A.len, fun i d e => let ⟨v, h1, h2⟩ := A.env i d e; ⟨v, h1, h2.go p⟩⟩
theorem Reps.length : ∀ {Z : Addr → Prop} {vs : List V} {ds : List D}, Reps Cs Z H vs ds → vs.length = ds.length
  | _, _, _, .nil => rfl
  | _, _, _, .cons _ r => congrArg Nat.succ (Reps.length r)
theorem Reps.get : ∀ {Z : Addr → Prop} {vs : List V} {ds : List D} {i : Nat} {d : D}, Reps Cs Z H vs ds → ds[i]? = some d → ∃ v, vs[i]? = some v ∧ Rep Cs Z H v d
  | _, _, _, _, _, .nil, e => by simp at e
  | _, _, _, 0, _, .cons h _, e => by simp at e; subst e; exact ⟨_, rfl, h⟩
  | _, _, _, i + 1, d, .cons _ r, e => by
    obtain ⟨v, h1, h2⟩ := Reps.get (i := i) (d := d) r (by simpa using e)
    exact ⟨v, by simpa using h1, h2⟩
theorem Reps.getV : ∀ {Z : Addr → Prop} {vs : List V} {ds : List D} {i : Nat} {v : V}, Reps Cs Z H vs ds → vs[i]? = some v → ∃ d, ds[i]? = some d ∧ Rep Cs Z H v d
  | _, _, _, _, _, .nil, e => by simp at e
  | _, _, _, 0, _, .cons h _, e => by simp at e; subst e; exact ⟨_, rfl, h⟩
  | _, _, _, i + 1, v, .cons _ r, e => by
    obtain ⟨d, h1, h2⟩ := Reps.getV (i := i) (v := v) r (by simpa using e)
    exact ⟨d, by simpa using h1, h2⟩
theorem Reps.append : ∀ {Z : Addr → Prop} {vs ws : List V} {ds es : List D}, Reps Cs Z H vs ds → Reps Cs Z H ws es → Reps Cs Z H (vs ++ ws) (ds ++ es)
  | _, _, _, _, _, .nil, q => q
  | _, _, _, _, _, .cons h r, q => .cons h (Reps.append r q)
theorem Reps.set : ∀ {Z : Addr → Prop} {vs : List V} {ds : List D} {v : V} {d : D} (i : Nat), Reps Cs Z H vs ds → Rep Cs Z H v d → Reps Cs Z H (vs.set i v) (ds.set i d)
  | _, _, _, _, _, _, .nil, _ => .nil
  | _, _, _, _, _, 0, .cons _ r, q => .cons q r
  | _, _, _, _, _, i + 1, .cons h r, q => .cons h (Reps.set i r q)
/-- nothing but a changes -/
theorem MemAt.go (m : MemAt Cs F M H) (p : Post M H M1 H1) (k : ∀ a n, M1 a = some n → (M a = some n ∧ (∀ o, H a = some o → H1 a = some o) ∧ ∀ dx, n.dxo = some dx → (∀ o, H dx = some o → H1 dx = some o) ∧ M1 dx = some (.aux a)) ∨ MOk Cs F M1 H1 a n) : MemAt Cs F M1 H1 := by
  refine ⟨fun a n e => ?_, fun a h => ?_⟩
  rotate_left
  · obtain ⟨z1, z2⟩ := m.ff a h
    refine ⟨Classical.byContradiction fun q => ?_, fun q => ?_⟩
    · rcases p.new a q with z | z
      · exact z z1
      · exact z2 z
    · obtain ⟨o, ho⟩ := Option.ne_none_iff_exists'.mp z2
      exact (p.ex a o z1 ho).some q
  rcases k a n e with ⟨h1, h2, h3⟩ | h
  · have q := m.at_ a n h1
    cases n with
    | lst ds =>
      obtain ⟨vs, e1, r⟩ := q
      exact ⟨vs, h2 _ e1, r.go p⟩
    | slt c dx os =>
      obtain ⟨hne, hz, vs, hs, r⟩ := q
      obtain ⟨h4, h5⟩ := h3 dx rfl
      refine ⟨hne, h5, vs, ?_, r.go p⟩
      rcases hs with ⟨h6, h7⟩ | ⟨h6, h7⟩
      · exact .inl ⟨h2 _ h6, h7⟩
      · exact .inr ⟨h2 _ h6, h4 _ h7⟩
    | aux y =>
      obtain ⟨o, e1⟩ := q
      exact ⟨o, h2 _ e1⟩
    | dct ks ds =>
      obtain ⟨vs, e1, hl, r⟩ := q
      exact ⟨vs, h2 _ e1, hl, r.go p⟩
    | ins c dx ns ds =>
      obtain ⟨hne, hz, vs, e1, e2, hl, r⟩ := q
      obtain ⟨h4, h5⟩ := h3 dx rfl
      exact ⟨hne, h5, vs, h2 _ e1, h4 _ e2, hl, r.go p⟩
  · exact h
end
end DL
namespace DL
open PySem PySem.Spec PyProof.Rows L2

/-! ### what a piece of syntax does, as a reading of itself -/
def semE (X : Cx) (e : Expr) : TE := fun σ H Q => ∀ pins s, Inv X pins σ H s → wpAny (model X.prog X.w) X.A (eval e X.env) (EP X pins σ Q) X.xe s
def semT (X : Cx) (e : Expr) : TT := fun σ H Q => ∀ pins s, Inv X pins σ H s → wpAny (model X.prog X.w) X.A (isTrue e X.env (eval e X.env)) (TP X pins σ Q) X.xe s
def semW (X : Cx) (e : Expr) : TT := fun σ H Q => ∀ whole pins s, Inv X pins σ H s → wpAny (model X.prog X.w) X.A (isTrue e X.env whole) (TP X pins σ Q) X.xe s
def semA (X : Cx) (es : List Expr) : TA := fun σ H Q => ∀ pos pins s, Inv X pins σ H s → wpAny (model X.prog X.w) X.A (spliced (backTo pos (starEach es X.env))) (AP X pins σ Q) X.xe s
def semS (X : Cx) (st : Stmt) : TS := fun D σ H => ∀ pins s, Inv X pins σ H s → wpAny (model X.prog X.w) X.A (exec st X.env) (SP X pins D) X.xe s
def semSs (X : Cx) (sts : List Stmt) : TS := fun D σ H => ∀ pins s, Inv X pins σ H s → wpAny (model X.prog X.w) X.A (execs sts X.env) (SP X pins D) X.xe s
def semO (X : Cx) (f : Value → Value → Sem Value) : R2 := fun x y H Q => ∀ pins s σ v u, Inv X pins σ H s → RelV x v → RelV y u → wpAny (model X.prog X.w) X.A (f v u) (EP X pins σ Q) X.xe s
def semU (X : Cx) (f : Value → Sem Value) : V → Hp → VK → Prop := fun x H Q => ∀ pins s σ v, Inv X pins σ H s → RelV x v → wpAny (model X.prog X.w) X.A (f v) (EP X pins σ Q) X.xe s
def semC (X : Cx) (f : Value) : List V → Hp → VK → Prop := fun xs H Q => ∀ pins s σ us, Inv X pins σ H s → Vals xs us → wpAny (model X.prog X.w) X.A (call f us) (EP X pins σ Q) X.xe s
def semIx (X : Cx) : R2 := fun x y H Q => ∀ value slice pins s σ v u, Inv X pins σ H s → RelV x v → RelV y u → subscripted slice false v u = operate [v, u] (getItem v u) → wpAny (model X.prog X.w) X.A (subscriptTail value slice v u) (EP X pins σ Q) X.xe s
section
variable {X : Cx} {e : Expr} {es : List Expr} {st : Stmt} {sts : List Stmt}
theorem pe_sem : PE X e (semE X e) := ⟨fun pins s _ _ _ I h => h pins s I⟩
theorem pt_sem : PT X e (semT X e) := ⟨fun pins s _ _ _ I h => h pins s I⟩
theorem pw_sem : PW X e (semW X e) := ⟨fun w pins s _ _ _ I h => h w pins s I⟩
theorem pa_sem : PA X es (semA X es) := ⟨fun pos pins s _ _ _ I h => h pos pins s I⟩
theorem ps_sem : PS X st (semS X st) := ⟨fun pins s _ _ _ I h => h pins s I⟩
theorem pss_sem : PSs X sts (semSs X sts) := ⟨fun pins s _ _ _ I h => h pins s I⟩
theorem op_sem {f : Value → Value → Sem Value} : OpR X f (semO X f) := fun pins s σ _ _ _ v u _ I rx ry h => h pins s σ v u I rx ry
theorem un_sem {f : Value → Sem Value} : UnR X f (semU X f) := fun pins s σ _ _ v _ I rx h => h pins s σ v I rx
theorem call_sem {f : Value} : CallR X f (semC X f) := fun pins s σ _ _ us _ I r h => h pins s σ us I r
theorem ix_sem : IxR X (semIx X) := fun value slice pins s σ _ _ _ v u _ I rx ry h hs => h value slice pins s σ v u I rx ry hs
variable {σ : L2.St} {H : Hp}
theorem _root_.L2.PE.sem {t : TE} {Q : VK} (p : PE X e t) (h : t σ H Q) : semE X e σ H Q := fun pins s I => p.run pins s σ H Q I h
theorem _root_.L2.PT.sem {t : TT} {Q : Bool → Hp → Prop} (p : PT X e t) (h : t σ H Q) : semT X e σ H Q := fun pins s I => p.run pins s σ H Q I h
theorem _root_.L2.PW.sem {t : TT} {Q : Bool → Hp → Prop} (p : PW X e t) (h : t σ H Q) : semW X e σ H Q := fun w pins s I => p.run w pins s σ H Q I h
theorem _root_.L2.PA.sem {t : TA} {Q : List V → Hp → Prop} (p : PA X es t) (h : t σ H Q) : semA X es σ H Q := fun pos pins s I => p.run pos pins s σ H Q I h
theorem _root_.L2.PS.sem {t : TS} {D : Ends} (p : PS X st t) (h : t D σ H) : semS X st D σ H := fun pins s I => p.run pins s σ H D I h
theorem _root_.L2.PSs.sem {t : TS} {D : Ends} (p : PSs X sts t) (h : t D σ H) : semSs X sts D σ H := fun pins s I => p.run pins s σ H D I h
theorem _root_.L2.OpR.sem {f : Value → Value → Sem Value} {r : R2} {x y : V} {Q : VK} (p : OpR X f r) (h : r x y H Q) : semO X f x y H Q := fun pins s σ v u I rx ry => p pins s σ H x y v u Q I rx ry h
theorem _root_.L2.UnR.sem {f : Value → Sem Value} {r : V → Hp → VK → Prop} {x : V} {Q : VK} (p : UnR X f r) (h : r x H Q) : semU X f x H Q := fun pins s σ v I rx => p pins s σ H x v Q I rx h
theorem _root_.L2.CallR.sem {f : Value} {r : List V → Hp → VK → Prop} {xs : List V} {Q : VK} (p : CallR X f r) (h : r xs H Q) : semC X f xs H Q := fun pins s σ us I rx => p pins s σ H xs us Q I rx h
theorem _root_.L2.IxR.sem {r : R2} {x y : V} {Q : VK} (p : IxR X r) (h : r x y H Q) : semIx X x y H Q := fun value slice pins s σ v u I rx ry hs => p value slice pins s σ H x y v u Q I rx ry h hs
end

/-! ### the judgements -/
theorem sz_of {n : Nat} (h : n ≤ 100000) : n ≤ sizeLine := Nat.le_trans h (by decide)
section
variable (Cs : Nat → Addr)
def Res (F : Addr → Prop) (M : Mem) (H : Hp) (Φ : D → Mem → Prop) (Q : VK) : Prop := ∀ v d H' M', Post M H M' H' → MemAt Cs F M' H' → Rep Cs (Zf F M') H' v d → Φ d M' → Q v H'
def ResT (F : Addr → Prop) (M : Mem) (H : Hp) (Ψ : Bool → Mem → Prop) (Q : Bool → Hp → Prop) : Prop := ∀ b H' M', Post M H M' H' → MemAt Cs F M' H' → Ψ b M' → Q b H'
def ResA (F : Addr → Prop) (M : Mem) (H : Hp) (Φ : List D → Mem → Prop) (Q : List V → Hp → Prop) : Prop := ∀ vs ds H' M', Post M H M' H' → MemAt Cs F M' H' → Reps Cs (Zf F M') H' vs ds → Φ ds M' → Q vs H'
structure DE where
  nx : Env → Mem → Prop
  rt : D → Mem → Prop
  bk : Env → Mem → Prop := fun _ _ => False
  ct : Env → Mem → Prop := fun _ _ => False
structure EndsOk (F : Addr → Prop) (M : Mem) (H : Hp) (E : DE) (Dn : Ends) : Prop where
  nx : ∀ σ' ρ' H' M', Post M H M' H' → At Cs F M' H' σ' ρ' → E.nx ρ' M' → Dn.nx σ' H'
  rt : Res Cs F M H E.rt Dn.rt
  bk : ∀ σ' ρ' H' M', Post M H M' H' → At Cs F M' H' σ' ρ' → E.bk ρ' M' → Dn.bk σ' H'
  ct : ∀ σ' ρ' H' M', Post M H M' H' → At Cs F M' H' σ' ρ' → E.ct ρ' M' → Dn.ct σ' H'
structure WE (X : Cx) (e : Expr) (ρ : Env) (M : Mem) (Φ : D → Mem → Prop) : Prop where
  run : ∀ (F : Addr → Prop) σ H, At Cs F M H σ ρ → ∀ Q, Res Cs F M H Φ Q → semE X e σ H Q
structure WT (X : Cx) (e : Expr) (ρ : Env) (M : Mem) (Ψ : Bool → Mem → Prop) : Prop where
  run : ∀ (F : Addr → Prop) σ H, At Cs F M H σ ρ → ∀ Q, ResT Cs F M H Ψ Q → semT X e σ H Q
structure WW (X : Cx) (e : Expr) (ρ : Env) (M : Mem) (Ψ : Bool → Mem → Prop) : Prop where
  run : ∀ (F : Addr → Prop) σ H, At Cs F M H σ ρ → ∀ Q, ResT Cs F M H Ψ Q → semW X e σ H Q
structure WA (X : Cx) (es : List Expr) (ρ : Env) (M : Mem) (Φ : List D → Mem → Prop) : Prop where
  run : ∀ (F : Addr → Prop) σ H, At Cs F M H σ ρ → ∀ Q, ResA Cs F M H Φ Q → semA X es σ H Q
structure WS (X : Cx) (st : Stmt) (ρ : Env) (M : Mem) (E : DE) : Prop where
  run : ∀ (F : Addr → Prop) σ H, At Cs F M H σ ρ → ∀ Dn, EndsOk Cs F M H E Dn → semS X st Dn σ H
structure WSs (X : Cx) (sts : List Stmt) (ρ : Env) (M : Mem) (E : DE) : Prop where
  run : ∀ (F : Addr → Prop) σ H, At Cs F M H σ ρ → ∀ Dn, EndsOk Cs F M H E Dn → semSs X sts Dn σ H
structure WO (X : Cx) (f : Value → Value → Sem Value) (x y : D) (M : Mem) (Φ : D → Mem → Prop) : Prop where
  run : ∀ (F : Addr → Prop) H vx vy, MemAt Cs F M H → Rep Cs (Zf F M) H vx x → Rep Cs (Zf F M) H vy y → ∀ Q, Res Cs F M H Φ Q → semO X f vx vy H Q
structure WU (X : Cx) (f : Value → Sem Value) (x : D) (M : Mem) (Φ : D → Mem → Prop) : Prop where
  run : ∀ (F : Addr → Prop) H vx, MemAt Cs F M H → Rep Cs (Zf F M) H vx x → ∀ Q, Res Cs F M H Φ Q → semU X f vx H Q
structure WC (X : Cx) (f : Value) (xs : List D) (M : Mem) (Φ : D → Mem → Prop) : Prop where
  run : ∀ (F : Addr → Prop) H vs, MemAt Cs F M H → Reps Cs (Zf F M) H vs xs → ∀ Q, Res Cs F M H Φ Q → semC X f vs H Q
structure WIx (X : Cx) (x y : D) (M : Mem) (Φ : D → Mem → Prop) : Prop where
  run : ∀ (F : Addr → Prop) H vx vy, MemAt Cs F M H → Rep Cs (Zf F M) H vx x → Rep Cs (Zf F M) H vy y → ∀ Q, Res Cs F M H Φ Q → semIx X vx vy H Q
/-- a def told of data -/
abbrev FS := List D → Mem → (D → Mem → Prop) → Prop
def spD (S : FS) : Sp := fun vs H Q _ => ∃ F ds M Φ, MemAt Cs F M H ∧ Reps Cs (Zf F M) H vs ds ∧ S ds M Φ ∧ Res Cs F M H Φ Q
end
section
variable {Cs : Nat → Addr} {F : Addr → Prop} {X : Cx} {ρ : Env} {M : Mem} {a b c e : Expr} {es : List Expr} {pos : Pos} {Φ : D → Mem → Prop} {Ψ : Bool → Mem → Prop}
theorem Res.here {H : Hp} {Q : VK} (k : Res Cs F M H Φ Q) {v : V} {d : D} (m : MemAt Cs F M H) (r : Rep Cs (Zf F M) H v d) (h : Φ d M) : Q v H := k v d H M .refl m r h
theorem Res.from {M1 : Mem} {H H1 : Hp} {Q : VK} (k : Res Cs F M H Φ Q) (p : Post M H M1 H1) : Res Cs F M1 H1 Φ Q := fun v d H' M' p' m r h => k v d H' M' (p.trans p') m r h
theorem ResT.from {M1 : Mem} {H H1 : Hp} {Q : Bool → Hp → Prop} (k : ResT Cs F M H Ψ Q) (p : Post M H M1 H1) : ResT Cs F M1 H1 Ψ Q := fun b H' M' p' m h => k b H' M' (p.trans p') m h
theorem ResA.from {M1 : Mem} {H H1 : Hp} {Θ : List D → Mem → Prop} {Q : List V → Hp → Prop} (k : ResA Cs F M H Θ Q) (p : Post M H M1 H1) : ResA Cs F M1 H1 Θ Q := fun vs ds H' M' p' m r h => k vs ds H' M' (p.trans p') m r h
theorem EndsOk.from {M1 : Mem} {H H1 : Hp} {E : DE} {Dn : Ends} (k : EndsOk Cs F M H E Dn) (p : Post M H M1 H1) : EndsOk Cs F M1 H1 E Dn :=
  ⟨fun σ' ρ' H' M' q => k.nx σ' ρ' H' M' (p.trans q), k.rt.from p, fun σ' ρ' H' M' q => k.bk σ' ρ' H' M' (p.trans q), fun σ' ρ' H' M' q => k.ct σ' ρ' H' M' (p.trans q)⟩

/-! ### names, constants -/
theorem we_var {x : Str} (i : Nat) {d : D} (hN : X.N[i]? = some x) (hv : Vis X.env.scope x) (he : ρ[i]? = some (some d)) (h : Φ d M) (hd : (x == ("__debug__" : Str)) = false := by decide) (hcd : (x == ("__classdict__" : Str)) = false := by decide) : WE Cs X (.Name x pos) ρ M Φ :=
  .mk fun F σ H A Q k => (pe_var hN hv hd hcd).sem (by
    obtain ⟨v, h1, h2⟩ := A.env i d he
    exact ⟨v, h1, k.here A.mem h2 h⟩)
theorem we_int {i : Int} {j : Nat} (h : Φ (.int i) M) : WE Cs X (.Constant (.int i) j pos) ρ M Φ := .mk fun F σ H A Q k => pe_int.sem (k.here A.mem (.int i) h)
theorem we_bl {b : Bool} {j : Nat} (h : Φ (.bl b) M) : WE Cs X (.Constant (.bool b) j pos) ρ M Φ := .mk fun F σ H A Q k => pe_bl.sem (k.here A.mem (.bl b) h)
theorem we_non {j : Nat} (h : Φ .non M) : WE Cs X (.Constant .none j pos) ρ M Φ := .mk fun F σ H A Q k => pe_non.sem (k.here A.mem .non h)
theorem we_str {x : String} {j : Nat} (h : Φ (.str x) M) : WE Cs X (.Constant (.str x) j pos) ρ M Φ := .mk fun F σ H A Q k => pe_str.sem (k.here A.mem (.str _) h)
/-- a module's int -/
theorem we_gint {x : Str} {i : Int} {t : Tok} (hg : Gl X x) (hm : X.mg x = some (.int i t)) (h : Φ (.int i) M) (hd : (x == ("__debug__" : Str)) = false := by decide) : WE Cs X (.Name x pos) ρ M Φ :=
  .mk fun F σ H A Q k => (pe_glob (v := .int i) hg hm ⟨t, rfl⟩ hd).sem (k.here A.mem (.int i) h)
theorem we_gref {x : Str} {p : Addr} (hg : Gl X x) (hm : X.mg x = some (.ref p)) (h : Φ (.ref p) M) (hd : (x == ("__debug__" : Str)) = false := by decide) : WE Cs X (.Name x pos) ρ M Φ :=
  .mk fun F σ H A Q k => (pe_glob (v := .ref p) hg hm rfl hd).sem (k.here A.mem (.ref p) h)
theorem we_gty {x : Str} {n : String} (hg : Gl X x) (hm : X.mg x = none) (hv : bootBuiltins x = some (.type n)) (h : Φ (.ty n) M) (hn : x ≠ "__name__" := by decide) (hd : (x == ("__debug__" : Str)) = false := by decide) : WE Cs X (.Name x pos) ρ M Φ :=
  .mk fun F σ H A Q k => (pe_bltn (v := .ty n) hg hm hv rfl hn hd).sem (k.here A.mem (.ty n) h)

/-! ### operators -/
theorem two {t : TE} {Q : VK} {σ : L2.St} {H : Hp} {r : R2} (A : At Cs F M H σ ρ) (k : Res Cs F M H Φ Q) (W : D → D → Mem → (D → Mem → Prop) → Prop)
    (hW : ∀ x y M2 H2 vx vy, W x y M2 Φ → MemAt Cs F M2 H2 → Rep Cs (Zf F M2) H2 vx x → Rep Cs (Zf F M2) H2 vy y → Res Cs F M2 H2 Φ Q → r vx vy H2 Q)
    (h : WE Cs X a ρ M fun x M1 => WE Cs X b ρ M1 fun y M2 => W x y M2 Φ) : tOp r (semE X a) (semE X b) σ H Q :=
  h.run _ σ H A _ fun vx x H1 M1 p1 m1 r1 h1 => h1.run _ σ H1 (A.go p1 m1) _ fun vy y H2 M2 p2 m2 r2 h2 => hW x y M2 H2 vx vy h2 m2 (r1.go p2) r2 (k.from (p1.trans p2))
theorem we_bin {op : Operator} (h : WE Cs X a ρ M fun x M1 => WE Cs X b ρ M1 fun y M2 => WO Cs X (binaryOp op) x y M2 Φ) : WE Cs X (.BinOp a op b pos) ρ M Φ :=
  .mk fun F σ H A Q k => (pe_op op_sem pe_sem pe_sem).sem (two (t := semE X a) A k _ (fun x y M2 H2 vx vy w m rx ry k2 => w.run _ H2 vx vy m rx ry Q k2) h)
theorem we_cmp {op : CmpOp} (h : WE Cs X a ρ M fun x M1 => WE Cs X b ρ M1 fun y M2 => WO Cs X (compareOp op) x y M2 Φ) (hm : behindInMarks op b = false := by first | exact nomark _ | rfl) : WE Cs X (.Compare a [op] [b] pos) ρ M Φ :=
  .mk fun F σ H A Q k => (pe_cmpR op_sem pe_sem pe_sem hm).sem (two (t := semE X a) A k _ (fun x y M2 H2 vx vy w m rx ry k2 => w.run _ H2 vx vy m rx ry Q k2) h)
theorem we_ix (h : WE Cs X a ρ M fun x M1 => WE Cs X b ρ M1 fun y M2 => WIx Cs X x y M2 Φ) (hs : PlainIx b := by intro _ _; rfl) : WE Cs X (.Subscript a b pos) ρ M Φ :=
  .mk fun F σ H A Q k => (pe_ix ix_sem pe_sem pe_sem hs).sem (two (t := semE X a) A k _ (fun x y M2 H2 vx vy w m rx ry k2 => w.run _ H2 vx vy m rx ry Q k2) h)
theorem we_un {op : UnaryOp} (h : WE Cs X a ρ M fun x M1 => WU Cs X (unaryOp op) x M1 Φ) : WE Cs X (.UnaryOp op a pos) ρ M Φ :=
  .mk fun F σ H A Q k => (pe_un un_sem pe_sem).sem (h.run _ σ H A _ fun vx x H1 M1 p1 m1 r1 h1 => h1.run _ H1 vx m1 r1 Q (k.from p1))
def bT (Ψ : Bool → Mem → Prop) : D → Mem → Prop := fun d M => ∃ b, d = .bl b ∧ Ψ b M
theorem ResT.bT {H : Hp} {Q : Bool → Hp → Prop} (k : ResT Cs F M H Ψ Q) : Res Cs F M H (DL.bT Ψ) fun x H' => ∃ c, x = .bl c ∧ Q c H' := fun v d H' M' p m r h => by
  obtain ⟨b, rfl, h⟩ := h
  cases r
  exact ⟨b, rfl, k b H' M' p m h⟩
theorem wt_cmp {op : CmpOp} (h : WE Cs X a ρ M fun x M1 => WE Cs X b ρ M1 fun y M2 => WO Cs X (compareOp op) x y M2 (bT Ψ)) (hm : behindInMarks op b = false := by first | exact nomark _ | rfl) : WT Cs X (.Compare a [op] [b] pos) ρ M Ψ :=
  .mk fun F σ H A Q k => (pt_cmpR op_sem pe_sem pe_sem hm).sem (two (t := semE X a) A k.bT _ (fun x y M2 H2 vx vy w m rx ry k2 => w.run _ H2 vx vy m rx ry _ k2) h)
theorem wt_val (h : WE Cs X e ρ M (bT Ψ)) (he : ∀ whole, isTrue e X.env whole = (do let v ← whole; standAt e.pos; holding [v] (truthy v)) := by intro _; rfl) : WT Cs X e ρ M Ψ :=
  .mk fun F σ H A Q k => (pt_val pe_sem he).sem (h.run _ σ H A _ k.bT)
theorem wt_not (h : WT Cs X a ρ M fun b M1 => Ψ (!b) M1) : WT Cs X (.UnaryOp .Not a pos) ρ M Ψ :=
  .mk fun F σ H A Q k => (pt_not pt_sem).sem (h.run _ σ H A _ fun b H1 M1 p m q => k (!b) H1 M1 p m q)
theorem WW.wt (h : WW Cs X e ρ M Ψ) : WT Cs X e ρ M Ψ := .mk fun F σ H A Q k pins s I => h.run _ σ H A Q k _ pins s I
theorem ww_and1 (h : WT Cs X a ρ M Ψ) : WW Cs X (.BoolOp .And [a] pos) ρ M Ψ := .mk fun F σ H A Q k => (pw_and1 pt_sem).sem (h.run _ σ H A Q k)
theorem ww_or1 (h : WT Cs X a ρ M Ψ) : WW Cs X (.BoolOp .Or [a] pos) ρ M Ψ := .mk fun F σ H A Q k => (pw_or1 pt_sem).sem (h.run _ σ H A Q k)
theorem ww_and {rest : List Expr} (h : WT Cs X a ρ M fun c M1 => (c = true → WW Cs X (.BoolOp .And (b :: rest) pos) ρ M1 Ψ) ∧ (c = false → Ψ false M1)) : WW Cs X (.BoolOp .And (a :: b :: rest) pos) ρ M Ψ :=
  .mk fun F σ H A Q k => (pw_and pt_sem pw_sem).sem (h.run _ σ H A _ fun c H1 M1 p m q => by
    cases c with
    | true => rw [if_pos rfl]; exact (q.1 rfl).run _ σ H1 (A.go p m) Q (k.from p)
    | false => rw [if_neg Bool.false_ne_true]; exact k false H1 M1 p m (q.2 rfl))
theorem ww_or {rest : List Expr} (h : WT Cs X a ρ M fun c M1 => (c = true → Ψ true M1) ∧ (c = false → WW Cs X (.BoolOp .Or (b :: rest) pos) ρ M1 Ψ)) : WW Cs X (.BoolOp .Or (a :: b :: rest) pos) ρ M Ψ :=
  .mk fun F σ H A Q k => (pw_or pt_sem pw_sem).sem (h.run _ σ H A _ fun c H1 M1 p m q => by
    cases c with
    | true => rw [if_pos rfl]; exact k true H1 M1 p m (q.1 rfl)
    | false => rw [if_neg Bool.false_ne_true]; exact (q.2 rfl).run _ σ H1 (A.go p m) Q (k.from p))
theorem we_one {op : BoolOp} (h : WE Cs X a ρ M Φ) : WE Cs X (.BoolOp op [a] pos) ρ M Φ := .mk fun F σ H A Q k => (pe_one pe_sem).sem (h.run _ σ H A Q k)
theorem we_and {rest : List Expr} (h : WE Cs X a ρ M fun d M1 => ∃ c, d = .bl c ∧ (c = true → WE Cs X (.BoolOp .And (b :: rest) pos) ρ M1 Φ) ∧ (c = false → Φ (.bl false) M1)) : WE Cs X (.BoolOp .And (a :: b :: rest) pos) ρ M Φ :=
  .mk fun F σ H A Q k => (pe_and pe_sem pe_sem).sem (h.run _ σ H A _ fun v d H1 M1 p m r q => by
    obtain ⟨c, rfl, q1, q2⟩ := q
    cases r
    refine ⟨c, rfl, ?_⟩
    cases c with
    | true => rw [if_pos rfl]; exact (q1 rfl).run _ σ H1 (A.go p m) Q (k.from p)
    | false => rw [if_neg Bool.false_ne_true]; exact k _ _ H1 M1 p m (.bl false) (q2 rfl))
theorem we_or {rest : List Expr} (h : WE Cs X a ρ M fun d M1 => ∃ c, d = .bl c ∧ (c = true → Φ (.bl true) M1) ∧ (c = false → WE Cs X (.BoolOp .Or (b :: rest) pos) ρ M1 Φ)) : WE Cs X (.BoolOp .Or (a :: b :: rest) pos) ρ M Φ :=
  .mk fun F σ H A Q k => (pe_or pe_sem pe_sem).sem (h.run _ σ H A _ fun v d H1 M1 p m r q => by
    obtain ⟨c, rfl, q1, q2⟩ := q
    cases r
    refine ⟨c, rfl, ?_⟩
    cases c with
    | true => rw [if_pos rfl]; exact k _ _ H1 M1 p m (.bl true) (q1 rfl)
    | false => rw [if_neg Bool.false_ne_true]; exact (q2 rfl).run _ σ H1 (A.go p m) Q (k.from p))
theorem we_not (h : WE Cs X a ρ M fun d M1 => ∃ c, d = .bl c ∧ Φ (.bl (!c)) M1) : WE Cs X (.UnaryOp .Not a pos) ρ M Φ :=
  .mk fun F σ H A Q k => (pe_not pe_sem).sem (h.run _ σ H A _ fun v d H1 M1 p m r q => by
    obtain ⟨c, rfl, q1⟩ := q
    cases r
    exact ⟨c, rfl, k _ _ H1 M1 p m (.bl _) q1⟩)
theorem we_if (h : WT Cs X c ρ M fun t M1 => (t = true → WE Cs X a ρ M1 Φ) ∧ (t = false → WE Cs X b ρ M1 Φ)) : WE Cs X (.IfExp c a b pos) ρ M Φ :=
  .mk fun F σ H A Q k => (pe_ifExp pt_sem pe_sem pe_sem).sem (h.run _ σ H A _ fun t H1 M1 p m q => by
    cases t with
    | true => rw [if_pos rfl]; exact (q.1 rfl).run _ σ H1 (A.go p m) Q (k.from p)
    | false => rw [if_neg Bool.false_ne_true]; exact (q.2 rfl).run _ σ H1 (A.go p m) Q (k.from p))
/-- a op1 b op2 c -/
theorem chain {op op' : CmpOp} {σ : L2.St} {H : Hp} {Q : VK} (A : At Cs F M H σ ρ) (k : Res Cs F M H Φ Q)
    (h : WE Cs X a ρ M fun x M1 => WE Cs X b ρ M1 fun y M2 => WO Cs X (compareOp op) x y M2 fun d M3 => ∃ t, d = .bl t ∧ (t = true → WE Cs X c ρ M3 fun z M4 => WO Cs X (compareOp op') y z M4 Φ) ∧ (t = false → Φ (.bl false) M3)) :
    tChain (semO X (compareOp op)) (semO X (compareOp op')) (semE X a) (semE X b) (semE X c) σ H Q :=
  h.run _ σ H A _ fun vx x H1 M1 p1 m1 r1 h1 => h1.run _ σ H1 (A.go p1 m1) _ fun vy y H2 M2 p2 m2 r2 h2 => h2.run _ H2 vx vy m2 (r1.go p2) r2 _ fun v d H3 M3 p3 m3 r3 h3 => by
    obtain ⟨t, rfl, q1, q2⟩ := h3
    cases r3
    refine ⟨t, rfl, ?_⟩
    cases t with
    | true =>
      rw [if_pos rfl]
      exact (q1 rfl).run _ σ H3 (A.go ((p1.trans p2).trans p3) m3) _ fun vz z H4 M4 p4 m4 r4 h4 => h4.run _ H4 vy vz m4 (r2.go (p3.trans p4)) r4 Q (k.from (((p1.trans p2).trans p3).trans p4))
    | false => rw [if_neg Bool.false_ne_true]; exact k _ _ H3 M3 ((p1.trans p2).trans p3) m3 (.bl false) (q2 rfl)
theorem we_chain {op op' : CmpOp} (h : WE Cs X a ρ M fun x M1 => WE Cs X b ρ M1 fun y M2 => WO Cs X (compareOp op) x y M2 fun d M3 => ∃ t, d = .bl t ∧ (t = true → WE Cs X c ρ M3 fun z M4 => WO Cs X (compareOp op') y z M4 Φ) ∧ (t = false → Φ (.bl false) M3))
    (hm : lastMarks [op, op'] [b, c] = false := by with_unfolding_all rfl) : WE Cs X (.Compare a [op, op'] [b, c] pos) ρ M Φ :=
  .mk fun F σ H A Q k => (pe_chain op_sem op_sem pe_sem pe_sem pe_sem hm).sem (chain A k h)
theorem wt_chain {op op' : CmpOp} (h : WE Cs X a ρ M fun x M1 => WE Cs X b ρ M1 fun y M2 => WO Cs X (compareOp op) x y M2 fun d M3 => ∃ t, d = .bl t ∧ (t = true → WE Cs X c ρ M3 fun z M4 => WO Cs X (compareOp op') y z M4 (bT Ψ)) ∧ (t = false → Ψ false M3))
    (hm : lastMarks [op, op'] [b, c] = false := by with_unfolding_all rfl) : WT Cs X (.Compare a [op, op'] [b, c] pos) ρ M Ψ :=
  .mk fun F σ H A Q k => (pt_chain op_sem op_sem pe_sem pe_sem pe_sem hm).sem (chain (Φ := bT Ψ) A k.bT (.mk fun F' σ' H' A' Q' k' => h.run F' σ' H' A' Q' fun v d H1 M1 p m r q => k' v d H1 M1 p m r (.mk fun F2 σ2 H2 A2 Q2 k2 => q.run F2 σ2 H2 A2 Q2 fun v d H1 M1 p m r q => k2 v d H1 M1 p m r (.mk fun F3 H3 vx vy m3 rx ry Q3 k3 => q.run F3 H3 vx vy m3 rx ry Q3 fun v d H1 M1 p m r ⟨t, e, q1, q2⟩ => k3 v d H1 M1 p m r ⟨t, e, q1, fun z => ⟨false, rfl, q2 z⟩⟩))))

/-! ### arguments, displays -/
theorem wa_nil {Θ : List D → Mem → Prop} (h : Θ [] M) : WA Cs X [] ρ M Θ := .mk fun F σ H A Q k => pa_nil.sem (k [] [] H M .refl A.mem .nil h)
theorem wa_cons {Θ : List D → Mem → Prop} (h : WE Cs X e ρ M fun d M1 => WA Cs X es ρ M1 fun ds M2 => Θ (d :: ds) M2) (hs : starEach (e :: es) X.env = (false, eval e X.env) :: starEach es X.env := by rfl) : WA Cs X (e :: es) ρ M Θ :=
  .mk fun F σ H A Q k => (pa_cons pe_sem pa_sem hs).sem (h.run _ σ H A _ fun v d H1 M1 p1 m1 r1 h1 => h1.run _ σ H1 (A.go p1 m1) _ fun vs ds H2 M2 p2 m2 r2 h2 => k _ _ H2 M2 (p1.trans p2) m2 (.cons (r1.go p2) r2) h2)
theorem MemAt.old {H : Hp} (m : MemAt Cs F M H) {p : Addr} (hp : H p = none) : M p = none := by
  cases e : M p with
  | none => rfl
  | some n =>
    obtain ⟨o, z⟩ := (m.at_ p n e).there
    rw [hp] at z; cases z
theorem MemAt.notZ {H : Hp} (m : MemAt Cs F M H) {p : Addr} (hp : H p = none) : ¬ Zf F M p := fun z => by
  rcases z with z | z
  · exact (m.ff p z).2 hp
  · exact z (m.old hp)
theorem post_new {H : Hp} {p : Addr} {o : HO} (hp : H p = none) : Post M H M (upd H p o) := ⟨fun a u _ h => .inl (by rw [upd_ne (ne_of_none h hp)]; exact h), fun _ h => .inl h⟩
theorem MemAt.new {H : Hp} {p : Addr} {o : HO} (m : MemAt Cs F M H) (hp : H p = none) : MemAt Cs F M (upd H p o) := m.go (post_new hp) fun a n e =>
  .inl ⟨e, fun u h => by rw [upd_ne (ne_of_none h hp)]; exact h, fun dx e2 => ⟨fun u h => by rw [upd_ne (ne_of_none h hp)]; exact h, ((m.at_ a _ e).aux e2).2⟩⟩
theorem we_tup {kk : Nat} (h : WA Cs X es ρ M fun ds M1 => ds.length ≤ 100000 ∧ Φ (.tup ds) M1) : WE Cs X (.Tuple es kk pos) ρ M Φ :=
  .mk fun F σ H A Q k => (pe_tup pa_sem).sem (h.run _ σ H A _ fun vs ds H1 M1 p1 m1 r1 h1 => ⟨by rw [r1.length]; exact sz_of h1.1, fun p hp => k _ _ _ M1 (p1.trans (post_new hp)) (m1.new hp) (.tup (m1.notZ hp) (.inl upd_same) (r1.go (post_new hp))) h1.2⟩)
/-- [a, ..], never changed -/
theorem we_lst (h : WA Cs X es ρ M fun ds M1 => ds.length ≤ 100000 ∧ Φ (.lst ds) M1) : WE Cs X (.List es pos) ρ M Φ :=
  .mk fun F σ H A Q k => (pe_lst pa_sem).sem (h.run _ σ H A _ fun vs ds H1 M1 p1 m1 r1 h1 => ⟨by rw [r1.length]; exact sz_of h1.1, fun p hp => k _ _ _ M1 (p1.trans (post_new hp)) (m1.new hp) (.lst (m1.notZ hp) (.inl upd_same) (r1.go (post_new hp))) h1.2⟩)
theorem post_own {H : Hp} {p : Addr} {o : HO} {n : MO} (hp : H p = none) : Post M H (put M p n) (upd H p o) := ⟨fun a u _ h => .inl (by rw [upd_ne (ne_of_none h hp)]; exact h), fun a h => by
  by_cases e : a = p
  · exact .inr (by rw [e]; exact hp)
  · rw [put_ne e] at h; exact .inl h⟩
theorem MemAt.own {H : Hp} {p : Addr} {o : HO} {n : MO} (m : MemAt Cs F M H) (hp : H p = none) (hn : MOk Cs F (put M p n) (upd H p o) p n) : MemAt Cs F (put M p n) (upd H p o) := m.go (post_own hp) fun a n' e => by
  by_cases ea : a = p
  · subst ea; rw [put_same] at e; cases e; exact .inr hn
  · rw [put_ne ea] at e
    refine .inl ⟨e, fun u h => by rw [upd_ne (ne_of_none h hp)]; exact h, fun dx e2 => ⟨fun u h => by rw [upd_ne (ne_of_none h hp)]; exact h, ?_⟩⟩
    have q := ((m.at_ a _ e).aux e2).2
    rw [put_ne (fun z => by rw [z, m.old hp] at q; cases q)]
    exact q
/-- [a, ..], owned -/
theorem we_lstO (h : WA Cs X es ρ M fun ds M1 => ds.length ≤ 100000 ∧ ∀ p, M1 p = none → Φ (.ref p) (put M1 p (.lst ds))) : WE Cs X (.List es pos) ρ M Φ :=
  .mk fun F σ H A Q k => (pe_lst pa_sem).sem (h.run _ σ H A _ fun vs ds H1 M1 p1 m1 r1 h1 => ⟨by rw [r1.length]; exact sz_of h1.1, fun p hp => k _ _ _ (put M1 p (.lst ds)) (p1.trans (post_own hp)) (m1.own hp ⟨vs, upd_same, r1.go (post_own hp)⟩) (.ref p) (h1.2 p (m1.old hp))⟩)
end
end DL
namespace DL
open PySem PySem.Spec PyProof.Rows L2
/-! ### room, with no guard around -/
structure Rm (k : Nat) (A : Around) : Prop where
  rm : Room k A
  gd : A.guards = some []
theorem Rm.mono {j k : Nat} {A : Around} (r : Rm k A) (h : j ≤ k) : Rm j A := ⟨r.rm.mono h, r.gd⟩
theorem Rm.deeper {k : Nat} {A : Around} (r : Rm (k + 1) A) (env : PySem.Env) : Rm k (A.deeper env) := ⟨r.rm.deeper env, r.gd⟩
theorem Rm.in1 {k : Nat} {A : Around} (r : Rm (k + 1) A) : Rm k A.in1 := ⟨r.rm.in1, r.gd⟩
theorem Rm.make {k : Nat} {A : Around} (r : Rm (k + 1) A) (C : Addr) (us : List Value) (kw : List (Str × Value)) : Rm k (A.under (.builtin "type.__call__" ⟨.ref C :: us, kw⟩)) :=
  ⟨r.rm.make C us kw, by
    have e : (Code.builtin "type.__call__" ⟨.ref C :: us, kw⟩).guards = [] := by first | rfl | simp [Code.guards, Code.isGuard, guardIds]
    have e2 : (A.under (.builtin "type.__call__" ⟨.ref C :: us, kw⟩)).guards = pushGuards (Code.builtin "type.__call__" ⟨.ref C :: us, kw⟩).guards A.guards := by
      unfold Around.under
      rfl
    rw [e2, e, r.gd]
    rfl⟩
/-- a promise by positional values -/
def FnG (P : Program) (w : World) (K : PySem.W.Frag) (mg : Str → Option Value) (base : Heap) (CX : CXT) (k : Nat) (f : Addr) (sp : Sp) : Prop :=
  ∀ (A : Around) (outer : List PySem.Env) (s : Shared) (H : Hp) (us : List Value) (vs : List V) (Q : VK) (E : XK), Rm k A → Env0 P w K mg base A outer s H → Vals vs us → sp vs H Q E →
    codeAny (model P w) A (.call (.ref f) ⟨us, []⟩) (CR CX outer P w H s Q E) s
theorem FnG.mono {P : Program} {w : World} {K : PySem.W.Frag} {mg : Str → Option Value} {base : Heap} {CX : CXT} {j k : Nat} {f : Addr} {sp : Sp} (F : FnG P w K mg base CX j f sp) (h : j ≤ k) : FnG P w K mg base CX k f sp := fun A outer s H us vs Q E hr => F A outer s H us vs Q E (hr.mono h)
theorem FnG.imp {P : Program} {w : World} {K : PySem.W.Frag} {mg : Str → Option Value} {base : Heap} {CX : CXT} {k : Nat} {f : Addr} {sp sp' : Sp} (F : FnG P w K mg base CX k f sp) (h : ∀ vs H Q E, sp' vs H Q E → sp vs H Q E) : FnG P w K mg base CX k f sp' :=
  fun A outer s H us vs Q E hr e0 r hs => F A outer s H us vs Q E hr e0 r (h _ _ _ _ hs)
/-- THE RULE for a def: by its body -/
theorem fn_g {CX : CXT} {P : Program} {w : World} {K : PySem.W.Frag} {mg : Str → Option Value} {base : Heap} {k : Nat} {f : Addr} {fd : FuncData} {name qual : Str} {params : Arguments} {body : List Stmt} {scope : Scope} {dvs dws : List V} {kws : List (Str × V)} {ds : List Value}
    {N ps : List Str} {sp : Sp} (F : FunD K name qual params body scope dvs kws f fd) (S : FnScope N ps scope) (hb : Binds K fd ps ds) (hd : Vals dws ds)
    (len : ∀ vs H Q E, sp (vs ++ dws) H Q E → (vs ++ dws).length = ps.length)
    (hbody : ∀ (cdv : Value) (A : Around) (outer : List PySem.Env) (s : Shared) (H : Hp) (vs : List V) (Q : VK) (E : XK), Rm k (A.deeper (envOfC qual scope s.heap.objs.size f cdv)) → sp vs H Q E →
      ∃ t, PSs (cxOf CX P w K mg base N qual scope f cdv A outer s H E) body t ∧ t { nx := fun _ H' => Q .non H', rt := Q } (start N vs) H) :
    FnG P w K mg base CX (k + 1) f (fun vs H Q E => sp (vs ++ dws) H Q E) := by
  obtain ⟨oc, od, dV, kV, doc, pm, an, cdv, ct, osl, rfl, lk, hcd, _, _⟩ := F.ex
  intro A outer s H us0 vs0 Q E hr e0 r0 hsp
  have hl := len _ _ _ _ hsp
  have r : Vals (vs0 ++ dws) (us0 ++ ds) := r0.append hd
  have KX : K.In s.heap := e0.mod.kin.keeps fun b o e => (e0.bs b o e).1
  have lim : s.heap.NoLimit := e0.mod.nolimit.keeps fun b o e => (e0.bs b o e).1
  have hb' := hb s us0 KX (by rw [← r.length]; exact hl)
  generalize hus : us0 ++ ds = us at hb' r
  generalize hvs : vs0 ++ dws = vs at hl r hsp
  have hkind : ∀ y ∈ ps.zip us, scope.names.lookup y.1 = some .local ∨ (scope.names.lookup y.1 = some .cell ∧ ((cellsFrom (s.heap.objs.size + 1) scope.names []).lookup y.1).isSome = true) := fun ⟨n, v⟩ hy => by
    rcases S.par n (List.of_mem_zip hy).1 with q | q
    · exact .inl q
    · exact .inr ⟨q, PySem.W.cellsFrom_some _ _ _ (.inl q)⟩
  refine codeAny_call_function hr.rm.depth (KX _ _ lk) rfl S.co S.gen rfl (PySem.W.codeRec_of KX hcd) (hb' _ _ _ _ ?_)
  refine wpAny_newFunctionEnv_cells S.kind hkind fun env he s1 x => ?_
  subst he
  refine ⟨lim.keeps x.toInCall.keep, codeAny_func ?_⟩
  obtain ⟨t, ht, hq⟩ := hbody cdv A outer s H vs Q E (hr.deeper _) hsp
  have I : Inv (cxOf CX P w K mg base N qual scope f cdv A outer s H E) [] (start N vs) H s1 := inv_start S hr.rm.hd e0 hl r x
  refine wpAny_mono (ht.run [] s1 (start N vs) H _ I hq) (fun fl s' hs => ?_) fun e s' hs => hs
  have fin : ∀ {σ' : L2.St} {H' : Hp} {v : V} {u : Value}, Inv (cxOf CX P w K mg base N qual scope f cdv A outer s H E) [] σ' H' s' → RelV v u → Q v H' → CE outer P w H s Q u s' :=
    fun {σ' H' v u} J rv q => ⟨v, H', J.os, J.bare, J.base, J.hok, rv, q⟩
  cases fl with
  | ret u =>
    obtain ⟨v, σ', H', J, rv, q⟩ := hs
    exact fin J rv q
  | next =>
    obtain ⟨σ', H', J, q⟩ := hs
    exact fin (v := V.non) (u := Value.none) J rfl q
  | brk =>
    obtain ⟨_, _, _, q⟩ := hs
    exact False.elim q
  | cont =>
    obtain ⟨_, _, _, q⟩ := hs
    exact False.elim q
section
variable {X : Cx} {CX : CXT} {k n : Nat} {f g C : Addr} {sp : Sp} {E : XK} {x m : Str} {p pos apos : Pos} {e o : Expr} {es : List Expr} {t : TA} {ta : TE} {pins : List (Addr × Obj)} {σ : L2.St} {H : Hp} {s : Shared} {Q : VK} {us : List Value} {vs : List V}
theorem run_g (F : FnG X.prog X.w X.K X.mg X.base CX k f sp) (hr : Rm k X.A) (hx : Passes CX X E) (I : Inv X pins σ H s) (r : Vals vs us) (h : sp vs H Q E) :
    codeAny (model X.prog X.w) X.A (.call (.ref f) ⟨us, []⟩) (fun r s' => match r with | .ok (.ret v) => EP X pins σ Q v s' | .ok _ => False | .error e => X.xe e s') s := by
  refine codeAny_mono (F X.A X.stack s H us vs Q E hr I.env0 r h) fun r s' hq => ?_
  cases r with
  | error e => exact hx pins σ H s e s' I hq
  | ok fl =>
    cases fl with
    | ret u => exact I.after hq
    | next => exact False.elim hq
    | brk => exact False.elim hq
    | cont => exact False.elim hq
theorem pe_callG (F : FnG X.prog X.w X.K X.mg X.base CX k f sp) (hr : Rm k X.A) (hg : Gl X x) (hm : X.mg x = some (.ref f)) (hk : PySem.W.keepIn X.K (.ref f) = true)
    (hx : Passes CX X E) (ha : PA X (e :: es) t) (hdb : (x == ("__debug__" : Str)) = false := by decide) (he : starEach (e :: es) X.env = (false, eval e X.env) :: starEach es X.env := by rfl) (hpl : (backTo pos (starEach es X.env)).any (·.1) = false := by rfl) :
    PE X (.Call (.Name x p) (e :: es) [] pos) (fun σ H Q => t σ H fun vs H1 => sp vs H1 Q E) := by
  refine ⟨fun pins s σ H Q I h => ?_⟩
  refine wpAny_Call_Name_kw (ld_glob I hg hm ?_ hdb)
  refine PySem.W.callWith_K (h₀ := X.base) I.ok.mod.kin hk (thn (ha.run pos pins s σ H _ I h) fun us s1 ⟨vs, H1, I1, r, q⟩ => ⟨I1.kIn, ?_⟩) he hpl
  exact wpAny_call (run_g F hr hx I1 r q)
theorem pe_callG0 (F : FnG X.prog X.w X.K X.mg X.base CX k f sp) (hr : Rm k X.A) (hg : Gl X x) (hm : X.mg x = some (.ref f)) (hk : PySem.W.keepIn X.K (.ref f) = true)
    (hx : Passes CX X E) (hdb : (x == ("__debug__" : Str)) = false := by decide) : PE X (.Call (.Name x p) [] [] pos) (fun σ H Q => sp [] H Q E) := by
  refine ⟨fun pins s σ H Q I h => ?_⟩
  refine wpAny_Call_Name_kw (ld_glob I hg hm ?_ hdb)
  exact PySem.W.callWith_K0 I.kIn hk (wpAny_call (run_g (us := []) F hr hx I .nil h))
theorem getprop_g {b : Bool} {f : Str} {a dx p : Addr} {vs : List (Option V)} (I : Inv X pins σ H s) (h : SlX.Slt H a C dx vs) (c : SlX.SCls X.K C) (at_ : PySem.W.findIn X.K (.ref C) f = some (some (.ref p))) (get : PySem.W.specialIn X.K (.ref p) "__get__" = some (some (.builtin "property.__get__")))
    (tk : PySem.W.takesIn X.K (.ref p) = some true) (rc : ∃ rest, PySem.W.recIn X.K p "property" = some (.ref g :: rest)) (F : FnG X.prog X.w X.K X.mg X.base CX n g sp) (hr : Rm (n + 1) X.A)
    (hx : ∀ (H : Hp) (s : Shared) (e : Value) (s' : Shared), CX X.stack H s E e s' → False) (q : sp [.ref a] H Q E) : wpAny (model X.prog X.w) X.A (getAttr (.ref a) f b) (EP X pins σ Q) X.xe s := by
  obtain ⟨sl, od, _, J, _⟩ := SlX.slt_inst I h
  obtain ⟨rest, hrec⟩ := rc
  have I1 : Inv X pins σ H { s with toks := s.toks + 1 } := I.tok (s.toks + 1)
  refine PySem.W.get_bind I.kIn J (PySem.W.plainGet_of (c.get f)).1 (PySem.W.findObj_data c.ic at_ get tk) (PySem.W.plainGet_of (c.get f)).2 (wpAny_call (PySem.W.prop_get (s := { s with toks := s.toks + 1 }) I.kIn hrec ?_))
  refine codeAny_mono (F X.A.in1 X.stack { s with toks := s.toks + 1 } H [.ref a] [.ref a] Q E hr.in1 I1.env0.in1 (.cons rfl .nil) q) fun r s' hq => ?_
  cases r with
  | error e => exact (hx _ _ _ _ hq).elim
  | ok fl =>
    cases fl with
    | ret u =>
      obtain ⟨v, H', I2, rv, q⟩ := I1.after hq
      exact wpAny_of_eq (PySem.W.handedOut_of (handed_of rv)) ⟨v, H', I2, rv, q⟩
    | next => exact False.elim hq
    | brk => exact False.elim hq
    | cont => exact False.elim hq
theorem pe_methG {pl : Sem Bool} (he : PE X o ta) (c : SlX.SCls X.K C) (hm : Meth X.K C m g) (F : FnG X.prog X.w X.K X.mg X.base CX k g sp) (hr : Rm k X.A) (hx : Passes CX X E) (ha : PA X (e :: es) t)
    (hst : starEach (e :: es) X.env = (false, eval e X.env) :: starEach es X.env := by rfl) (hpl : (backTo pos (starEach es X.env)).any (·.1) = false := by rfl)
    (ht : eval (.Call (.Attribute o m apos) (e :: es) [] pos) X.env = (do
      let ov ← eval o X.env
      standAt apos.atName
      let (f, first) ← holding [ov] (getMethod ov m pl)
      callWith pos f first (backTo pos (starEach (e :: es) X.env)) (backToKw pos (keywordEach [] X.env))) := by rfl) :
    PE X (.Call (.Attribute o m apos) (e :: es) [] pos) (SlX.tMethSl C sp E ta t) := by
  refine ⟨fun pins s σ H Q I h => ?_⟩
  refine PySem.W.methodCall_KW (pl := pl) (thn (he.run pins s σ H _ I h) fun u s1 ⟨x, H1, I1, rx, a, dx, vs, ex, hsl, q⟩ => ?_) ht
  subst ex
  obtain rfl : u = Value.ref a := rx
  refine SlX.getmethsl_ok I1 hsl c hm ?_
  refine PySem.W.callWith_K (first := [.ref a]) (h₀ := X.base) I.ok.mod.kin hm.kp (thn (ha.run pos pins s1 σ H1 _ I1 q) fun us s2 ⟨ws, H2, I2, r, q2⟩ => ⟨I2.kIn, ?_⟩) hst hpl
  exact wpAny_call (run_g (us := .ref a :: us) (vs := .ref a :: ws) F hr hx I2 (.cons rfl r) q2)
theorem pe_methG0 {pl : Sem Bool} (he : PE X o ta) (c : SlX.SCls X.K C) (hm : Meth X.K C m g) (F : FnG X.prog X.w X.K X.mg X.base CX k g sp) (hr : Rm k X.A) (hx : Passes CX X E)
    (ht : eval (.Call (.Attribute o m apos) [] [] pos) X.env = (do
      let ov ← eval o X.env
      standAt apos.atName
      let (f, first) ← holding [ov] (getMethod ov m pl)
      callWith pos f first (backTo pos (starEach [] X.env)) (backToKw pos (keywordEach [] X.env))) := by rfl) :
    PE X (.Call (.Attribute o m apos) [] [] pos) (SlX.tMethSl C sp E ta tNil) := by
  refine ⟨fun pins s σ H Q I h => ?_⟩
  refine PySem.W.methodCall_KW (pl := pl) (thn (he.run pins s σ H _ I h) fun u s1 ⟨x, H1, I1, rx, a, dx, vs, ex, hsl, q⟩ => ?_) ht
  subst ex
  obtain rfl : u = Value.ref a := rx
  refine SlX.getmethsl_ok I1 hsl c hm ?_
  exact PySem.W.callWith_K0 (first := [.ref a]) I1.kIn hm.kp (wpAny_call (run_g (us := [.ref a]) (vs := [.ref a]) F hr hx I1 (.cons rfl .nil) q))
theorem run_makeG (M : Mk X.K C f) (F : FnG X.prog X.w X.K X.mg X.base CX k f sp) (hr : Rm (k + 1) X.A) (hx : Passes CX X E) (I : Inv X pins σ H s) (r : Vals vs us)
    (h : ∀ x dx, H x = Option.none → H dx = Option.none → dx ≠ x → sp (V.ref x :: vs) (upd (upd H dx (.own x)) x (.ins C dx [])) (fun v H2 => v = .non ∧ Q (.ref x) H2) E) :
    wpAny (model X.prog X.w) X.A (call (.ref C) us) (EP X pins σ Q) X.xe s := by
  have hq := h (s.heap.objs.size + 1) s.heap.objs.size (I.hok.fresh (Nat.le_succ _)) (I.hok.fresh (Nat.le_refl _)) (Nat.ne_of_lt (Nat.lt_succ_self _))
  have I2 := Inv.made (C := C) I
  have r2 : Vals (V.ref (s.heap.objs.size + 1) :: vs) (Value.ref (s.heap.objs.size + 1) :: us) := .cons rfl r
  refine wpAny_call (make_map (f := f) I.kIn M.makes M.init (beq_iff_eq.mp M.fn) (codeAny_mono (F _ X.stack _ _ (Value.ref (s.heap.objs.size + 1) :: us) _ _ E (hr.make C us []) (I2.env0.make C us []) r2 hq) fun r s' hq' => ?_))
  cases r with
  | error e => exact hx pins σ _ _ e s' I2 hq'
  | ok fl =>
    cases fl with
    | ret u =>
      obtain ⟨v, H', I3, rv, ev, q3⟩ := I2.after hq'
      subst ev
      exact ⟨rv, ⟨V.ref (s.heap.objs.size + 1), H', I3, rfl, q3⟩⟩
    | next => exact False.elim hq'
    | brk => exact False.elim hq'
    | cont => exact False.elim hq'
theorem pe_makeG (M : Mk X.K C f) (F : FnG X.prog X.w X.K X.mg X.base CX k f sp) (hr : Rm (k + 1) X.A) (hg : Gl X x) (hm : X.mg x = some (.ref C)) (hx : Passes CX X E) (ha : PA X (e :: es) t) (hdb : (x == ("__debug__" : Str)) = false := by decide)
    (he : starEach (e :: es) X.env = (false, eval e X.env) :: starEach es X.env := by rfl) (hpl : (backTo pos (starEach es X.env)).any (·.1) = false := by rfl) : PE X (.Call (.Name x p) (e :: es) [] pos) (StX.tMakeR C sp E t) := by
  refine ⟨fun pins s σ H Q I h => ?_⟩
  refine wpAny_Call_Name_kw (ld_glob I hg hm ?_ hdb)
  refine PySem.W.callWith_K (h₀ := X.base) I.ok.mod.kin M.kp (thn (ha.run pos pins s σ H _ I h) fun us s1 ⟨vs, H1, I1, r, q⟩ => ⟨I1.kIn, ?_⟩) he hpl
  exact run_makeG M F hr hx I1 r q
/-- x op y by an own def of x's class, y of the same class -/
theorem bin_g {op : Operator} {a b dx dy : Addr} {vs ws : List (Option V)} (hsf : PySem.W.selfFirst X.K C = true) (hs : PySem.W.findIn X.K (.ref C) (PySem.dunder op.info.2) = some (some (.ref g))) (hf : PySem.W.isFn X.K (.ref g) = true)
    (F : FnG X.prog X.w X.K X.mg X.base CX k g sp) (hr : Rm k X.A) (hx : Passes CX X E) (I : Inv X pins σ H s) (ha : SlX.Slt H a C dx vs) (hb : SlX.Slt H b C dy ws) (q : sp [.ref a, .ref b] H Q E) :
    wpAny (model X.prog X.w) X.A (binaryOp op (.ref a) (.ref b)) (EP X pins σ Q) X.xe s := by
  obtain ⟨sl, od, _, J, _⟩ := SlX.slt_inst I ha
  obtain ⟨sl', od', _, J', _⟩ := SlX.slt_inst I hb
  obtain ⟨m, hF⟩ := I.fr
  refine PySem.W.binop_K hF I.ok.mod.kin J J'.type hsf hs hf ?_
  refine wpAny_mono (wpAny_call (run_g (us := [.ref a, .ref b]) (vs := [.ref a, .ref b]) F hr hx I (.cons rfl (.cons rfl .nil)) q)) (fun w s' z => ?_) fun _ _ x => x
  obtain ⟨z', H', I', rz, qz⟩ := z
  exact SlX.cmpback rz ⟨z', H', I', rz, qz⟩
theorem cmp_g {op : CmpOp} {a b dx dy C' : Addr} {vs ws : List (Option V)} (hop : ∀ a b, compareOp op a b = richCompare op a b) (hn : PySem.W.notFirst X.K C (.ref C') = true) (hs : PySem.W.findIn X.K (.ref C) (cmpInfo op).2.1 = some (some (.ref g))) (hf : PySem.W.isFn X.K (.ref g) = true)
    (F : FnG X.prog X.w X.K X.mg X.base CX k g sp) (hr : Rm k X.A) (hx : Passes CX X E) (I : Inv X pins σ H s) (ha : SlX.Slt H a C dx vs) (hb : SlX.Slt H b C' dy ws) (q : sp [.ref a, .ref b] H Q E) :
    wpAny (model X.prog X.w) X.A (compareOp op (.ref a) (.ref b)) (EP X pins σ Q) X.xe s := by
  obtain ⟨sl, od, _, J, _⟩ := SlX.slt_inst I ha
  obtain ⟨sl', od', _, J', _⟩ := SlX.slt_inst I hb
  obtain ⟨m, hF⟩ := I.fr
  rw [hop]
  refine PySem.W.cmp_K (op := op) (tb := .ref C') hr.rm.units0 hF I.ok.mod.kin J J'.type hn hs hf ?_
  refine wpAny_mono (wpAny_call (run_g (us := [.ref a, .ref b]) (vs := [.ref a, .ref b]) F hr hx I (.cons rfl (.cons rfl .nil)) q)) (fun w s' z => ?_) fun _ _ x => x
  obtain ⟨z', H', I', rz, qz⟩ := z
  exact SlX.cmpback rz ⟨z', H', I', rz, qz⟩
end
end DL
namespace DL
open PySem PySem.Spec PyProof.Rows L2

def semG (X : Cx) (tg : Expr) : TG := fun v σ H Q => ∀ pins s u, Inv X pins σ H s → RelV v u → wpAny (model X.prog X.w) X.A (assign tg X.env u) (fun _ s' => ∃ σ' H', Inv X pins σ' H' s' ∧ Q σ' H') X.xe s
def semGs (X : Cx) (ts : List Expr) : TGs := fun vs σ H Q => ∀ pins s us, Inv X pins σ H s → Vals vs us → wpAny (model X.prog X.w) X.A (assignInOrder ((assignEach ts X.env).map (·.2)) us) (fun _ s' => ∃ σ' H', Inv X pins σ' H' s' ∧ Q σ' H') X.xe s
def semAt (X : Cx) (f : Str) : V → Hp → VK → Prop := fun x H Q => ∀ pins s σ v, Inv X pins σ H s → RelV x v → wpAny (model X.prog X.w) X.A (getAttr v f true) (EP X pins σ Q) X.xe s
section
variable {X : Cx}
theorem pg_sem {tg : Expr} : PG X tg (semG X tg) := ⟨fun pins s _ _ _ u _ I r h => h pins s u I r⟩
theorem pgs_sem {ts : List Expr} : PGs X ts (semGs X ts) := ⟨fun pins s _ _ _ us _ I r h => h pins s us I r⟩
theorem _root_.L2.PG.sem {tg : Expr} {t : TG} {v : V} {σ : L2.St} {H : Hp} {Q : L2.St → Hp → Prop} (p : PG X tg t) (h : t v σ H Q) : semG X tg v σ H Q := fun pins s u I r => p.run pins s σ H v u Q I r h
theorem _root_.L2.PGs.sem {ts : List Expr} {t : TGs} {vs : List V} {σ : L2.St} {H : Hp} {Q : L2.St → Hp → Prop} (p : PGs X ts t) (h : t vs σ H Q) : semGs X ts vs σ H Q := fun pins s us I r => p.run pins s σ H vs us Q I r h
theorem pe_attr {e : Expr} {f : Str} {pos : Pos} {t : TE} (he : PE X e t) (hb : attributeBase e f X.env (eval e X.env) = eval e X.env := by rfl) : PE X (.Attribute e f pos) (fun σ H Q => t σ H fun x H1 => semAt X f x H1 Q) :=
  ⟨fun pins s σ H Q I h => attr_of hb (thn (he.run pins s σ H _ I h) fun u s1 ⟨x, H1, I1, rx, q⟩ => q pins s1 σ u I1 rx)⟩
end

section
variable (Cs : Nat → Addr)
structure WG (X : Cx) (tg : Expr) (d : D) (ρ : Env) (M : Mem) (K : Env → Mem → Prop) : Prop where
  run : ∀ (F : Addr → Prop) σ H v, At Cs F M H σ ρ → Rep Cs (Zf F M) H v d → ∀ Q, (∀ σ' ρ' H' M', Post M H M' H' → At Cs F M' H' σ' ρ' → K ρ' M' → Q σ' H') → semG X tg v σ H Q
structure WGs (X : Cx) (ts : List Expr) (ds : List D) (ρ : Env) (M : Mem) (K : Env → Mem → Prop) : Prop where
  run : ∀ (F : Addr → Prop) σ H vs, At Cs F M H σ ρ → Reps Cs (Zf F M) H vs ds → ∀ Q, (∀ σ' ρ' H' M', Post M H M' H' → At Cs F M' H' σ' ρ' → K ρ' M' → Q σ' H') → semGs X ts vs σ H Q
structure WAt (X : Cx) (f : Str) (x : D) (M : Mem) (Φ : D → Mem → Prop) : Prop where
  run : ∀ (F : Addr → Prop) H vx, MemAt Cs F M H → Rep Cs (Zf F M) H vx x → ∀ Q, Res Cs F M H Φ Q → semAt X f vx H Q
/-- the def at f does S, by at most level k -/
abbrev FnD (X : Cx) (k : Nat) (f : Addr) (S : FS) : Prop := FnG X.prog X.w X.K X.mg X.base CX0 k f (spD Cs S)
end
section
variable {Cs : Nat → Addr} {F : Addr → Prop} {X : Cx} {ρ : Env} {M : Mem} {a b c e : Expr} {es : List Expr} {pos p apos : Pos} {Φ : D → Mem → Prop} {Ψ : Bool → Mem → Prop} {st : Stmt} {sts rest body : List Stmt} {E : DE} {x f m : Str}

/-! ### calls -/
theorem we_call {k : Nat} {g : Addr} {S : FS} (Fn : FnD Cs X k g S) (hr : Rm k X.A) (hg : Gl X x) (hm : X.mg x = some (.ref g)) (hk : PySem.W.keepIn X.K (.ref g) = true) (h : WA Cs X (e :: es) ρ M fun ds M1 => S ds M1 Φ)
    (hdb : (x == ("__debug__" : Str)) = false := by decide) (he : starEach (e :: es) X.env = (false, eval e X.env) :: starEach es X.env := by rfl) (hpl : (backTo pos (starEach es X.env)).any (·.1) = false := by rfl) : WE Cs X (.Call (.Name x p) (e :: es) [] pos) ρ M Φ :=
  .mk fun F σ H A Q k => (pe_callG Fn hr hg hm hk pass0 pa_sem hdb he hpl).sem (h.run _ σ H A _ fun vs ds H1 M1 p1 m1 r1 h1 => ⟨_, ds, M1, Φ, m1, r1, h1, k.from p1⟩)
theorem we_call0 {k : Nat} {g : Addr} {S : FS} (Fn : FnD Cs X k g S) (hr : Rm k X.A) (hg : Gl X x) (hm : X.mg x = some (.ref g)) (hk : PySem.W.keepIn X.K (.ref g) = true) (h : S [] M Φ) (hdb : (x == ("__debug__" : Str)) = false := by decide) : WE Cs X (.Call (.Name x p) [] [] pos) ρ M Φ :=
  .mk fun F σ H A Q k => (pe_callG0 Fn hr hg hm hk pass0 hdb).sem ⟨_, [], M, Φ, A.mem, .nil, h, k⟩
theorem we_callB {id : String} (hg : Gl X x) (hm : X.mg x = none) (hv : bootBuiltins x = some (.builtin id)) (h : WA Cs X (e :: es) ρ M fun ds M1 => WC Cs X (.builtin id) ds M1 Φ) (hn : x ≠ "__name__" := by decide) (hdb : (x == ("__debug__" : Str)) = false := by decide)
    (he : starEach (e :: es) X.env = (false, eval e X.env) :: starEach es X.env := by rfl) (hpl : (backTo pos (starEach es X.env)).any (·.1) = false := by rfl) : WE Cs X (.Call (.Name x p) (e :: es) [] pos) ρ M Φ :=
  .mk fun F σ H A Q k => (pe_callB call_sem hg hm hv pa_sem hn hdb he hpl).sem (h.run _ σ H A _ fun vs ds H1 M1 p1 m1 r1 h1 => h1.run _ H1 vs m1 r1 Q (k.from p1))
theorem we_callTy {T : String} (hg : Gl X x) (hm : X.mg x = none) (hv : bootBuiltins x = some (.type T)) (h : WA Cs X (e :: es) ρ M fun ds M1 => WC Cs X (.type T) ds M1 Φ) (hn : x ≠ "__name__" := by decide) (hdb : (x == ("__debug__" : Str)) = false := by decide)
    (he : starEach (e :: es) X.env = (false, eval e X.env) :: starEach es X.env := by rfl) (hpl : (backTo pos (starEach es X.env)).any (·.1) = false := by rfl) : WE Cs X (.Call (.Name x p) (e :: es) [] pos) ρ M Φ :=
  .mk fun F σ H A Q k => (pe_callTy call_sem hg hm hv pa_sem hn hdb he hpl).sem (h.run _ σ H A _ fun vs ds H1 M1 p1 m1 r1 h1 => h1.run _ H1 vs m1 r1 Q (k.from p1))
theorem run_D {k : Nat} {g : Addr} {S : FS} {pins : List (Addr × Obj)} {σ : L2.St} {H : Hp} {s : Shared} {Q : VK} {us : List Value} {vs : List V} {ds : List D} (Fn : FnD Cs X k g S) (hr : Rm k X.A) (I : Inv X pins σ H s) (r : Vals vs us) (m : MemAt Cs F M H) (rs : Reps Cs (Zf F M) H vs ds) (h : S ds M Φ) (q : Res Cs F M H Φ Q) :
    wpAny (model X.prog X.w) X.A (call (.ref g) us) (EP X pins σ Q) X.xe s := wpAny_call (run_g Fn hr pass0 (E := E0) I r ⟨_, ds, M, Φ, m, rs, h, q⟩)

/-! ### instances with slots -/
theorem rep_slt {H : Hp} {v : V} {c : Nat} {ds : List D} (r : Rep Cs (Zf F M) H v (.obj c ds)) : ∃ q dx vs, v = .ref q ∧ SlX.Slt H q (Cs c) dx (vs.map some) ∧ Reps Cs (Zf F M) H vs ds := by
  cases r with
  | obj hz hx h h2 r => exact ⟨_, _, _, rfl, .inr ⟨h, h2⟩, r⟩
theorem we_attr (h : WE Cs X e ρ M fun x M1 => WAt Cs X f x M1 Φ) (hb : attributeBase e f X.env (eval e X.env) = eval e X.env := by rfl) : WE Cs X (.Attribute e f pos) ρ M Φ :=
  .mk fun F σ H A Q k => (pe_attr pe_sem hb).sem (h.run _ σ H A _ fun v d H1 M1 p1 m1 r1 h1 => h1.run _ H1 v m1 r1 Q (k.from p1))
theorem wat_slot {c i : Nat} {q : Addr} {ds : List D} {d : D} (hc : SlX.SCls X.K (Cs c)) (hs : SlX.Slot1 X.K (Cs c) f q i) (hi : ds[i]? = some d) (h : Φ d M) : WAt Cs X f (.obj c ds) M Φ := .mk fun F H vx m r Q k pins s σ v I rv => by
  obtain ⟨qa, dx, vs, rfl, hsl, rs⟩ := rep_slt r
  obtain ⟨w, hw, rw'⟩ := rs.get hi
  cases rv
  exact SlX.getslot_ok I hsl hc hs (v := w) (by rw [List.getElem?_map, hw]; rfl) fun u s' I' ru => ⟨w, H, I', ru, k.here m rw' h⟩
theorem wat_prop {c k : Nat} {q g : Addr} {ds : List D} {S : FS} (hc : SlX.SCls X.K (Cs c)) (at_ : PySem.W.findIn X.K (.ref (Cs c)) f = some (some (.ref q))) (get : PySem.W.specialIn X.K (.ref q) "__get__" = some (some (.builtin "property.__get__")))
    (tk : PySem.W.takesIn X.K (.ref q) = some true) (rc : ∃ rest, PySem.W.recIn X.K q "property" = some (.ref g :: rest)) (Fn : FnD Cs X k g S) (hr : Rm (k + 1) X.A) (h : S [.obj c ds] M Φ) : WAt Cs X f (.obj c ds) M Φ := .mk fun F H vx m r Q k pins s σ v I rv => by
  obtain ⟨qa, dx, vs, rfl, hsl, rs⟩ := rep_slt r
  cases rv
  exact getprop_g (E := E0) I hsl hc at_ get tk rc Fn hr (fun _ _ _ _ z => z) ⟨_, _, M, Φ, m, .cons r .nil, h, k⟩
/-- o.m(e, ..) -/
theorem we_meth {c k : Nat} {g : Addr} {S : FS} {pl : Sem Bool} (hc : SlX.SCls X.K (Cs c)) (hm : Meth X.K (Cs c) m g) (Fn : FnD Cs X k g S) (hr : Rm k X.A) (h : WE Cs X a ρ M fun x M1 => ∃ ds, x = .obj c ds ∧ WA Cs X (e :: es) ρ M1 fun as M2 => S (.obj c ds :: as) M2 Φ)
    (hst : starEach (e :: es) X.env = (false, eval e X.env) :: starEach es X.env := by rfl) (hpl : (backTo pos (starEach es X.env)).any (·.1) = false := by rfl)
    (ht : eval (.Call (.Attribute a m apos) (e :: es) [] pos) X.env = (do
      let ov ← eval a X.env
      standAt apos.atName
      let (f, first) ← holding [ov] (getMethod ov m pl)
      callWith pos f first (backTo pos (starEach (e :: es) X.env)) (backToKw pos (keywordEach [] X.env))) := by rfl) : WE Cs X (.Call (.Attribute a m apos) (e :: es) [] pos) ρ M Φ :=
  .mk fun F σ H A Q k => (pe_methG (E := E0) (pl := pl) pe_sem hc hm Fn hr pass0 pa_sem hst hpl ht).sem (h.run _ σ H A _ fun v d H1 M1 p1 m1 r1 h1 => by
    obtain ⟨ds, rfl, h1⟩ := h1
    obtain ⟨qa, dx, vs, rfl, hsl, rs⟩ := rep_slt r1
    exact ⟨qa, dx, _, rfl, hsl, h1.run _ σ H1 (A.go p1 m1) _ fun ws as H2 M2 p2 m2 r2 h2 => ⟨_, _, M2, Φ, m2, .cons (r1.go p2) r2, h2, k.from (p1.trans p2)⟩⟩)
theorem we_meth0 {c k : Nat} {g : Addr} {S : FS} {pl : Sem Bool} (hc : SlX.SCls X.K (Cs c)) (hm : Meth X.K (Cs c) m g) (Fn : FnD Cs X k g S) (hr : Rm k X.A) (h : WE Cs X a ρ M fun x M1 => ∃ ds, x = .obj c ds ∧ S [.obj c ds] M1 Φ)
    (ht : eval (.Call (.Attribute a m apos) [] [] pos) X.env = (do
      let ov ← eval a X.env
      standAt apos.atName
      let (f, first) ← holding [ov] (getMethod ov m pl)
      callWith pos f first (backTo pos (starEach [] X.env)) (backToKw pos (keywordEach [] X.env))) := by rfl) : WE Cs X (.Call (.Attribute a m apos) [] [] pos) ρ M Φ :=
  .mk fun F σ H A Q k => (pe_methG0 (E := E0) (pl := pl) pe_sem hc hm Fn hr pass0 ht).sem (h.run _ σ H A _ fun v d H1 M1 p1 m1 r1 h1 => by
    obtain ⟨ds, rfl, h1⟩ := h1
    obtain ⟨qa, dx, vs, rfl, hsl, rs⟩ := rep_slt r1
    exact ⟨qa, dx, _, rfl, hsl, _, _, M1, Φ, m1, .cons r1 .nil, h1, k.from p1⟩)

/-! ### statements -/
theorem wss_nil (h : E.nx ρ M) : WSs Cs X [] ρ M E := .mk fun F σ H A Dn k => pss_nil.sem (k.nx σ ρ H M .refl A h)
theorem wss_cons (h : WS Cs X st ρ M { E with nx := fun ρ' M' => WSs Cs X rest ρ' M' E }) : WSs Cs X (st :: rest) ρ M E :=
  .mk fun F σ H A Dn k => (pss_cons ps_sem pss_sem).sem (h.run _ σ H A { Dn with nx := semSs X rest Dn } ⟨fun σ' ρ' H' M' p A' w => w.run _ σ' H' A' Dn (k.from p), k.rt, k.bk, k.ct⟩)
theorem wss_one (h : WS Cs X st ρ M E) : WSs Cs X [st] ρ M E := .mk fun F σ H A Dn k => (pss_one ps_sem).sem (h.run _ σ H A Dn k)
theorem ws_ret (h : WE Cs X e ρ M E.rt) : WS Cs X (.Return (some e) pos) ρ M E := .mk fun F σ H A Dn k => (ps_ret pe_sem).sem (h.run _ σ H A _ k.rt)
theorem ws_retN (h : E.rt .non M) : WS Cs X (.Return none pos) ρ M E := .mk fun F σ H A Dn k => ps_retN.sem (k.rt _ _ H M .refl A.mem .non h)
theorem ws_pass (h : E.nx ρ M) : WS Cs X (.Pass pos) ρ M E := .mk fun F σ H A Dn k => ps_pass.sem (k.nx σ ρ H M .refl A h)
theorem ws_break (h : E.bk ρ M) : WS Cs X (.Break pos) ρ M E := .mk fun F σ H A Dn k => ps_break.sem (k.bk σ ρ H M .refl A h)
theorem ws_cont (h : E.ct ρ M) : WS Cs X (.Continue pos) ρ M E := .mk fun F σ H A Dn k => ps_continue.sem (k.ct σ ρ H M .refl A h)
theorem ws_expr (h : WE Cs X e ρ M fun _ M1 => E.nx ρ M1) (hs : swapsWith e none pos.line X.env = pure false := by rfl) : WS Cs X (.Expr e pos) ρ M E :=
  .mk fun F σ H A Dn k => (ps_expr pe_sem hs).sem (h.run _ σ H A _ fun v d H1 M1 p1 m1 r1 h1 => k.nx σ ρ H1 M1 p1 (A.go p1 m1) h1)
theorem ws_if {s1 s2 : List Stmt} (h : WT Cs X c ρ M fun t M1 => (t = true → WSs Cs X s1 ρ M1 E) ∧ (t = false → WSs Cs X s2 ρ M1 E)) : WS Cs X (.If c s1 s2 pos) ρ M E :=
  .mk fun F σ H A Dn k => (ps_if pt_sem pss_sem pss_sem).sem (h.run _ σ H A _ fun t H1 M1 p1 m1 h1 => by
    cases t with
    | true => rw [if_pos rfl]; exact (h1.1 rfl).run _ σ H1 (A.go p1 m1) Dn (k.from p1)
    | false => rw [if_neg Bool.false_ne_true]; exact (h1.2 rfl).run _ σ H1 (A.go p1 m1) Dn (k.from p1))
theorem At.set {H : Hp} {σ : L2.St} (A : At Cs F M H σ ρ) {v : V} {d : D} (i : Nat) (r : Rep Cs (Zf F M) H v d) : At Cs F M H (σ.set i (some v)) (ρ.set i (some d)) :=
  ⟨A.mem, by rw [List.length_set, List.length_set, A.len], fun j d' e => by
    by_cases hj : j = i
    · subst hj
      by_cases hl : j < ρ.length
      · rw [List.getElem?_set_self hl] at e
        cases e
        exact ⟨v, by rw [List.getElem?_set_self (by rw [A.len]; exact hl)], r⟩
      · rw [List.getElem?_eq_none_iff.mpr (by rw [List.length_set]; omega)] at e
        cases e
    · rw [List.getElem?_set_ne (Ne.symm hj)] at e
      obtain ⟨w, h1, h2⟩ := A.env j d' e
      exact ⟨w, by rw [List.getElem?_set_ne (Ne.symm hj)]; exact h1, h2⟩⟩
theorem ws_set {pos' : Pos} (i : Nat) (hN : X.N.Nodup) (hi : X.N[i]? = some x) (hx : Loc X.env.scope x) (h : WE Cs X e ρ M fun d M1 => E.nx (ρ.set i (some d)) M1) (hs : swapsWith e (some (.Name x pos')) pos.line X.env = pure false := by rfl)
    (hf : X.fn x = true ∨ X.env.scope.names.lookup x = some .local := by first | exact .inl rfl | exact .inr rfl) : WS Cs X (.Assign [.Name x pos'] e pos) ρ M E :=
  .mk fun F σ H A Dn k => (ps_set hN hi hx pe_sem hs hf).sem (h.run _ σ H A _ fun v d H1 M1 p1 m1 r1 h1 => k.nx _ _ H1 M1 p1 ((A.go p1 m1).set i r1) h1)
/-! ### targets -/
theorem wg_name {d : D} {K : Env → Mem → Prop} (i : Nat) (hN : X.N.Nodup) (hi : X.N[i]? = some x) (hx : Loc X.env.scope x) (h : K (ρ.set i (some d)) M) (hf : X.fn x = true ∨ X.env.scope.names.lookup x = some .local := by first | exact .inl rfl | exact .inr rfl) : WG Cs X (.Name x pos) d ρ M K :=
  .mk fun F σ H v A r Q k => (pg_name hN hi hx hf).sem (k _ _ H M .refl (A.set i r) h)
theorem wgs_nil {K : Env → Mem → Prop} (h : K ρ M) : WGs Cs X [] [] ρ M K := .mk fun F σ H vs A r Q k => pgs_nil.sem (by cases r; exact ⟨rfl, k _ _ H M .refl A h⟩)
theorem wgs_cons {d : D} {ds : List D} {K : Env → Mem → Prop} (h : WG Cs X e d ρ M fun ρ1 M1 => WGs Cs X es ds ρ1 M1 K) (hs : (assignEach (e :: es) X.env).map (·.2) = assign e X.env :: (assignEach es X.env).map (·.2) := by rfl) : WGs Cs X (e :: es) (d :: ds) ρ M K :=
  .mk fun F σ H vs A r Q k => (pgs_cons pg_sem pgs_sem hs).sem (by
    cases r with
    | cons r rr => exact ⟨_, _, rfl, h.run _ σ H _ A r _ fun σ1 ρ1 H1 M1 p1 A1 w => w.run _ σ1 H1 _ A1 (rr.go p1) Q fun σ2 ρ2 H2 M2 p2 A2 w2 => k σ2 ρ2 H2 M2 (p1.trans p2) A2 w2⟩)
theorem wg_tup {ds : List D} {kk n : Nat} {K : Env → Mem → Prop} (hc : X.calm = true) (hl : ds.length = n) (h : WGs Cs X es ds ρ M K) (hn : (assignEach es X.env).length = n := by rfl) (hst : (assignEach es X.env).findIdx? (·.1) = none := by rfl) : WG Cs X (.Tuple es kk pos) (.tup ds) ρ M K :=
  .mk fun F σ H v A r Q k => (pg_tup hc pgs_sem hn hst).sem (by
    cases r with
    | tup hz hr rs => exact ⟨_, _, rfl, .inl hr, by rw [rs.length]; exact hl, h.run _ σ H _ A rs Q k⟩)
theorem wg_unl {ds : List D} {kk n : Nat} {K : Env → Mem → Prop} (hc : X.calm = true) (hl : ds.length = n) (h : WGs Cs X es ds ρ M K) (hn : (assignEach es X.env).length = n := by rfl) (hst : (assignEach es X.env).findIdx? (·.1) = none := by rfl) : WG Cs X (.Tuple es kk pos) (.lst ds) ρ M K :=
  .mk fun F σ H v A r Q k => (pg_unl hc pgs_sem hn hst).sem (by
    cases r with
    | lst hz hr rs => exact ⟨_, _, rfl, .inl hr, by rw [rs.length]; exact hl, h.run _ σ H _ A rs Q k⟩)
theorem ws_asg {tg : Expr} (h : WE Cs X e ρ M fun d M1 => WG Cs X tg d ρ M1 E.nx) (hs : swapsWithSole [tg] e pos.line X.env = pure false := by rfl) (hw : swappedStores [tg] e X.env = pure none := by rfl)
    (h1 : (assignEach [tg] X.env).map (·.2) = [assign tg X.env] := by rfl) : WS Cs X (.Assign [tg] e pos) ρ M E :=
  .mk fun F σ H A Dn k => (ps_asg pe_sem pg_sem hs hw h1).sem (h.run _ σ H A _ fun v d H1 M1 p1 m1 r1 w => w.run _ σ H1 v (A.go p1 m1) r1 _ fun σ2 ρ2 H2 M2 p2 A2 w2 => k.nx σ2 ρ2 H2 M2 (p1.trans p2) A2 w2)
/-- x, y = a, b -/
theorem ws_par {y : Str} {px py pt pt2 : Pos} {kt k2 : Nat} (i j : Nat) (hc : X.calm = true) (hN : X.N.Nodup) (hi : X.N[i]? = some x) (hj : X.N[j]? = some y) (hij : i ≠ j)
    (hx : X.env.scope.names.lookup x = some .local) (hy : X.env.scope.names.lookup y = some .local)
    (hw : swappedStores [.Tuple [.Name x px, .Name y py] kt pt] (.Tuple [a, b] k2 pt2) X.env = pure (some [x, y]))
    (h : WA Cs X [a, b] ρ M fun ds M1 => ∃ d1 d2, ds = [d1, d2] ∧ E.nx ((ρ.set i (some d1)).set j (some d2)) M1)
    (hs : swapsWithSole [.Tuple [.Name x px, .Name y py] kt pt] (.Tuple [a, b] k2 pt2) pos.line X.env = pure false := by rfl) : WS Cs X (.Assign [.Tuple [.Name x px, .Name y py] kt pt] (.Tuple [a, b] k2 pt2) pos) ρ M E :=
  .mk fun F σ H A Dn k => (ps_par hc hN hi hj hij hx hy pa_sem hw hs).sem (h.run _ σ H A _ fun vs ds H1 M1 p1 m1 r1 h1 => by
    obtain ⟨d1, d2, rfl, h1⟩ := h1
    cases r1 with
    | cons r1 rr =>
      cases rr with
      | cons r2 rr =>
        cases rr
        exact ⟨_, _, rfl, k.nx _ _ H1 M1 p1 (((A.go p1 m1).set i r1).set j r2) h1⟩)

/-! ### loops -/
def Loop (Cs : Nat → Addr) (X : Cx) (tg : Expr) (body : List Stmt) (ds : List D) (ρ : Env) (M : Mem) (E : DE) : Prop := ∃ I : Nat → Env → Mem → Prop, I 0 ρ M ∧
  (∀ i d ρ' M', ds[i]? = some d → I i ρ' M' → WG Cs X tg d ρ' M' fun ρ2 M2 => WSs Cs X body ρ2 M2 { E with nx := I (i + 1), ct := I (i + 1), bk := E.nx }) ∧ ∀ ρ' M', I ds.length ρ' M' → E.nx ρ' M'
theorem loop_turn {I : Nat → Env → Mem → Prop} {Dn : Ends} {M1 M' : Mem} {H1 H' : Hp} {σ' : L2.St} {ρ' : Env} {v : V} {d : D} {i : Nat} {tg : Expr} (k : EndsOk Cs F M1 H1 E Dn) (p : Post M1 H1 M' H') (A : At Cs F M' H' σ' ρ') (r : Rep Cs (Zf F M') H' v d)
    (w : WG Cs X tg d ρ' M' fun ρ2 M2 => WSs Cs X body ρ2 M2 { E with nx := I (i + 1), ct := I (i + 1), bk := E.nx }) :
    semG X tg v σ' H' fun σ2 H2 => semSs X body { Dn with nx := fun σ3 H3 => ∃ ρ3 M3, Post M1 H1 M3 H3 ∧ At Cs F M3 H3 σ3 ρ3 ∧ I (i + 1) ρ3 M3, ct := fun σ3 H3 => ∃ ρ3 M3, Post M1 H1 M3 H3 ∧ At Cs F M3 H3 σ3 ρ3 ∧ I (i + 1) ρ3 M3, bk := Dn.nx } σ2 H2 :=
  w.run _ σ' H' v A r _ fun σ2 ρ2 H2 M2 p2 A2 w2 => w2.run _ σ2 H2 A2 _ ⟨fun σ3 ρ3 H3 M3 p3 A3 q => ⟨ρ3, M3, (p.trans p2).trans p3, A3, q⟩, (k.from (p.trans p2)).rt, (k.from (p.trans p2)).nx, fun σ3 ρ3 H3 M3 p3 A3 q => ⟨ρ3, M3, (p.trans p2).trans p3, A3, q⟩⟩
theorem ws_forL {tg : Expr} (hp : PassesOwn (model X.prog X.w) X.A X.env X.xe) (hc : X.calm = true) (h : WE Cs X e ρ M fun x M1 => ∃ ds, x = .lst ds ∧ Loop Cs X tg body ds ρ M1 E)
    (hs : ∀ x, foldedSetIterable e X.env x = pure x := by intro _; rfl) : WS Cs X (.For tg e body [] pos) ρ M E :=
  .mk fun F σ H A Dn k => (ps_for hp hc (pi_list pe_sem) pg_sem pss_sem hs).sem (h.run _ σ H A _ fun v d H1 M1 p1 m1 r1 h1 => by
    obtain ⟨ds, rfl, I, h0, ht, hd⟩ := h1
    cases r1 with
    | @lst al vl _ hz hr rs =>
      refine ⟨_, rfl, ⟨_, .inl hr⟩, for_list (xs := vl) (fun i σ' H' => ∃ ρ' M', Post M1 H1 M' H' ∧ At Cs F M' H' σ' ρ' ∧ I i ρ' M') ⟨ρ, M1, .refl, A.go p1 m1, h0⟩ ?_ ?_ ?_⟩
      · rintro i σ' H' _ ⟨ρ', M', p', A', q⟩
        exact .inl (rd_ex p' hz hr).1
      · rintro i x σ' H' hi ⟨ρ', M', p', A', q⟩
        obtain ⟨d, hd', rd⟩ := (rs.go p').getV hi
        exact loop_turn (k.from p1) p' A' rd (ht i d ρ' M' hd' q)
      · rintro σ' H' ⟨ρ', M', p', A', q⟩
        rw [rs.length] at q
        exact k.nx σ' ρ' H' M' (p1.trans p') A' (hd ρ' M' q))
theorem ws_forT {tg : Expr} (hp : PassesOwn (model X.prog X.w) X.A X.env X.xe) (hc : X.calm = true) (h : WE Cs X e ρ M fun x M1 => ∃ ds, x = .tup ds ∧ Loop Cs X tg body ds ρ M1 E)
    (hs : ∀ x, foldedSetIterable e X.env x = pure x := by intro _; rfl) : WS Cs X (.For tg e body [] pos) ρ M E :=
  .mk fun F σ H A Dn k => (ps_for hp hc (pi_tup pe_sem) pg_sem pss_sem hs).sem (h.run _ σ H A _ fun v d H1 M1 p1 m1 r1 h1 => by
    obtain ⟨ds, rfl, I, h0, ht, hd⟩ := h1
    cases r1 with
    | @tup al vl _ hz hr rs =>
      refine ⟨_, rfl, ⟨_, .inl hr⟩, for_tup (xs := vl) (fun i σ' H' => ∃ ρ' M', Post M1 H1 M' H' ∧ At Cs F M' H' σ' ρ' ∧ I i ρ' M') ⟨ρ, M1, .refl, A.go p1 m1, h0⟩ ?_ ?_ ?_⟩
      · rintro i σ' H' _ ⟨ρ', M', p', A', q⟩
        exact .inl (rd_ex p' hz hr).1
      · rintro i x σ' H' hi ⟨ρ', M', p', A', q⟩
        obtain ⟨d, hd', rd⟩ := (rs.go p').getV hi
        exact loop_turn (k.from p1) p' A' rd (ht i d ρ' M' hd' q)
      · rintro σ' H' ⟨ρ', M', p', A', q⟩
        rw [rs.length] at q
        exact k.nx σ' ρ' H' M' (p1.trans p') A' (hd ρ' M' q))
def upTo (n : Nat) : List D := (List.range n).map fun i : Nat => D.int (i : Int)
theorem ws_forR {tg : Expr} (hp : PassesOwn (model X.prog X.w) X.A X.env X.xe) (hc : X.calm = true) (hg : Gl X "range") (hm : X.mg "range" = none) (h : WE Cs X e ρ M fun x M1 => ∃ n : Nat, x = .int (n : Int) ∧ n ≤ 100000 ∧ Loop Cs X tg body (upTo n) ρ M1 E)
    (hs : ∀ x, foldedSetIterable (.Call (.Name "range" p) [e] [] apos) X.env x = pure x := by intro _; rfl) (hst : starEach [e] X.env = [(false, eval e X.env)] := by rfl) : WS Cs X (.For tg (.Call (.Name "range" p) [e] [] apos) body [] pos) ρ M E :=
  .mk fun F σ H A Dn k => (ps_for hp hc (pi_range1 hg hm (pa_cons pe_sem pa_nil hst) hst) pg_sem pss_sem hs).sem (h.run _ σ H A _ fun v d H1 M1 p1 m1 r1 h1 => by
    obtain ⟨n, rfl, hn, I, h0, ht, hd⟩ := h1
    cases r1
    refine ⟨(n : Int), rfl, by omega, by omega, for_range (lo := 0) (n := (n : Int).toNat) (fun i σ' H' => ∃ ρ' M', Post M1 H1 M' H' ∧ At Cs F M' H' σ' ρ' ∧ I i ρ' M') ⟨ρ, M1, .refl, A.go p1 m1, h0⟩ ?_ ?_⟩
    · rintro i σ' H' hi ⟨ρ', M', p', A', q⟩
      have hi' : i < n := by omega
      have e0 : (0 : Int) + (i : Int) = (i : Int) := Int.zero_add _
      rw [e0]
      exact loop_turn (k.from p1) p' A' (.int _) (ht i (.int (i : Int)) ρ' M' (by unfold upTo; rw [List.getElem?_map, List.getElem?_range hi']; rfl) q)
    · rintro σ' H' ⟨ρ', M', p', A', q⟩
      refine k.nx σ' ρ' H' M' (p1.trans p') A' (hd ρ' M' ?_)
      have e : (upTo n).length = (n : Int).toNat := by unfold upTo; rw [List.length_map, List.length_range]; omega
      rw [e]; exact q)
theorem ws_while {W : Nat → Env → Mem → Prop} (hp : PassesOwn (model X.prog X.w) X.A X.env X.xe) (m0 : Nat) (h0 : W m0 ρ M)
    (hs : ∀ m ρ' M', W m ρ' M' → WT Cs X c ρ' M' fun t M1 => (t = true → WSs Cs X body ρ' M1 { E with nx := fun ρ2 M2 => ∃ m', m' < m ∧ W m' ρ2 M2, ct := fun ρ2 M2 => ∃ m', m' < m ∧ W m' ρ2 M2, bk := E.nx }) ∧ (t = false → E.nx ρ' M1)) : WS Cs X (.While c body [] pos) ρ M E :=
  .mk fun F σ H A Dn k => (ps_while hp pt_sem pss_sem).sem (by
    refine ⟨fun m σ' H' => ∃ ρ' M', Post M H M' H' ∧ At Cs F M' H' σ' ρ' ∧ W m ρ' M', ⟨m0, ρ, M, .refl, A, h0⟩, ?_⟩
    rintro m σ' H' ⟨ρ', M', p', A', w⟩
    refine (hs m ρ' M' w).run _ σ' H' A' _ fun t H1 M1 p1 m1 h1 => ?_
    cases t with
    | true =>
      rw [if_pos rfl]
      refine ⟨fun σ2 H2 => ∃ m', m' < m ∧ ∃ ρ2 M2, Post M H M2 H2 ∧ At Cs F M2 H2 σ2 ρ2 ∧ W m' ρ2 M2, fun σ2 H2 ⟨m', hm, q⟩ => ⟨m', hm, q⟩, ?_⟩
      have pp := p'.trans p1
      exact (h1.1 rfl).run _ σ' H1 (A'.go p1 m1) _ ⟨fun σ3 ρ3 H3 M3 p3 A3 ⟨m', hm, q⟩ => ⟨m', hm, ρ3, M3, pp.trans p3, A3, q⟩, (k.from pp).rt, (k.from pp).nx, fun σ3 ρ3 H3 M3 p3 A3 ⟨m', hm, q⟩ => ⟨m', hm, ρ3, M3, pp.trans p3, A3, q⟩⟩
    | false =>
      rw [if_neg Bool.false_ne_true]
      exact k.nx σ' ρ' H1 M1 (p'.trans p1) (A'.go p1 m1) (h1.2 rfl))
end
end DL
namespace DL
open PySem PySem.Spec PyProof.Rows L2
section
variable {Cs : Nat → Addr} {F : Addr → Prop} {X : Cx} {ρ : Env} {M : Mem} {a b c e : Expr} {es : List Expr} {pos p apos : Pos} {Φ : D → Mem → Prop} {Ψ : Bool → Mem → Prop} {st : Stmt} {sts rest body : List Stmt} {E : DE} {x f m : Str}

/-! ### stores into slots -/
def putO (i : Nat) (d : D) (os : List (Option D)) : List (Option D) := (os ++ List.replicate (i + 1 - os.length) none).set i (some d)
theorem RepO.length {Z : Addr → Prop} {H : Hp} : ∀ {vs : List (Option V)} {os : List (Option D)}, RepO Cs Z H vs os → vs.length = os.length
  | _, _, .nil => rfl
  | _, _, .none r => congrArg Nat.succ (RepO.length r)
  | _, _, .some _ r => congrArg Nat.succ (RepO.length r)
theorem RepO.nones {Z : Addr → Prop} {H : Hp} : ∀ n : Nat, RepO Cs Z H (List.replicate n Option.none) (List.replicate n Option.none)
  | 0 => .nil
  | n + 1 => .none (RepO.nones n)
theorem RepO.append {Z : Addr → Prop} {H : Hp} : ∀ {vs ws : List (Option V)} {os us : List (Option D)}, RepO Cs Z H vs os → RepO Cs Z H ws us → RepO Cs Z H (vs ++ ws) (os ++ us)
  | _, _, _, _, .nil, q => q
  | _, _, _, _, .none r, q => .none (RepO.append r q)
  | _, _, _, _, .some h r, q => .some h (RepO.append r q)
theorem RepO.set {Z : Addr → Prop} {H : Hp} {v : V} {d : D} (q : Rep Cs Z H v d) : ∀ {vs : List (Option V)} {os : List (Option D)} (i : Nat), RepO Cs Z H vs os → RepO Cs Z H (vs.set i (Option.some v)) (os.set i (Option.some d))
  | _, _, _, .nil => .nil
  | _, _, 0, .none r => .some q r
  | _, _, 0, .some _ r => .some q r
  | _, _, i + 1, .none r => .none (RepO.set q i r)
  | _, _, i + 1, .some h r => .some h (RepO.set q i r)
theorem RepO.put {Z : Addr → Prop} {H : Hp} {v : V} {d : D} {vs : List (Option V)} {os : List (Option D)} (r : RepO Cs Z H vs os) (q : Rep Cs Z H v d) (i : Nat) : RepO Cs Z H (SlX.putS i v vs) (putO i d os) := by
  unfold SlX.putS putO
  rw [r.length]
  exact RepO.set q i (r.append (RepO.nones _))
theorem RepO.all {Z : Addr → Prop} {H : Hp} : ∀ {vs : List (Option V)} {ds : List D}, RepO Cs Z H vs (ds.map Option.some) → ∃ ws : List V, vs = ws.map Option.some ∧ Reps Cs Z H ws ds
  | _, [], .nil => ⟨[], rfl, .nil⟩
  | _, d :: ds, .some h r => by
    obtain ⟨ws, e, q⟩ := RepO.all (ds := ds) r
    exact ⟨_ :: ws, by rw [e]; rfl, .cons h q⟩
/-- o.f = e, o an instance with slots that is being made -/
theorem ws_slot {c i : Nat} {q : Addr} {o : Expr} {pos' : Pos} (hc : SlX.SCls X.K (Cs c)) (hs : SlX.Slot1 X.K (Cs c) f q i)
    (h : WE Cs X e ρ M fun d M1 => WE Cs X o ρ M1 fun x M2 => ∃ a dx os, x = .ref a ∧ M2 a = some (.slt c dx os) ∧ E.nx ρ (put M2 a (.slt c dx (putO i d os))))
    (hsw : swapsWith e (some (.Attribute o f pos')) pos.line X.env = pure false := by rfl) : WS Cs X (.Assign [.Attribute o f pos'] e pos) ρ M E :=
  .mk fun F σ H A Dn k => (SlX.ps_sl pe_sem pe_sem hsw).sem (h.run _ σ H A _ fun vy d H1 M1 p1 m1 r1 h1 => h1.run _ σ H1 (A.go p1 m1) _ fun vx x H2 M2 p2 m2 r2 h2 => by
    obtain ⟨a, dx, os, rfl, hM, hn⟩ := h2
    cases r2
    obtain ⟨ne, hx, vs, hsl, ro⟩ := m2.at_ a _ hM
    refine ⟨a, Cs c, dx, q, vs, i, rfl, hsl, hc, hs, ?_⟩
    have hxa : dx ≠ a := ne
    have pp : Post M2 H2 (put M2 a (.slt c dx (putO i d os))) (SlX.slH H2 a (Cs c) dx (SlX.putS i vy vs)) := by
      refine ⟨fun b o hb ho => ?_, fun b hb => ?_⟩
      · rw [SlX.slH_ne (fun z => by rw [z, hM] at hb; cases hb) (fun z => by rw [z, hx] at hb; cases hb)]
        exact .inl ho
      · by_cases e : b = a
        · left; rw [e, hM]; exact fun z => nomatch z
        · rw [put_ne e] at hb; exact .inl hb
    have mm : MemAt Cs F (put M2 a (.slt c dx (putO i d os))) (SlX.slH H2 a (Cs c) dx (SlX.putS i vy vs)) := by
      refine m2.go pp fun b n hb => ?_
      by_cases e : b = a
      · subst e
        rw [put_same] at hb
        cases hb
        refine .inr ⟨ne, by rw [put_ne ne]; exact hx, _, SlX.slH_slt ne, ?_⟩
        exact (ro.go pp).put ((r1.go p2).go pp) i
      · rw [put_ne e] at hb
        by_cases e2 : b = dx
        · subst e2
          rw [hx] at hb
          cases hb
          refine .inr ⟨.xd [], ?_⟩
          unfold SlX.slH
          rw [upd_ne e, upd_same]
        · have key : ∀ z o, z ≠ a → z ≠ dx → H2 z = some o → SlX.slH H2 a (Cs c) dx (SlX.putS i vy vs) z = some o := fun z o n1 n2 ho => by rw [SlX.slH_ne n1 n2]; exact ho
          refine .inl ⟨hb, fun o => key b o e e2, fun dx' z => ?_⟩
          obtain ⟨ne', hx'⟩ := (m2.at_ b _ hb).aux z
          have hda : dx' ≠ a := fun z => by rw [z, hM] at hx'; cases hx'
          have hdd : dx' ≠ dx := fun z => by rw [z, hx] at hx'; cases hx'; exact e rfl
          exact ⟨fun o => key dx' o hda hdd, by rw [put_ne hda]; exact hx'⟩
    exact k.nx σ ρ _ _ ((p1.trans p2).trans pp) ((A.go (p1.trans p2) m2).go pp mm) hn)
/-- C(e, ..) of a class with slots: told by the data of its slots when __init__ is through -/
theorem we_make {n k : Nat} {g : Addr} {S : FS} (Mk' : Mk X.K (Cs n) g) (Fn : FnD Cs X k g S) (hr : Rm (k + 1) X.A) (hg : Gl X x) (hm : X.mg x = some (.ref (Cs n)))
    (h : WA Cs X (e :: es) ρ M fun ds M1 => ∀ a dx, M1 a = none → M1 dx = none → dx ≠ a → S (.ref a :: ds) (put (put M1 dx (.aux a)) a (.slt n dx [])) fun d M2 => d = .non ∧ ∃ ds', ds' ≠ [] ∧ M2 a = some (.slt n dx (ds'.map some)) ∧ Φ (.obj n ds') (era (era M2 a) dx))
    (hdb : (x == ("__debug__" : Str)) = false := by decide) (he : starEach (e :: es) X.env = (false, eval e X.env) :: starEach es X.env := by rfl) (hpl : (backTo pos (starEach es X.env)).any (·.1) = false := by rfl) : WE Cs X (.Call (.Name x p) (e :: es) [] pos) ρ M Φ :=
  .mk fun F σ H A Q k => (pe_makeG (E := E0) Mk' Fn hr hg hm pass0 pa_sem hdb he hpl).sem (h.run _ σ H A _ fun vs ds H1 M1 p1 m1 r1 h1 => fun y dx hy hdx ne => by
    have py : Post M1 H1 (put (put M1 dx (.aux y)) y (.slt n dx [])) (upd (upd H1 dx (.own y)) y (.ins (Cs n) dx [])) := by
      refine ⟨fun b o hb ho => ?_, fun b hb => ?_⟩
      · rw [upd_ne (ne_of_none ho hy), upd_ne (ne_of_none ho hdx)]; exact .inl ho
      · by_cases e1 : b = y
        · exact .inr (by rw [e1]; exact hy)
        · rw [put_ne e1] at hb
          by_cases e2 : b = dx
          · exact .inr (by rw [e2]; exact hdx)
          · rw [put_ne e2] at hb; exact .inl hb
    have my : MemAt Cs F (put (put M1 dx (.aux y)) y (.slt n dx [])) (upd (upd H1 dx (.own y)) y (.ins (Cs n) dx [])) := by
      refine m1.go py fun b nn hb => ?_
      by_cases e1 : b = y
      · subst e1
        rw [put_same] at hb
        cases hb
        exact .inr ⟨ne, by rw [put_ne ne, put_same], [], .inl ⟨upd_same, rfl⟩, .nil⟩
      · rw [put_ne e1] at hb
        by_cases e2 : b = dx
        · subst e2
          rw [put_same] at hb
          cases hb
          exact .inr ⟨.own y, by rw [upd_ne e1, upd_same]⟩
        · rw [put_ne e2] at hb
          have key : ∀ z o, H1 z = some o → upd (upd H1 dx (.own y)) y (.ins (Cs n) dx []) z = some o := fun z o ho => by rw [upd_ne (ne_of_none ho hy), upd_ne (ne_of_none ho hdx)]; exact ho
          refine .inl ⟨hb, key b, fun dx' z => ⟨key dx', ?_⟩⟩
          have q := ((m1.at_ b _ hb).aux z).2
          rw [put_ne (fun z => by rw [z, m1.old hy] at q; cases q), put_ne (fun z => by rw [z, m1.old hdx] at q; cases q)]
          exact q
    refine ⟨F, .ref y :: ds, _, _, my, .cons (.ref y) (r1.go py), h1 y dx (m1.old hy) (m1.old hdx) ne, fun v d H2 M2 p2 m2 r2 h2 => ?_⟩
    obtain ⟨rfl, ds', hne, hM2, hΦ⟩ := h2
    cases r2
    refine ⟨rfl, ?_⟩
    obtain ⟨ne2, hx2, ws, hsl, ro⟩ := m2.at_ y _ hM2
    obtain ⟨us, rfl, rs⟩ := RepO.all ro
    have hle : ∀ b, era (era M2 y) dx b ≠ none → M2 b ≠ none := fun b hb => by
      by_cases e1 : b = dx
      · rw [e1, era_same] at hb; exact absurd rfl hb
      · rw [era_ne e1] at hb
        by_cases e2 : b = y
        · rw [e2, era_same] at hb; exact absurd rfl hb
        · rw [era_ne e2] at hb; exact hb
    have p3 : Post M2 H2 (era (era M2 y) dx) H2 := Post.sub hle
    have hy2 : ¬ Zf F (era (era M2 y) dx) y := fun z => by
      rcases z with z | z
      · exact (m1.ff y z).2 hy
      · rw [era_ne (Ne.symm ne), era_same] at z; exact z rfl
    have hdx2 : ¬ Zf F (era (era M2 y) dx) dx := fun z => by
      rcases z with z | z
      · exact (m1.ff dx z).2 hdx
      · rw [era_same] at z; exact z rfl
    have m3 : MemAt Cs F (era (era M2 y) dx) H2 := by
      refine m2.go p3 fun b nn hb => ?_
      have b1 : b ≠ dx := fun z => by rw [z, era_same] at hb; cases hb
      rw [era_ne b1] at hb
      have b2 : b ≠ y := fun z => by rw [z, era_same] at hb; cases hb
      rw [era_ne b2] at hb
      refine .inl ⟨hb, fun _ z => z, fun dx' z => ⟨fun _ z => z, ?_⟩⟩
      have q := ((m2.at_ b _ hb).aux z).2
      rw [era_ne (fun z => by rw [z, hx2] at q; cases q; exact b2 rfl), era_ne (fun z => by rw [z, hM2] at q; cases q)]
      exact q
    refine k _ _ H2 _ ((p1.trans (py.trans p2)).trans p3) m3 ?_ hΦ
    have hsl2 : H2 y = some (SlX.SlO y (Cs n) dx (us.map some)) ∧ H2 dx = some (.xd []) := by
      rcases hsl with ⟨z1, z2⟩ | z
      · have e0 : us = [] := by simpa using z2
        have l0 := rs.length
        rw [e0] at l0
        exact absurd (List.length_eq_zero_iff.mp l0.symm) hne
      · exact z
    exact .obj hy2 hdx2 hsl2.1 hsl2.2 (rs.go p3))
end
end DL
namespace DL
open PySem PySem.Spec PyProof.Rows L2
section
variable {Cs : Nat → Addr} {F : Addr → Prop} {X : Cx} {ρ : Env} {M : Mem} {a b c e : Expr} {es : List Expr} {pos p apos : Pos} {Φ : D → Mem → Prop} {Ψ : Bool → Mem → Prop} {st : Stmt} {sts rest body : List Stmt} {E : DE} {x f m : Str}

/-! ### ints -/
theorem wo_I {f : Value → Value → Sem Value} {C : Int → Int → Prop} {g : Int → Int → Int} {i j : Int} (ho : OpR X f (rI C fun i j => .int (g i j))) (hc : C i j) (h : Φ (.int (g i j)) M) : WO Cs X f (.int i) (.int j) M Φ := .mk fun F H vx vy m rx ry Q k => by
  cases rx; cases ry
  exact ho.sem ⟨i, j, rfl, rfl, hc, k.here m (.int _) h⟩
theorem wo_I0 {f : Value → Value → Sem Value} {g : Int → Int → Int} {i j : Int} (ho : OpR X f (rI0 fun i j => .int (g i j))) (h : Φ (.int (g i j)) M) : WO Cs X f (.int i) (.int j) M Φ := .mk fun F H vx vy m rx ry Q k => by
  cases rx; cases ry
  exact ho.sem ⟨i, j, rfl, rfl, k.here m (.int _) h⟩
theorem wo_B0 {f : Value → Value → Sem Value} {g : Int → Int → Bool} {i j : Int} (ho : OpR X f (rI0 fun i j => .bl (g i j))) (h : Φ (.bl (g i j)) M) : WO Cs X f (.int i) (.int j) M Φ := .mk fun F H vx vy m rx ry Q k => by
  cases rx; cases ry
  exact ho.sem ⟨i, j, rfl, rfl, k.here m (.bl _) h⟩
theorem wo_add {i j : Int} (h : Φ (.int (i + j)) M) : WO Cs X (binaryOp .Add) (.int i) (.int j) M Φ := wo_I0 op_add h
theorem wo_sub {i j : Int} (h : Φ (.int (i - j)) M) : WO Cs X (binaryOp .Sub) (.int i) (.int j) M Φ := wo_I0 op_sub h
theorem wo_mul {i j : Int} (hc : CMulW i j) (h : Φ (.int (i * j)) M) : WO Cs X (binaryOp .Mult) (.int i) (.int j) M Φ := wo_I op_mulW hc h
theorem wo_fdiv {i j : Int} (hc : CDivW i j) (h : Φ (.int (i / j)) M) : WO Cs X (binaryOp .FloorDiv) (.int i) (.int j) M Φ := wo_I op_fdivW hc h
theorem wo_mod {i j : Int} (hc : 0 < j) (h : Φ (.int (i % j)) M) : WO Cs X (binaryOp .Mod) (.int i) (.int j) M Φ := wo_I op_mod hc h
theorem op_powG : OpR X (binaryOp .Pow) (rI (fun i j => 0 ≤ j ∧ (Builtin.Int.intBits i : Int) * j ≤ 2 ^ 27) fun i j => .int (i ^ j.toNat)) := opI fun _ _ _ _ _ _ _ hc q => pow_int hc.1 hc.2 q
theorem wo_pow {i j : Int} (hc : 0 ≤ j ∧ (Builtin.Int.intBits i : Int) * j ≤ 2 ^ 27) (h : Φ (.int (i ^ j.toNat)) M) : WO Cs X (binaryOp .Pow) (.int i) (.int j) M Φ := wo_I op_powG hc h
theorem wo_lt {i j : Int} (h : Φ (.bl (decide (i < j))) M) : WO Cs X (compareOp .Lt) (.int i) (.int j) M Φ := wo_B0 op_lt h
theorem wo_le {i j : Int} (h : Φ (.bl (decide (i ≤ j))) M) : WO Cs X (compareOp .LtE) (.int i) (.int j) M Φ := wo_B0 op_le h
theorem wo_gt {i j : Int} (h : Φ (.bl (decide (j < i))) M) : WO Cs X (compareOp .Gt) (.int i) (.int j) M Φ := wo_B0 op_gt h
theorem wo_ge {i j : Int} (h : Φ (.bl (decide (j ≤ i))) M) : WO Cs X (compareOp .GtE) (.int i) (.int j) M Φ := wo_B0 op_ge h
theorem dec_int (i j : Int) : decide (V.int i = V.int j) = decide (i = j) := by
  by_cases h : i = j
  · rw [h, decide_eq_true rfl, decide_eq_true rfl]
  · rw [decide_eq_false h, decide_eq_false (fun z => h (V.int.inj z))]
theorem dec_bl (i j : Bool) : decide (V.bl i = V.bl j) = decide (i = j) := by
  by_cases h : i = j
  · rw [h, decide_eq_true rfl, decide_eq_true rfl]
  · rw [decide_eq_false h, decide_eq_false (fun z => h (V.bl.inj z))]
theorem dec_str (i j : Str) : decide (V.str i = V.str j) = decide (i = j) := by
  by_cases h : i = j
  · rw [h, decide_eq_true rfl, decide_eq_true rfl]
  · rw [decide_eq_false h, decide_eq_false (fun z => h (V.str.inj z))]
theorem wo_eqI {i j : Int} (h : Φ (.bl (decide (i = j))) M) : WO Cs X (compareOp .Eq) (.int i) (.int j) M Φ := .mk fun F H vx vy m rx ry Q k => by
  cases rx; cases ry
  exact op_eq.sem ⟨rfl, by rw [dec_int]; exact k.here m (.bl _) h⟩
theorem wo_neI {i j : Int} (h : Φ (.bl (!decide (i = j))) M) : WO Cs X (compareOp .NotEq) (.int i) (.int j) M Φ := .mk fun F H vx vy m rx ry Q k => by
  cases rx; cases ry
  exact op_ne.sem ⟨rfl, by rw [dec_int]; exact k.here m (.bl _) h⟩
theorem wo_eqB {i j : Bool} (h : Φ (.bl (decide (i = j))) M) : WO Cs X (compareOp .Eq) (.bl i) (.bl j) M Φ := .mk fun F H vx vy m rx ry Q k => by
  cases rx; cases ry
  exact op_eq.sem ⟨rfl, by rw [dec_bl]; exact k.here m (.bl _) h⟩
theorem wo_neB {i j : Bool} (h : Φ (.bl (!decide (i = j))) M) : WO Cs X (compareOp .NotEq) (.bl i) (.bl j) M Φ := .mk fun F H vx vy m rx ry Q k => by
  cases rx; cases ry
  exact op_ne.sem ⟨rfl, by rw [dec_bl]; exact k.here m (.bl _) h⟩
theorem wo_eqS {i j : Str} (h : Φ (.bl (decide (i = j))) M) : WO Cs X (compareOp .Eq) (.str i) (.str j) M Φ := .mk fun F H vx vy m rx ry Q k => by
  cases rx; cases ry
  exact op_eq.sem ⟨rfl, by rw [dec_str]; exact k.here m (.bl _) h⟩
theorem wo_neS {i j : Str} (h : Φ (.bl (!decide (i = j))) M) : WO Cs X (compareOp .NotEq) (.str i) (.str j) M Φ := .mk fun F H vx vy m rx ry Q k => by
  cases rx; cases ry
  exact op_ne.sem ⟨rfl, by rw [dec_str]; exact k.here m (.bl _) h⟩
def _root_.DL.D.isNon : D → Bool
  | .non => true
  | _ => false
theorem rep_non {Z : Addr → Prop} {H : Hp} {v : V} {d : D} (r : Rep Cs Z H v d) : decide (v = .non) = d.isNon := by
  cases r <;> rfl
theorem wo_isN {d : D} (h : Φ (.bl d.isNon) M) : WO Cs X (compareOp .Is) d .non M Φ := .mk fun F H vx vy m rx ry Q k => by
  cases ry
  exact op_isN.sem ⟨rfl, by rw [rep_non rx]; exact k.here m (.bl _) h⟩
theorem wo_notN {d : D} (h : Φ (.bl (!d.isNon)) M) : WO Cs X (compareOp .IsNot) d .non M Φ := .mk fun F H vx vy m rx ry Q k => by
  cases ry
  exact op_notN.sem ⟨rfl, by rw [rep_non rx]; exact k.here m (.bl _) h⟩
theorem wu_neg {i : Int} (h : Φ (.int (-i)) M) : WU Cs X (unaryOp .USub) (.int i) M Φ := .mk fun F H vx m rx Q k => by
  cases rx
  exact un_neg.sem ⟨i, rfl, k.here m (.int _) h⟩

/-! ### places of sequences -/
theorem ixn_len {n : Nat} {i : Int} {j : Nat} (h : ixN n i = some j) : j < n := by
  unfold ixN at h
  split at h
  · split at h
    · cases h; omega
    · cases h
  · split at h
    · cases h; omega
    · cases h
theorem atI_rep {Z : Addr → Prop} {H : Hp} {vs : List V} {ds : List D} {i : Int} {d : D} (r : Reps Cs Z H vs ds) (h : atI ds i = some d) : ∃ v, atI vs i = some v ∧ Rep Cs Z H v d := by
  unfold atI at h ⊢
  rw [r.length]
  cases e : ixN ds.length i with
  | none => rw [e] at h; cases h
  | some j =>
    rw [e] at h
    obtain ⟨v, h1, h2⟩ := r.get (show ds[j]? = some d from h)
    exact ⟨v, h1, h2⟩
theorem wix_tup {ds : List D} {i : Int} {d : D} (hi : atI ds i = some d) (h : Φ d M) : WIx Cs X (.tup ds) (.int i) M Φ := .mk fun F H vx vy m rx ry Q k => by
  cases ry
  cases rx with
  | tup hz hr rs =>
    obtain ⟨v, h1, h2⟩ := atI_rep rs hi
    exact ix_tup.sem ⟨_, _, i, v, rfl, rfl, .inl hr, h1, k.here m h2 h⟩
theorem wix_lst {ds : List D} {i : Int} {d : D} (hi : atI ds i = some d) (h : Φ d M) : WIx Cs X (.lst ds) (.int i) M Φ := .mk fun F H vx vy m rx ry Q k => by
  cases ry
  cases rx with
  | lst hz hr rs =>
    obtain ⟨v, h1, h2⟩ := atI_rep rs hi
    exact ix_list.sem ⟨_, _, i, v, rfl, rfl, .inl hr, h1, k.here m h2 h⟩
theorem wix_own {q : Addr} {ds : List D} {i : Int} {d : D} (hM : M q = some (.lst ds)) (hi : atI ds i = some d) (h : Φ d M) : WIx Cs X (.ref q) (.int i) M Φ := .mk fun F H vx vy m rx ry Q k => by
  cases ry
  cases rx
  obtain ⟨vs, h0, rs⟩ := m.at_ q _ hM
  obtain ⟨v, h1, h2⟩ := atI_rep rs hi
  exact ix_list.sem ⟨_, _, i, v, rfl, rfl, .inl (.inl h0), h1, k.here m h2 h⟩
/-- an owned list is changed -/
theorem lst_new {H : Hp} {q : Addr} {ds ds' : List D} {vs' : List V} (m : MemAt Cs F M H) (hM : M q = some (.lst ds)) (r : Reps Cs (Zf F M) H vs' ds') : Post M H (put M q (.lst ds')) (upd H q (.lst vs')) ∧ MemAt Cs F (put M q (.lst ds')) (upd H q (.lst vs')) := by
  have pp : Post M H (put M q (.lst ds')) (upd H q (.lst vs')) := ⟨fun b o hb ho => .inl (by rw [upd_ne (fun z => by rw [z, hM] at hb; cases hb)]; exact ho), fun b hb => by
    by_cases e : b = q
    · left; rw [e, hM]; exact fun z => nomatch z
    · rw [put_ne e] at hb; exact .inl hb⟩
  refine ⟨pp, m.go pp fun b n hb => ?_⟩
  by_cases e : b = q
  · subst e
    rw [put_same] at hb
    cases hb
    exact .inr ⟨vs', upd_same, r.go pp⟩
  · rw [put_ne e] at hb
    refine .inl ⟨hb, fun o ho => by rw [upd_ne e]; exact ho, fun dx z => ?_⟩
    have q1 := ((m.at_ b _ hb).aux z).2
    have ne : dx ≠ q := fun z => by rw [z, hM] at q1; cases q1
    exact ⟨fun o ho => by rw [upd_ne ne]; exact ho, by rw [put_ne ne]; exact q1⟩
/-- o[i] = e, o an owned list -/
theorem wg_sub {o i : Expr} {d : D} {K : Env → Mem → Prop} (h : WE Cs X o ρ M fun x M1 => WE Cs X i ρ M1 fun y M2 => ∃ q ds n j, x = .ref q ∧ y = .int n ∧ M2 q = some (.lst ds) ∧ ixN ds.length n = some j ∧ K ρ (put M2 q (.lst (ds.set j d))))
    (ha : ∀ v, assign (.Subscript o i pos) X.env v = (do
      let ov ← holding [v] (eval o X.env)
      let iv ← holding [v, ov] (eval i X.env)
      standAt pos
      holding [v, ov, iv] (setItem ov iv v)
      release [v, ov, iv] []) := by intro _; rfl) : WG Cs X (.Subscript o i pos) d ρ M K :=
  .mk fun F σ H v A r Q k => (pg_sub pe_sem pe_sem set_list ha).sem (h.run _ σ H A _ fun vx x H1 M1 p1 m1 r1 h1 => h1.run _ σ H1 (A.go p1 m1) _ fun vy y H2 M2 p2 m2 r2 h2 => by
    obtain ⟨q, ds, n, j, rfl, rfl, hM, hj, hK⟩ := h2
    cases r1
    cases r2
    obtain ⟨vs, h0, rs⟩ := m2.at_ q _ hM
    obtain ⟨pp, mm⟩ := lst_new m2 hM (rs.set j ((r.go p1).go p2))
    exact ⟨q, vs, n, j, rfl, rfl, h0, by rw [rs.length]; exact hj, k _ _ _ _ ((p1.trans p2).trans pp) ((A.go (p1.trans p2) m2).go pp mm) hK⟩)
/-- o.append(e), o an owned list -/
theorem we_append {o : Expr} (h : WE Cs X o ρ M fun x M1 => ∃ q ds0, x = .ref q ∧ M1 q = some (.lst ds0) ∧ WE Cs X e ρ M1 fun d M2 => ∃ ds, M2 q = some (.lst ds) ∧ ds.length < 100000 ∧ Φ .non (put M2 q (.lst (ds ++ [d]))))
    (hbase : attributeBase o "append" X.env (eval o X.env) = eval o X.env := by rfl)
    (hfew : ((backTo pos (starEach [e] X.env)).all (fun x => !x.1) && (backToKw pos (keywordEach [] X.env)).all (fun x => x.1.isSome)
      && decide ([e].length + ([] : List Keyword).length + (if ([] : List Keyword).isEmpty then 0 else 1) < 30)) = true := by rfl)
    (hline : (apos.endLine == pos.line) = true := by rfl) (hst : starEach [e] X.env = (false, eval e X.env) :: starEach [] X.env := by rfl) (hpl : (backTo pos (starEach [] X.env)).any (·.1) = false := by rfl) : WE Cs X (.Call (.Attribute o "append" apos) [e] [] pos) ρ M Φ := by
  refine .mk fun F σ H A Q k => ?_
  refine (pe_bm PySem.F.plainAttrs_list PySem.F.slot_list_append PySem.F.type_list_append mt_append pe_sem (pa_cons pe_sem pa_nil hst) hbase hfew hline hst hpl).sem ?_
  refine h.run _ σ H A _ fun vx x H1 M1 p1 m1 r1 h1 => ?_
  obtain ⟨q, ds0, rfl, hM1, h1⟩ := h1
  cases r1
  obtain ⟨vs0, e0, _⟩ := m1.at_ q _ hM1
  refine ⟨.inl ⟨rfl, _, .inl (.inl e0)⟩, h1.run _ σ H1 (A.go p1 m1) _ fun vy d H2 M2 p2 m2 r2 h2 => ?_⟩
  obtain ⟨ds, hM2, hl, hΦ⟩ := h2
  obtain ⟨vs, e2, rs⟩ := m2.at_ q _ hM2
  obtain ⟨pp, mm⟩ := lst_new m2 hM2 (rs.append (.cons r2 .nil))
  exact ⟨q, vs, vy, rfl, rfl, e2, by rw [rs.length]; exact Nat.lt_of_lt_of_le hl (by decide), k _ _ _ _ ((p1.trans p2).trans pp) mm .non hΦ⟩

/-! ### built-ins -/
theorem wc_of {g : Value} {r : List V → Hp → VK → Prop} {xs : List D} (ho : CallR X g r) (h : ∀ {F : Addr → Prop} H vs Q, MemAt Cs F M H → Reps Cs (Zf F M) H vs xs → Res Cs F M H Φ Q → r vs H Q) : WC Cs X g xs M Φ := .mk fun F H vs m rs Q k => ho.sem (h H vs Q m rs k)
theorem reps1 {Z : Addr → Prop} {H : Hp} {vs : List V} {d : D} (r : Reps Cs Z H vs [d]) : ∃ v, vs = [v] ∧ Rep Cs Z H v d := by
  cases r with
  | cons h r => cases r; exact ⟨_, rfl, h⟩
theorem reps2 {Z : Addr → Prop} {H : Hp} {vs : List V} {d d' : D} (r : Reps Cs Z H vs [d, d']) : ∃ v v', vs = [v, v'] ∧ Rep Cs Z H v d ∧ Rep Cs Z H v' d' := by
  cases r with
  | cons h r =>
    cases r with
    | cons h' r => cases r; exact ⟨_, _, rfl, h, h'⟩
theorem wc_abs {i : Int} (h : Φ (.int (if i < 0 then -i else i)) M) : WC Cs X (.builtin "abs") [.int i] M Φ := wc_of call_abs fun H vs Q m rs k => by
  obtain ⟨v, rfl, r⟩ := reps1 rs
  cases r
  exact ⟨i, rfl, k.here m (.int _) h⟩
theorem wc_max {i j : Int} (hc : X.calm = true) (h : Φ (.int (if j > i then j else i)) M) : WC Cs X (.builtin "max") [.int i, .int j] M Φ := wc_of (call_max2 hc) fun H vs Q m rs k => by
  obtain ⟨v, v', rfl, r, r'⟩ := reps2 rs
  cases r; cases r'
  exact ⟨i, j, rfl, k.here m (.int _) h⟩
theorem wc_min {i j : Int} (hc : X.calm = true) (h : Φ (.int (if j < i then j else i)) M) : WC Cs X (.builtin "min") [.int i, .int j] M Φ := wc_of (call_min2 hc) fun H vs Q m rs k => by
  obtain ⟨v, v', rfl, r, r'⟩ := reps2 rs
  cases r; cases r'
  exact ⟨i, j, rfl, k.here m (.int _) h⟩
theorem wc_int {i : Int} (h : Φ (.int i) M) : WC Cs X (.type "int") [.int i] M Φ := wc_of call_int1 fun H vs Q m rs k => by
  obtain ⟨v, rfl, r⟩ := reps1 rs
  cases r
  exact .inl ⟨i, rfl, k.here m (.int _) h⟩
theorem wc_intB {t : Bool} (h : Φ (.int (if t then 1 else 0)) M) : WC Cs X (.type "int") [.bl t] M Φ := wc_of call_int1 fun H vs Q m rs k => by
  obtain ⟨v, rfl, r⟩ := reps1 rs
  cases r
  exact .inr ⟨t, rfl, k.here m (.int _) h⟩
theorem wc_lenL {ds : List D} (h : Φ (.int ds.length) M) : WC Cs X (.builtin "len") [.lst ds] M Φ := wc_of call_len_seq fun H vs Q m rs k => by
  obtain ⟨v, rfl, r⟩ := reps1 rs
  cases r with
  | lst hz hr r => exact ⟨_, _, rfl, .inl (.inl hr), by rw [r.length]; exact k.here m (.int _) h⟩
theorem wc_lenT {ds : List D} (h : Φ (.int ds.length) M) : WC Cs X (.builtin "len") [.tup ds] M Φ := wc_of call_len_seq fun H vs Q m rs k => by
  obtain ⟨v, rfl, r⟩ := reps1 rs
  cases r with
  | tup hz hr r => exact ⟨_, _, rfl, .inr (.inl hr), by rw [r.length]; exact k.here m (.int _) h⟩
theorem wc_lenO {q : Addr} {ds : List D} (hM : M q = some (.lst ds)) (h : Φ (.int ds.length) M) : WC Cs X (.builtin "len") [.ref q] M Φ := wc_of call_len_seq fun H vs Q m rs k => by
  obtain ⟨v, rfl, r⟩ := reps1 rs
  cases r
  obtain ⟨vs, e0, r⟩ := m.at_ q _ hM
  exact ⟨_, _, rfl, .inl (.inl (.inl e0)), by rw [r.length]; exact k.here m (.int _) h⟩
theorem reps_bl {Z : Addr → Prop} {H : Hp} : ∀ {vs : List V} {bs : List Bool}, Reps Cs Z H vs (bs.map D.bl) → vs = bs.map V.bl
  | _, [], .nil => rfl
  | _, b :: bs, .cons h r => by
    cases h
    rw [reps_bl (bs := bs) r]
    rfl
theorem wc_all {bs : List Bool} (hc : X.calm = true) (h : Φ (.bl (bs.all id)) M) : WC Cs X (.builtin "all") [.lst (bs.map D.bl)] M Φ := wc_of (cr_all hc) fun H vs Q m rs k => by
  obtain ⟨v, rfl, r⟩ := reps1 rs
  cases r with
  | lst hz hr r =>
    have e := reps_bl r
    subst e
    exact ⟨_, bs, rfl, .inl hr, k.here m (.bl _) h⟩
theorem wc_any {bs : List Bool} (hc : X.calm = true) (h : Φ (.bl (bs.any id)) M) : WC Cs X (.builtin "any") [.lst (bs.map D.bl)] M Φ := wc_of (cr_any hc) fun H vs Q m rs k => by
  obtain ⟨v, rfl, r⟩ := reps1 rs
  cases r with
  | lst hz hr r =>
    have e := reps_bl r
    subst e
    exact ⟨_, bs, rfl, .inl hr, k.here m (.bl _) h⟩
/-- list(range(n)) -/
theorem reps_up {Z : Addr → Prop} {H : Hp} : ∀ (f : Nat → Nat) (l : List Nat), Reps Cs Z H (l.map fun i => V.int ((f i : Nat) : Int)) (l.map fun i => D.int ((f i : Nat) : Int))
  | _, [] => .nil
  | f, i :: l => .cons (.int _) (reps_up f l)
theorem we_listR {p' q' : Pos} (hc : X.calm = true) (hg : Gl X "list") (hm : X.mg "list" = none) (hg' : Gl X "range") (hm' : X.mg "range" = none) (h : WE Cs X e ρ M fun d M1 => ∃ n : Nat, d = .int (n : Int) ∧ n ≤ 100000 ∧ Φ (.lst (upTo n)) M1)
    (na : starEach [.Call (.Name "range" p') [e] [] q'] X.env = (false, eval (.Call (.Name "range" p') [e] [] q') X.env) :: starEach [] X.env := by rfl) (nb : starEach [e] X.env = (false, eval e X.env) :: starEach [] X.env := by rfl) :
    WE Cs X (.Call (.Name "list" p) [.Call (.Name "range" p') [e] [] q'] [] pos) ρ M Φ :=
  .mk fun F σ H A Q k => (pe_listRg hc hg hm (prg_1 hg' hm' pe_sem nb) na).sem (h.run _ σ H A _ fun v d H1 M1 p1 m1 r1 h1 => by
    obtain ⟨n, rfl, hn, hΦ⟩ := h1
    cases r1
    refine ⟨_, rfl, RgOk.of_le (by omega) (by omega) (by omega) (by omega), fun q hq => ?_⟩
    refine k _ _ _ M1 (p1.trans (post_new hq)) (m1.new hq) (.lst (m1.notZ hq) (.inl upd_same) ?_) hΦ
    have e1 : rgV 0 (n : Int) = (List.range n).map fun i : Nat => V.int ((i : Nat) : Int) := by
      unfold rgV
      have e2 : ((n : Int) - 0).toNat = n := by omega
      rw [e2]
      exact List.map_congr_left fun i _ => by rw [Int.zero_add]
    rw [e1]
    exact reps_up (fun i => i) (List.range n))

/-! ### isinstance -/
def tyD (Cs : Nat → Addr) : D → Value
  | .non => .type "NoneType"
  | .bl _ => .type "bool"
  | .int _ => .type "int"
  | .str _ => .type "str"
  | .tup _ => .type "tuple"
  | .lst _ => .type "list"
  | .obj c _ => .ref (Cs c)
  | .dct _ _ => .type "dict"
  | _ => .none
end
end DL
namespace DL
open PySem PySem.Spec PyProof.Rows L2
section
variable {Cs : Nat → Addr} {F : Addr → Prop} {X : Cx} {ρ : Env} {M : Mem} {a b c e : Expr} {es : List Expr} {pos p apos : Pos} {Φ : D → Mem → Prop} {Ψ : Bool → Mem → Prop} {st : Stmt} {sts rest body : List Stmt} {E : DE} {x f m : Str}
/-- isinstance(x, T), x no instance of an own class -/
theorem wc_isi {d : D} {n : String} {t : Bool} (hd : (match d with | .obj _ _ => false | .ref _ => false | .ty _ => false | .exc _ _ => false | _ => true) = true) (hk : PySem.W.kitOne X.K (tyD Cs d) (.type n) = some t) (h : Φ (.bl t) M) : WC Cs X (.builtin "isinstance") [d, .ty n] M Φ := wc_of call_isi fun H vs Q m rs k => by
  obtain ⟨v, v', rfl, r, r'⟩ := reps2 rs
  cases r'
  refine ⟨v, .ty n, tyD Cs d, .type n, t, rfl, .ty n, ?_, hk, k.here m (.bl _) h⟩
  cases r with
  | non => exact .base .non
  | bl b => exact .base (.bl b)
  | int i => exact .base (.int i)
  | str x => exact .base (.str x)
  | ty n => cases hd
  | ref a => cases hd
  | tup hz hr rs =>
    rcases hr with hr | ⟨o, hr⟩
    · exact .base (.tup hr)
    · exact .fTuple hr
  | lst hz hr rs =>
    rcases hr with hr | ⟨o, hr⟩
    · exact .base (.lst hr)
    · exact .base (.frz hr)
  | dct hz hr hl rs =>
    rcases hr with hr | ⟨o, hr⟩
    · exact .base (.dK hr)
    · exact .fDict hr
  | exc => cases hd
  | obj => cases hd
/-- isinstance(x, C), C an own class, x no instance of an own class -/
theorem wc_isiC {d : D} {C : Addr} {t : Bool} (hd : (match d with | .obj _ _ => false | .ref _ => false | .ty _ => false | .exc _ _ => false | _ => true) = true) (hk : PySem.W.kitOne X.K (tyD Cs d) (.ref C) = some t) (h : Φ (.bl t) M) : WC Cs X (.builtin "isinstance") [d, .ref C] M Φ := wc_of call_isi fun H vs Q m rs k => by
  obtain ⟨v, v', rfl, r, r'⟩ := reps2 rs
  cases r'
  refine ⟨v, .ref C, tyD Cs d, .ref C, t, rfl, .own C, ?_, hk, k.here m (.bl _) h⟩
  cases r with
  | non => exact .base .non
  | bl b => exact .base (.bl b)
  | int i => exact .base (.int i)
  | str x => exact .base (.str x)
  | ty n => cases hd
  | ref a => cases hd
  | tup hz hr rs =>
    rcases hr with hr | ⟨o, hr⟩
    · exact .base (.tup hr)
    · exact .fTuple hr
  | lst hz hr rs =>
    rcases hr with hr | ⟨o, hr⟩
    · exact .base (.lst hr)
    · exact .base (.frz hr)
  | dct hz hr hl rs =>
    rcases hr with hr | ⟨o, hr⟩
    · exact .base (.dK hr)
    · exact .fDict hr
  | exc => cases hd
  | obj => cases hd
/-- isinstance(x, T), x an instance with slots -/
theorem wc_isiS {c : Nat} {ds : List D} {y : D} {u : Value} {t : Bool} (hy : (∃ n, y = .ty n ∧ u = .type n) ∨ (∃ C, y = .ref C ∧ u = .ref C)) (hc : SlX.SCls X.K (Cs c)) (hi : SlX.SIsi X.K (Cs c)) (hk : PySem.W.kitOne X.K (.ref (Cs c)) u = some t) (h : Φ (.bl t) M) : WC Cs X (.builtin "isinstance") [.obj c ds, y] M Φ := wc_of (SlX.call_isiSl u) fun H vs Q m rs k => by
  obtain ⟨v, v', rfl, r, r'⟩ := reps2 rs
  obtain ⟨q, dx, ws, rfl, hsl, _⟩ := rep_slt r
  refine ⟨q, Cs c, dx, _, v', t, rfl, ?_, ?_, hsl, hc, hi, hk, k.here m (.bl _) h⟩
  · rcases hy with ⟨n, rfl, rfl⟩ | ⟨C, rfl, rfl⟩ <;> (cases r'; rfl)
  · rcases hy with ⟨n, rfl, rfl⟩ | ⟨C, rfl, rfl⟩ <;> (cases r'; intro w hw; exact hw)

/-! ### own operators -/
theorem wo_bin {op : Operator} {n k : Nat} {g : Addr} {S : FS} {ds es : List D} (hsf : PySem.W.selfFirst X.K (Cs n) = true) (hs : PySem.W.findIn X.K (.ref (Cs n)) (PySem.dunder op.info.2) = some (some (.ref g))) (hf : PySem.W.isFn X.K (.ref g) = true)
    (Fn : FnD Cs X k g S) (hr : Rm k X.A) (h : S [.obj n ds, .obj n es] M Φ) : WO Cs X (binaryOp op) (.obj n ds) (.obj n es) M Φ := .mk fun F H vx vy m rx ry Q k pins s σ v u I rv ru => by
  obtain ⟨q, dx, ws, rfl, hsl, _⟩ := rep_slt rx
  obtain ⟨q', dx', ws', rfl, hsl', _⟩ := rep_slt ry
  cases rv; cases ru
  exact bin_g (E := E0) hsf hs hf Fn hr pass0 I hsl hsl' ⟨F, _, M, Φ, m, .cons rx (.cons ry .nil), h, k⟩
theorem wo_own {op : CmpOp} {n n' k : Nat} {g : Addr} {S : FS} {ds es : List D} (hop : ∀ a b, compareOp op a b = richCompare op a b) (hn : PySem.W.notFirst X.K (Cs n) (.ref (Cs n')) = true) (hs : PySem.W.findIn X.K (.ref (Cs n)) (cmpInfo op).2.1 = some (some (.ref g))) (hf : PySem.W.isFn X.K (.ref g) = true)
    (Fn : FnD Cs X k g S) (hr : Rm k X.A) (h : S [.obj n ds, .obj n' es] M Φ) : WO Cs X (compareOp op) (.obj n ds) (.obj n' es) M Φ := .mk fun F H vx vy m rx ry Q k pins s σ v u I rv ru => by
  obtain ⟨q, dx, ws, rfl, hsl, _⟩ := rep_slt rx
  obtain ⟨q', dx', ws', rfl, hsl', _⟩ := rep_slt ry
  cases rv; cases ru
  exact cmp_g (E := E0) hop hn hs hf Fn hr pass0 I hsl hsl' ⟨F, _, M, Φ, m, .cons rx (.cons ry .nil), h, k⟩

/-! ### data that Python has, too -/
mutual
def _root_.DL.D.py : D → PyData
  | .non => .none
  | .bl b => .bool b
  | .int i => .int i
  | .str x => .str x
  | .tup ds => .tuple (pys ds)
  | .lst ds => .list (pys ds)
  | _ => .none
def pys : List D → List PyData
  | [] => []
  | d :: ds => d.py :: pys ds
end
mutual
def _root_.DL.D.isPy : D → Bool
  | .non => true
  | .bl _ => true
  | .int _ => true
  | .str _ => true
  | .tup ds => arePy ds
  | .lst ds => arePy ds
  | _ => false
def arePy : List D → Bool
  | [] => true
  | d :: ds => d.isPy && arePy ds
end
mutual
theorem Rep.dp {K : PySem.W.Frag} {Z : Addr → Prop} {H : Hp} : ∀ {v : V} {d : D}, Rep Cs Z H v d → d.isPy = true → Dp K H v d.py
  | _, _, .non, _ => .non
  | _, _, .bl b, _ => .bl b
  | _, _, .int i, _ => .int i
  | _, _, .str x, _ => .str x
  | _, _, .ty n, h => by simp [D.isPy] at h
  | _, _, .ref a, h => by simp [D.isPy] at h
  | _, _, .tup hz hr rs, h => by
    rw [D.py]
    exact .tup (.inl hr) (Reps.dp rs (by rw [D.isPy] at h; exact h))
  | _, _, .lst hz hr rs, h => by
    rw [D.py]
    exact .lst (.inl hr) (Reps.dp rs (by rw [D.isPy] at h; exact h))
  | _, _, .obj _ _ _ _ _, h => by simp [D.isPy] at h
  | _, _, .dct _ _ _ _, h => by simp [D.isPy] at h
  | _, _, .exc _ _ _ _ _, h => by simp [D.isPy] at h
theorem Reps.dp {K : PySem.W.Frag} {Z : Addr → Prop} {H : Hp} : ∀ {vs : List V} {ds : List D}, Reps Cs Z H vs ds → arePy ds = true → DpAll K H vs (pys ds)
  | _, _, .nil, _ => by rw [pys]; exact .nil
  | _, _, .cons h r, q => by
    rw [arePy, Bool.and_eq_true] at q
    rw [pys]
    exact .cons (Rep.dp h q.1) (Reps.dp r q.2)
end
theorem wo_eqD {d d' : D} {k : Nat} (hr : Rm k X.A) (h1 : d.isPy = true) (h2 : d'.isPy = true) (s1 : SeqAt.shaped d.py = true) (s2 : SeqAt.shaped d'.py = true) (h : Φ (.bl (PyData.eqv d.py d'.py)) M) : WO Cs X (compareOp .Eq) d d' M Φ := .mk fun F H vx vy m rx ry Q k =>
  (op_eqD hr.rm.units).sem ⟨_, _, rx.dp h1, ry.dp h2, s1, s2, k.here m (.bl _) h⟩
theorem wo_neD {d d' : D} {k : Nat} (hr : Rm k X.A) (h1 : d.isPy = true) (h2 : d'.isPy = true) (s1 : SeqAt.shaped d.py = true) (s2 : SeqAt.shaped d'.py = true) (h : Φ (.bl (!PyData.eqv d.py d'.py)) M) : WO Cs X (compareOp .NotEq) d d' M Φ := .mk fun F H vx vy m rx ry Q k =>
  (op_neD hr.rm.units).sem ⟨_, _, rx.dp h1, ry.dp h2, s1, s2, k.here m (.bl _) h⟩
end
end DL
namespace DL
open PySem PySem.Spec PyProof.Rows L2
/-! ### repr -/
section
variable {Cs : Nat → Addr} {F : Addr → Prop} {X : Cx} {ρ : Env} {M : Mem} {Φ : D → Mem → Prop}
theorem wc_repr {d : D} {k : Nat} (hr : Rm k X.A) (h1 : d.isPy = true) (h2 : d.py.showable = true) (h3 : d.py.hasDict = false) (h4 : d.py.depth ≤ 60) (h5 : d.py.shown.length ≤ sizeLine) (h : Φ (.str d.py.shown) M) : WC Cs X (.builtin "repr") [d] M Φ := .mk fun F H vs m rs Q k pins s σ us I rv => by
  obtain ⟨v, rfl, r⟩ := reps1 rs
  obtain ⟨u, rfl, ru⟩ := rv.one
  obtain ⟨as, rd⟩ := Dp.reads (X := X) I d.py v u (r.dp h1) ru
  cases r with
  | non =>
    cases ru
    exact P.repr_of_none ⟨.str "None", H, I.tok _, ⟨_, rfl⟩, k.here m (.str _) (by simpa [D.py, PyData.shown] using h)⟩
  | bl b =>
    cases ru
    exact P.repr_of_bool ⟨.str (if b then "True" else "False"), H, I.tok _, ⟨_, rfl⟩, k.here m (.str _) (by simpa [D.py, PyData.shown] using h)⟩
  | int i =>
    obtain ⟨t, rfl⟩ := ru
    exact P.repr_of_int (by simpa [D.py, PyData.showable] using h2) ⟨.str (toString i), H, I.tok _, ⟨_, rfl⟩, k.here m (.str _) (by simpa [D.py, PyData.shown] using h)⟩
  | str x =>
    obtain ⟨t, rfl⟩ := ru
    exact P.repr_of_str ⟨.str (reprText x), H, I.tok _, ⟨_, rfl⟩, k.here m (.str _) (by simpa [D.py, PyData.shown] using h)⟩ (by simpa [D.py, PyData.shown] using h5)
  | ty n => simp [D.isPy] at h1
  | ref a => simp [D.isPy] at h1
  | obj => simp [D.isPy] at h1
  | dct => simp [D.isPy] at h1
  | exc => simp [D.isPy] at h1
  | tup hz hr' rs =>
    cases ru
    refine repr_of_reads' rd h2 (PyData.noDict_hsm h3) hr.gd (by have := hr.rm.units; omega) (fun _ _ z => z) (fun h' u tk hk => ?_) h5
    exact ⟨.str _, H, I.kept hk, ⟨u, rfl⟩, k.here m (.str _) h⟩
  | lst hz hr' rs =>
    cases ru
    refine repr_of_reads' rd h2 (PyData.noDict_hsm h3) hr.gd (by have := hr.rm.units; omega) (fun _ _ z => z) (fun h' u tk hk => ?_) h5
    exact ⟨.str _, H, I.kept hk, ⟨u, rfl⟩, k.here m (.str _) h⟩
end
/-! ### list comprehensions -/
mutual
theorem Rep.less {Cs : Nat → Addr} {Z Z' : Addr → Prop} {H : Hp} (l : ∀ a, Z' a → Z a) : ∀ {v : V} {d : D}, Rep Cs Z H v d → Rep Cs Z' H v d
  | _, _, .non => .non
  | _, _, .bl b => .bl b
  | _, _, .int i => .int i
  | _, _, .str x => .str x
  | _, _, .ty n => .ty n
  | _, _, .ref a => .ref a
  | _, _, .tup hz h r => .tup (fun z => hz (l _ z)) h (Reps.less l r)
  | _, _, .lst hz h r => .lst (fun z => hz (l _ z)) h (Reps.less l r)
  | _, _, .obj hz hx h h2 r => .obj (fun z => hz (l _ z)) (fun z => hx (l _ z)) h h2 (Reps.less l r)
  | _, _, .dct hz h hl r => .dct (fun z => hz (l _ z)) h hl (Reps.less l r)
  | _, _, .exc hz hx h h2 r => .exc (fun z => hz (l _ z)) (fun z => hx (l _ z)) h h2 (Rep.less l r)
theorem Reps.less {Cs : Nat → Addr} {Z Z' : Addr → Prop} {H : Hp} (l : ∀ a, Z' a → Z a) : ∀ {vs : List V} {ds : List D}, Reps Cs Z H vs ds → Reps Cs Z' H vs ds
  | _, _, .nil => .nil
  | _, _, .cons h r => .cons (Rep.less l h) (Reps.less l r)
end
theorem RepO.less {Cs : Nat → Addr} {Z Z' : Addr → Prop} {H : Hp} (l : ∀ a, Z' a → Z a) : ∀ {vs : List (Option V)} {ds : List (Option D)}, RepO Cs Z H vs ds → RepO Cs Z' H vs ds
  | _, _, .nil => .nil
  | _, _, .none r => .none (RepO.less l r)
  | _, _, .some h r => .some (h.less l) (RepO.less l r)
theorem rd_ne {H : Hp} {a p : Addr} {u : HO} (h : Rd H a u) (hp : H p = none) : a ≠ p := by
  rcases h with h | ⟨o, h⟩ <;> exact ne_of_none h hp
theorem rd_upd {H : Hp} {a p : Addr} {u o : HO} (h : Rd H a u) (ne : a ≠ p) : Rd (upd H p o) a u := by
  rcases h with h | ⟨o', h⟩
  · exact .inl (by rw [upd_ne ne]; exact h)
  · exact .inr ⟨o', by rw [upd_ne ne]; exact h⟩
mutual
/-- what is not there is not used -/
theorem Rep.avoid {Cs : Nat → Addr} {Z Z' : Addr → Prop} {H : Hp} {p : Addr} (hp : H p = none) (l : ∀ a, Z' a → Z a ∨ a = p) : ∀ {v : V} {d : D}, Rep Cs Z H v d → Rep Cs Z' H v d
  | _, _, .non => .non
  | _, _, .bl b => .bl b
  | _, _, .int i => .int i
  | _, _, .str x => .str x
  | _, _, .ty n => .ty n
  | _, _, .ref a => .ref a
  | _, _, .tup hz h r => .tup (fun z => (l _ z).elim hz (rd_ne h hp)) h (Reps.avoid hp l r)
  | _, _, .lst hz h r => .lst (fun z => (l _ z).elim hz (rd_ne h hp)) h (Reps.avoid hp l r)
  | _, _, .obj hz hx h h2 r => .obj (fun z => (l _ z).elim hz (ne_of_none h hp)) (fun z => (l _ z).elim hx (ne_of_none h2 hp)) h h2 (Reps.avoid hp l r)
  | _, _, .dct hz h hl r => .dct (fun z => (l _ z).elim hz (rd_ne h hp)) h hl (Reps.avoid hp l r)
  | _, _, .exc hz hx h h2 r => .exc (fun z => (l _ z).elim hz (ne_of_none h hp)) (fun z => (l _ z).elim hx (ne_of_none h2 hp)) h h2 (Rep.avoid hp l r)
theorem Reps.avoid {Cs : Nat → Addr} {Z Z' : Addr → Prop} {H : Hp} {p : Addr} (hp : H p = none) (l : ∀ a, Z' a → Z a ∨ a = p) : ∀ {vs : List V} {ds : List D}, Reps Cs Z H vs ds → Reps Cs Z' H vs ds
  | _, _, .nil => .nil
  | _, _, .cons h r => .cons (Rep.avoid hp l h) (Reps.avoid hp l r)
end
theorem RepO.avoid {Cs : Nat → Addr} {Z Z' : Addr → Prop} {H : Hp} {p : Addr} (hp : H p = Option.none) (l : ∀ a, Z' a → Z a ∨ a = p) : ∀ {vs : List (Option V)} {ds : List (Option D)}, RepO Cs Z H vs ds → RepO Cs Z' H vs ds
  | _, _, .nil => .nil
  | _, _, .none r => .none (RepO.avoid hp l r)
  | _, _, .some h r => .some (h.avoid hp l) (RepO.avoid hp l r)
theorem zne {Z : Addr → Prop} {a p : Addr} (hz : ¬ Z a) (hp : Z p) : a ≠ p := fun z => hz (by rw [z]; exact hp)
mutual
theorem Rep.upd {Cs : Nat → Addr} {Z : Addr → Prop} {H : Hp} {p : Addr} {o : HO} (hp : Z p) : ∀ {v : V} {d : D}, Rep Cs Z H v d → Rep Cs Z (upd H p o) v d
  | _, _, .non => .non
  | _, _, .bl b => .bl b
  | _, _, .int i => .int i
  | _, _, .str x => .str x
  | _, _, .ty n => .ty n
  | _, _, .ref a => .ref a
  | _, _, .tup hz h r => .tup hz (rd_upd h (fun z => hz (z ▸ hp))) (Reps.upd hp r)
  | _, _, .lst hz h r => .lst hz (rd_upd h (fun z => hz (z ▸ hp))) (Reps.upd hp r)
  | _, _, .obj hz hx h h2 r => .obj hz hx ((upd_ne (zne hz hp)).trans h) ((upd_ne (zne hx hp)).trans h2) (Reps.upd hp r)
  | _, _, .dct hz h hl r => .dct hz (rd_upd h (fun z => hz (z ▸ hp))) hl (Reps.upd hp r)
  | _, _, .exc hz hx h h2 r => .exc hz hx ((upd_ne (zne hz hp)).trans h) ((upd_ne (zne hx hp)).trans h2) (Rep.upd hp r)
theorem Reps.upd {Cs : Nat → Addr} {Z : Addr → Prop} {H : Hp} {p : Addr} {o : HO} (hp : Z p) : ∀ {vs : List V} {ds : List D}, Reps Cs Z H vs ds → Reps Cs Z (upd H p o) vs ds
  | _, _, .nil => .nil
  | _, _, .cons h r => .cons (Rep.upd hp h) (Reps.upd hp r)
end
theorem RepO.upd {Cs : Nat → Addr} {Z : Addr → Prop} {H : Hp} {p : Addr} {o : HO} (hp : Z p) : ∀ {vs : List (Option V)} {ds : List (Option D)}, RepO Cs Z H vs ds → RepO Cs Z (L2.upd H p o) vs ds
  | _, _, .nil => .nil
  | _, _, .none r => .none (RepO.upd hp r)
  | _, _, .some h r => .some (h.upd hp) (RepO.upd hp r)
/-- p is hidden from now on -/
def Hid (F : Addr → Prop) (p : Addr) : Addr → Prop := fun a => F a ∨ a = p
section
variable {Cs : Nat → Addr} {F : Addr → Prop} {X : Cx} {ρ : Env} {M M1 : Mem} {H H1 : Hp} {q : Addr} {o : HO}
theorem zf_hid {a : Addr} (h : Zf (Hid F q) M a) : Zf F M a ∨ a = q := by
  rcases h with (h | h) | h
  · exact .inl (.inl h)
  · exact .inr h
  · exact .inl (.inr h)
theorem MemAt.hide (m : MemAt Cs F M H) (hq : H q = none) : MemAt Cs (Hid F q) M (upd H q o) := by
  have hM := m.old hq
  have z : Zf (Hid F q) M q := .inl (.inr rfl)
  refine ⟨fun a n e => ?_, fun a h => ?_⟩
  · have w := m.at_ a n e
    have ne : a ≠ q := fun y => by rw [y, hM] at e; cases e
    cases n with
    | lst ds =>
      obtain ⟨vs, e1, r⟩ := w
      exact ⟨vs, by rw [upd_ne ne]; exact e1, (r.avoid hq fun _ => zf_hid).upd z⟩
    | slt c dx os =>
      obtain ⟨n1, n2, vs, hs, r⟩ := w
      refine ⟨n1, n2, vs, ?_, (r.avoid hq fun _ => zf_hid).upd z⟩
      rcases hs with ⟨z1, z2⟩ | ⟨z1, z2⟩
      · exact .inl ⟨by rw [upd_ne ne]; exact z1, z2⟩
      · exact .inr ⟨by rw [upd_ne ne]; exact z1, by rw [upd_ne (fun y => by rw [y, hM] at n2; cases n2)]; exact z2⟩
    | aux y =>
      obtain ⟨o', e1⟩ := w
      exact ⟨o', by rw [upd_ne ne]; exact e1⟩
    | dct ks ds =>
      obtain ⟨vs, e1, hl, r⟩ := w
      exact ⟨vs, by rw [upd_ne ne]; exact e1, hl, (r.avoid hq fun _ => zf_hid).upd z⟩
    | ins c dx ns ds =>
      obtain ⟨n1, n2, vs, e1, e2, hl, r⟩ := w
      exact ⟨n1, n2, vs, by rw [upd_ne ne]; exact e1, by rw [upd_ne (fun y => by rw [y, hM] at n2; cases n2)]; exact e2, hl, (r.avoid hq fun _ => zf_hid).upd z⟩
  · rcases h with h | h
    · obtain ⟨z1, z2⟩ := m.ff a h
      refine ⟨z1, ?_⟩
      have ne : a ≠ q := fun y => z2 (by rw [y]; exact hq)
      rw [upd_ne ne]
      exact z2
    · subst h
      exact ⟨hM, by rw [upd_same]; exact fun y => nomatch y⟩
theorem MemAt.upd (m : MemAt Cs F M H) (hq : F q) : MemAt Cs F M (upd H q o) := by
  have hM := (m.ff q hq).1
  have z : Zf F M q := .inl hq
  refine ⟨fun a n e => ?_, fun a h => ?_⟩
  · have w := m.at_ a n e
    have ne : a ≠ q := fun y => by rw [y, hM] at e; cases e
    cases n with
    | lst ds =>
      obtain ⟨vs, e1, r⟩ := w
      exact ⟨vs, by rw [upd_ne ne]; exact e1, r.upd z⟩
    | slt c dx os =>
      obtain ⟨n1, n2, vs, hs, r⟩ := w
      refine ⟨n1, n2, vs, ?_, r.upd z⟩
      rcases hs with ⟨z1, z2⟩ | ⟨z1, z2⟩
      · exact .inl ⟨by rw [upd_ne ne]; exact z1, z2⟩
      · exact .inr ⟨by rw [upd_ne ne]; exact z1, by rw [upd_ne (fun y => by rw [y, hM] at n2; cases n2)]; exact z2⟩
    | aux y =>
      obtain ⟨o', e1⟩ := w
      exact ⟨o', by rw [upd_ne ne]; exact e1⟩
    | dct ks ds =>
      obtain ⟨vs, e1, hl, r⟩ := w
      exact ⟨vs, by rw [upd_ne ne]; exact e1, hl, r.upd z⟩
    | ins c dx ns ds =>
      obtain ⟨n1, n2, vs, e1, e2, hl, r⟩ := w
      exact ⟨n1, n2, vs, by rw [upd_ne ne]; exact e1, by rw [upd_ne (fun y => by rw [y, hM] at n2; cases n2)]; exact e2, hl, r.upd z⟩
  · obtain ⟨z1, z2⟩ := m.ff a h
    refine ⟨z1, ?_⟩
    by_cases y : a = q
    · rw [y, upd_same]; exact fun y => nomatch y
    · rw [upd_ne y]; exact z2
theorem MemAt.show (m : MemAt Cs (Hid F q) M H) : MemAt Cs F M H := by
  have l : ∀ a, Zf F M a → Zf (Hid F q) M a := fun a z => z.elim (fun y => .inl (.inl y)) .inr
  refine ⟨fun a n e => ?_, fun a h => m.ff a (.inl h)⟩
  have w := m.at_ a n e
  cases n with
  | lst ds =>
    obtain ⟨vs, e1, r⟩ := w
    exact ⟨vs, e1, r.less l⟩
  | slt c dx os =>
    obtain ⟨n1, n2, vs, hs, r⟩ := w
    exact ⟨n1, n2, vs, hs, r.less l⟩
  | aux y => exact w
  | dct ks ds =>
    obtain ⟨vs, e1, hl, r⟩ := w
    exact ⟨vs, e1, hl, r.less l⟩
  | ins c dx ns ds =>
    obtain ⟨n1, n2, vs, e1, e2, hl, r⟩ := w
    exact ⟨n1, n2, vs, e1, e2, hl, r.less l⟩
/-! the slots of a comprehension's own names -/
def wipeE (ρ : Env) : List Nat → Env
  | [] => ρ
  | v :: vs => (wipeE ρ vs).set v none
theorem wipe_get (σ : L2.St) (i : Nat) : ∀ vs : List Nat, (wipe σ vs)[i]? = if i ∈ vs then (σ[i]?).map fun _ => none else σ[i]?
  | [] => by simp [wipe]
  | v :: vs => by
    unfold wipe
    have ih := wipe_get σ i vs
    by_cases h : v = i
    · subst h
      rw [if_pos List.mem_cons_self, List.getElem?_set]
      simp only [if_pos]
      rw [wipe_length]
      by_cases hl : v < σ.length
      · rw [if_pos hl, List.getElem?_eq_getElem hl]; rfl
      · rw [if_neg hl, List.getElem?_eq_none_iff.mpr (by omega)]; rfl
    · rw [List.getElem?_set_ne h, ih]
      by_cases h2 : i ∈ vs
      · rw [if_pos h2, if_pos (List.mem_cons_of_mem _ h2)]
      · rw [if_neg h2, if_neg (fun z => (List.mem_cons.mp z).elim (fun y => h y.symm) h2)]
theorem wipeE_get (ρ : Env) (i : Nat) : ∀ vs : List Nat, (wipeE ρ vs)[i]? = if i ∈ vs then (ρ[i]?).map fun _ => none else ρ[i]?
  | [] => by simp [wipeE]
  | v :: vs => by
    unfold wipeE
    have ih := wipeE_get ρ i vs
    have hlen : (wipeE ρ vs).length = ρ.length := by
      clear ih
      induction vs with
      | nil => rfl
      | cons w ws ihw => unfold wipeE; rw [List.length_set, ihw]
    by_cases h : v = i
    · subst h
      rw [if_pos List.mem_cons_self, List.getElem?_set]
      simp only [if_pos]
      rw [hlen]
      by_cases hl : v < ρ.length
      · rw [if_pos hl, List.getElem?_eq_getElem hl]; rfl
      · rw [if_neg hl, List.getElem?_eq_none_iff.mpr (by omega)]; rfl
    · rw [List.getElem?_set_ne h, ih]
      by_cases h2 : i ∈ vs
      · rw [if_pos h2, if_pos (List.mem_cons_of_mem _ h2)]
      · rw [if_neg h2, if_neg (fun z => (List.mem_cons.mp z).elim (fun y => h y.symm) h2)]
theorem wipeE_length (ρ : Env) : ∀ vs : List Nat, (wipeE ρ vs).length = ρ.length
  | [] => rfl
  | v :: vs => by unfold wipeE; rw [List.length_set, wipeE_length ρ vs]
theorem wipe_set {σ : L2.St} {vs : List Nat} {j : Nat} {v : Option V} {τ : L2.St} (hj : j ∈ vs) (h : wipe τ vs = wipe σ vs) : wipe (τ.set j v) vs = wipe σ vs := by
  rw [← h]
  apply List.ext_getElem?
  intro i
  rw [wipe_get, wipe_get]
  by_cases hi : i ∈ vs
  · rw [if_pos hi, if_pos hi]
    by_cases hji : j = i
    · subst hji
      rw [List.getElem?_set]
      simp only [if_pos]
      by_cases hl : j < τ.length
      · rw [if_pos hl, List.getElem?_eq_getElem hl]; rfl
      · rw [if_neg hl, List.getElem?_eq_none_iff.mpr (by omega)]
    · rw [List.getElem?_set_ne hji]
  · rw [if_neg hi, if_neg hi, List.getElem?_set_ne (show j ≠ i from fun z => hi (by rw [← z]; exact hj))]
theorem wipe_wipe (σ : L2.St) (vs : List Nat) : wipe (wipe σ vs) vs = wipe σ vs := by
  apply List.ext_getElem?
  intro i
  rw [wipe_get, wipe_get]
  by_cases hi : i ∈ vs
  · rw [if_pos hi, if_pos hi]
    cases σ[i]? <;> rfl
  · rw [if_neg hi, if_neg hi]
theorem At.wipe {σ : L2.St} (A : At Cs F M H σ ρ) (vs : List Nat) : At Cs F M H (wipe σ vs) (wipeE ρ vs) :=
  ⟨A.mem, by rw [wipe_length, wipeE_length, A.len], fun i d e => by
    rw [wipeE_get] at e
    by_cases hi : i ∈ vs
    · rw [if_pos hi] at e
      cases h : ρ[i]? with
      | none => rw [h] at e; cases e
      | some o => rw [h] at e; cases e
    · rw [if_neg hi] at e
      obtain ⟨v, h1, h2⟩ := A.env i d e
      exact ⟨v, by rw [wipe_get, if_neg hi]; exact h1, h2⟩⟩
theorem At.hide {σ : L2.St} (A : At Cs F M H σ ρ) (hq : H q = none) : At Cs (Hid F q) M (upd H q o) σ ρ :=
  ⟨A.mem.hide hq, A.len, fun i d e => let ⟨v, h1, h2⟩ := A.env i d e; ⟨v, h1, (h2.avoid hq fun _ => zf_hid).upd (.inl (.inr rfl))⟩⟩
end
end DL
namespace DL
open PySem PySem.Spec PyProof.Rows L2
/-- the context of a comprehension's block -/
abbrev bX (X : Cx) (scope : Scope) (s : Shared) (H : Hp) (C : Addr) (cl : List (Str × Addr)) (fp : List Addr) : Cx := X.blk s H scope (compEnvC scope cl C X.env) fp
def semEB (X : Cx) (scope : Scope) (e : Expr) : TE := fun σ H Q => ∀ s0 H0 C cl fp, semE (bX X scope s0 H0 C cl fp) e σ H Q
def semTB (X : Cx) (scope : Scope) (e : Expr) : TT := fun σ H Q => ∀ s0 H0 C cl fp, semT (bX X scope s0 H0 C cl fp) e σ H Q
section
variable {X : Cx} {scope : Scope} {e : Expr}
theorem pe_semB (s0 : Shared) (H0 : Hp) (C : Addr) (cl : List (Str × Addr)) (fp : List Addr) : PE (bX X scope s0 H0 C cl fp) e (semEB X scope e) := ⟨fun pins s _ _ _ I h => h s0 H0 C cl fp pins s I⟩
theorem pt_semB (s0 : Shared) (H0 : Hp) (C : Addr) (cl : List (Str × Addr)) (fp : List Addr) : PT (bX X scope s0 H0 C cl fp) e (semTB X scope e) := ⟨fun pins s _ _ _ I h => h s0 H0 C cl fp pins s I⟩
end
/-- what a target does with a datum, among the own names vs -/
def TgR (Cs : Nat → Addr) (g : TG) (vs : List Nat) (step : D → Env → (Env → Prop) → Prop) : Prop := ∀ {F : Addr → Prop} {M : Mem} {H : Hp} {σ0 σ : L2.St} {ρ : Env} {v : V} {d : D} (K : Env → Prop) (Q : L2.St → Hp → Prop),
  At Cs F M H σ ρ → Rep Cs (Zf F M) H v d → wipe σ vs = wipe σ0 vs → step d ρ K → (∀ σ' ρ', At Cs F M H σ' ρ' → wipe σ' vs = wipe σ0 vs → K ρ' → Q σ' H) → g v σ H Q
def stN (j : Nat) : D → Env → (Env → Prop) → Prop := fun d ρ K => K (ρ.set j (some d))
theorem tg_name {Cs : Nat → Addr} {j : Nat} {vs : List Nat} (hj : j ∈ vs) : TgR Cs (gName j) vs (stN j) := fun K Q A r hw h k => k _ _ (A.set j r) (wipe_set hj hw) h
def stT (i j : Nat) : D → Env → (Env → Prop) → Prop := fun d ρ K => ∃ d1 d2, d = .tup [d1, d2] ∧ K ((ρ.set i (some d1)).set j (some d2))
theorem tg_two {Cs : Nat → Addr} {Kf : PySem.W.Frag} {i j : Nat} {vs : List Nat} (hi : i ∈ vs) (hj : j ∈ vs) : TgR Cs (gTup Kf 2 (gCons (gName i) (gCons (gName j) gNil))) vs (stT i j) := fun K Q A r hw h k => by
  obtain ⟨d1, d2, rfl, h⟩ := h
  cases r with
  | tup hz hr rs =>
    obtain ⟨v1, v2, rfl, r1, r2⟩ := reps2 rs
    exact ⟨_, _, rfl, .inl hr, rfl, v1, _, rfl, v2, _, rfl, rfl, k _ _ ((A.set i r1).set j r2) (wipe_set hj (wipe_set hi hw)) h⟩
section
variable {Cs : Nat → Addr} {F : Addr → Prop} {X : Cx} {ρ : Env} {M : Mem} {a b c e elt tg : Expr} {es : List Expr} {pos p apos : Pos} {Φ : D → Mem → Prop} {scope : Scope} {vs : List Nat} {step : D → Env → (Env → Prop) → Prop} {g : TG}
/-- what a turn does: the items ds, the list so far -/
def LcI (Cs : Nat → Addr) (X : Cx) (scope : Scope) (elt : Expr) (vs : List Nat) (step : D → Env → (Env → Prop) → Prop) (ds : List D) (ρ : Env) (M : Mem) (Φ : D → Mem → Prop) : Prop :=
  ds.length ≤ 40000 ∧ ∃ I : Nat → List D → Mem → Prop, I 0 [] M ∧ (∀ i d acc M', ds[i]? = some d → acc.length = i → I i acc M' → step d (wipeE ρ vs) fun ρ2 => ∀ s0 H0 C cl fp, WE Cs (bX X scope s0 H0 C cl fp) elt ρ2 M' fun y M3 => I (i + 1) (acc ++ [y]) M3) ∧ ∀ acc M', acc.length = ds.length → I ds.length acc M' → Φ (.lst acc) M'
def LcP (Cs : Nat → Addr) (F : Addr → Prop) (M1 : Mem) (H1 : Hp) (q : Addr) (I : Nat → List D → Mem → Prop) (i : Nat) (H' : Hp) : Prop :=
  ∃ acc ws M', Post M1 H1 M' H' ∧ MemAt Cs (Hid F q) M' H' ∧ H' q = some (.lst ws) ∧ Reps Cs (Zf (Hid F q) M') H' ws acc ∧ acc.length = i ∧ I i acc M'
theorem lc_start {M1 : Mem} {H1 : Hp} {q : Addr} {I : Nat → List D → Mem → Prop} (m : MemAt Cs F M1 H1) (hq : H1 q = none) (h : I 0 [] M1) : LcP Cs F M1 H1 q I 0 (upd H1 q (.lst [])) :=
  ⟨[], [], M1, post_new hq, m.hide hq, upd_same, .nil, rfl, h⟩
theorem lc_end {M1 : Mem} {H1 H' : Hp} {q : Addr} {I : Nat → List D → Mem → Prop} {n : Nat} {Q : VK} (m : MemAt Cs F M1 H1) (hq : H1 q = none) (k : Res Cs F M1 H1 Φ Q) (h : LcP Cs F M1 H1 q I n H') (hd : ∀ acc M', acc.length = n → I n acc M' → Φ (.lst acc) M') : Q (.ref q) H' := by
  obtain ⟨acc, ws, M', p', m', e, r, hl, hi⟩ := h
  refine k _ _ H' M' p' m'.show (.lst (fun z => ?_) (.inl e) (r.less fun a z => z.elim (fun y => .inl (.inl y)) .inr)) (hd acc M' hl hi)
  rcases z with z | z
  · exact (m.ff q z).2 hq
  · exact z (m'.ff q (.inr rfl)).1
theorem lc_turn {M1 : Mem} {H1 H' : Hp} {q : Addr} {I : Nat → List D → Mem → Prop} {i : Nat} {σ : L2.St} {v : V} {d : D} (A : At Cs F M1 H1 σ ρ) (hq : H1 q = none) (tgr : TgR Cs g vs step) (hn : i < 50000)
    (h : LcP Cs F M1 H1 q I i H') (rv : ∀ M', Post M1 H1 M' H' → Rep Cs (Zf (Hid F q) M') H' v d)
    (hs : ∀ acc M', acc.length = i → I i acc M' → step d (wipeE ρ vs) fun ρ2 => ∀ s0 H0 C cl fp, WE Cs (bX X scope s0 H0 C cl fp) elt ρ2 M' fun y M3 => I (i + 1) (acc ++ [y]) M3) :
    g v (wipe σ vs) H' fun σ2 H2 => wipe σ2 vs = wipe σ vs ∧ tYes σ2 H2 fun b H3 => if b = true then semEB X scope elt σ2 H3 fun y H4 => ∃ acc, H4 q = some (.lst acc) ∧ acc.length < sizeLine ∧ LcP Cs F M1 H1 q I (i + 1) (upd H4 q (.lst (acc ++ [y]))) else LcP Cs F M1 H1 q I (i + 1) H3 := by
  obtain ⟨acc, ws, M', p', m', e, r, hl, hi⟩ := h
  have A' : At Cs (Hid F q) M' H' (wipe σ vs) (wipeE ρ vs) := by
    have A1 := (A.hide (o := .lst ws) hq).wipe vs
    have p1 : Post M1 (upd H1 q (.lst ws)) M' H' := by
      refine ⟨fun b o hb ho => ?_, fun b hb => ?_⟩
      · by_cases z : b = q
        · subst z
          rw [upd_same] at ho
          cases ho
          exact .inl e
        · rw [upd_ne z] at ho
          exact p'.ex b o hb ho
      · by_cases z : b = q
        · subst z
          exact absurd (m'.ff b (.inr rfl)).1 hb
        · rcases p'.new b hb with y | y
          · exact .inl y
          · exact .inr (by rw [upd_ne z]; exact y)
    exact A1.go p1 m'
  refine tgr _ _ A' (rv M' p') (wipe_wipe σ vs) (hs acc M' hl hi) fun σ2 ρ2 A2 hw hW => ⟨hw, ?_⟩
  unfold tYes
  dsimp only
  rw [if_pos rfl]
  intro s0 H0 C cl fp
  refine (hW s0 H0 C cl fp).run _ σ2 H' A2 _ fun y dy H4 M4 p4 m4 r4 h4 => ?_
  have e4 : H4 q = some (.lst ws) := p4.keep (m'.ff q (.inr rfl)).1 e fun _ z => nomatch z
  have zq : Zf (Hid F q) M4 q := .inl (.inr rfl)
  have rs4 := r.go p4
  refine ⟨ws, e4, by rw [r.length, hl]; exact Nat.lt_of_lt_of_le hn (by decide), acc ++ [dy], ws ++ [y], M4, ?_, m4.upd (.inr rfl), upd_same, (rs4.append (.cons r4 .nil)).upd zq, by rw [List.length_append, hl]; rfl, h4⟩
  have pp := p'.trans p4
  exact ⟨fun b o hb ho => by rw [upd_ne (ne_of_none ho hq)]; exact pp.ex b o hb ho, pp.new⟩
/-- [elt for tg in range(e)] -/
theorem we_lcR {p' q' : Pos} {own : List (Str × Nat)} (hc : X.calm = true) (hN : X.N.Nodup) (hg : Gl X "range") (hm : X.mg "range" = none) (ok : BlkOk X.N X.env.scope scope own)
    (hG : ∀ (s : Shared) (H : Hp) (C : Addr) (cl : List (Str × Addr)) (fp : List Addr), PG (bX X scope s H C cl fp) tg g) (tgr : TgR Cs g (own.map (·.2)) step)
    (h : WE Cs X e ρ M fun x M1 => ∃ n : Nat, x = .int (n : Int) ∧ LcI Cs X scope elt (own.map (·.2)) step (upTo n) ρ M1 Φ)
    (hs : ∀ x, foldedSetIterable (.Call (.Name "range" p') [e] [] q') X.env x = pure x := by intro _; rfl) (hst : starEach [e] X.env = [(false, eval e X.env)] := by rfl) :
    WE Cs X (.ListComp elt [⟨tg, .Call (.Name "range" p') [e] [] q', [], 0⟩] scope pos) ρ M Φ :=
  .mk fun F σ H A Q k => (pe_lc hc hN (pi_range1 hg hm (pa_cons pe_sem pa_nil hst) hst) ok hG (fun _ _ _ _ _ => pts_nil) pe_semB hs).sem (h.run _ σ H A _ fun v d H1 M1 p1 m1 r1 h1 => by
    obtain ⟨n, rfl, hl, I, h0, ht, hd⟩ := h1
    cases r1
    have en : (upTo n).length = n := by unfold upTo; rw [List.length_map, List.length_range]
    rw [en] at hl hd
    have A1 := A.go p1 m1
    refine ⟨(n : Int), rfl, by omega, by omega, fun q hq => lc_range (lo := 0) (n := (n : Int).toNat) (LcP Cs F M1 H1 q I) (lc_start m1 hq h0) ?_ fun H' h' => lc_end m1 hq (k.from p1) h' (by
      have e : (n : Int).toNat = n := by omega
      rw [e]; exact hd)⟩
    intro i H' hi h'
    have hi' : i < n := by omega
    have e0 : (0 : Int) + (i : Int) = (i : Int) := Int.zero_add _
    rw [e0]
    exact lc_turn A1 hq tgr (by omega) h' (fun _ _ => .int _) (fun acc M' hl' hi2 => ht i (.int (i : Int)) acc M' (by unfold upTo; rw [List.getElem?_map, List.getElem?_range hi']; rfl) hl' hi2))
/-- [elt for tg in list] -/
theorem we_lcL {own : List (Str × Nat)} (hc : X.calm = true) (hN : X.N.Nodup) (ok : BlkOk X.N X.env.scope scope own)
    (hG : ∀ (s : Shared) (H : Hp) (C : Addr) (cl : List (Str × Addr)) (fp : List Addr), PG (bX X scope s H C cl fp) tg g) (tgr : TgR Cs g (own.map (·.2)) step)
    (h : WE Cs X e ρ M fun x M1 => ∃ ds, x = .lst ds ∧ LcI Cs X scope elt (own.map (·.2)) step ds ρ M1 Φ)
    (hs : ∀ x, foldedSetIterable e X.env x = pure x := by intro _; rfl) : WE Cs X (.ListComp elt [⟨tg, e, [], 0⟩] scope pos) ρ M Φ :=
  .mk fun F σ H A Q k => (pe_lc hc hN (pi_list pe_sem) ok hG (fun _ _ _ _ _ => pts_nil) pe_semB hs).sem (h.run _ σ H A _ fun v d H1 M1 p1 m1 r1 h1 => by
    obtain ⟨ds, rfl, hl, I, h0, ht, hd⟩ := h1
    cases r1 with
    | @lst al vl _ hz hr rs =>
      have A1 := A.go p1 m1
      refine ⟨_, rfl, ⟨_, .inl hr⟩, fun q hq => lc_list (xs := vl) (LcP Cs F M1 H1 q I) (lc_start m1 hq h0) ?_ ?_ fun H' h' => lc_end m1 hq (k.from p1) h' (by rw [rs.length]; exact hd)⟩
      · rintro i H' _ ⟨acc, ws, M', p', _⟩
        exact .inl (rd_ex p' hz hr).1
      · intro i x H' hi h'
        obtain ⟨d, hd', rd⟩ := rs.getV hi
        have hn := (List.getElem?_eq_some_iff.mp hd').1
        refine lc_turn A1 hq tgr (by omega) h' (d := d) (fun M' p' => ?_) (fun acc M' hl' hi2 => ht i d acc M' hd' hl' hi2)
        exact ((rd.avoid hq (Z' := Zf (Hid F q) M1) fun _ => zf_hid).go p'))
theorem we_lcT {own : List (Str × Nat)} (hc : X.calm = true) (hN : X.N.Nodup) (ok : BlkOk X.N X.env.scope scope own)
    (hG : ∀ (s : Shared) (H : Hp) (C : Addr) (cl : List (Str × Addr)) (fp : List Addr), PG (bX X scope s H C cl fp) tg g) (tgr : TgR Cs g (own.map (·.2)) step)
    (h : WE Cs X e ρ M fun x M1 => ∃ ds, x = .tup ds ∧ LcI Cs X scope elt (own.map (·.2)) step ds ρ M1 Φ)
    (hs : ∀ x, foldedSetIterable e X.env x = pure x := by intro _; rfl) : WE Cs X (.ListComp elt [⟨tg, e, [], 0⟩] scope pos) ρ M Φ :=
  .mk fun F σ H A Q k => (pe_lc hc hN (pi_tup pe_sem) ok hG (fun _ _ _ _ _ => pts_nil) pe_semB hs).sem (h.run _ σ H A _ fun v d H1 M1 p1 m1 r1 h1 => by
    obtain ⟨ds, rfl, hl, I, h0, ht, hd⟩ := h1
    cases r1 with
    | @tup al vl _ hz hr rs =>
      have A1 := A.go p1 m1
      refine ⟨_, rfl, ⟨_, .inl hr⟩, fun q hq => lc_tup (xs := vl) (LcP Cs F M1 H1 q I) (lc_start m1 hq h0) ?_ ?_ fun H' h' => lc_end m1 hq (k.from p1) h' (by rw [rs.length]; exact hd)⟩
      · rintro i H' _ ⟨acc, ws, M', p', _⟩
        exact .inl (rd_ex p' hz hr).1
      · intro i x H' hi h'
        obtain ⟨d, hd', rd⟩ := rs.getV hi
        have hn := (List.getElem?_eq_some_iff.mp hd').1
        refine lc_turn A1 hq tgr (by omega) h' (d := d) (fun M' p' => ?_) (fun acc M' hl' hi2 => ht i d acc M' hd' hl' hi2)
        exact ((rd.avoid hq (Z' := Zf (Hid F q) M1) fun _ => zf_hid).go p'))
end
/-! ### a def -/
def startE (N : List Str) (ds : List D) : Env := ds.map some ++ List.replicate (N.length - ds.length) none
theorem at_start {Cs : Nat → Addr} {F : Addr → Prop} {M : Mem} {H : Hp} {N : List Str} {vs : List V} {ds : List D} (m : MemAt Cs F M H) (r : Reps Cs (Zf F M) H vs ds) : At Cs F M H (L2.start N vs) (startE N ds) := by
  refine ⟨m, by unfold L2.start startE; simp only [List.length_append, List.length_map, List.length_replicate, r.length], fun i d e => ?_⟩
  unfold startE at e
  by_cases hi : i < ds.length
  · rw [List.getElem?_append_left (by simpa using hi), List.getElem?_map] at e
    cases h : ds[i]? with
    | none => rw [h] at e; cases e
    | some d' =>
      rw [h] at e
      cases e
      obtain ⟨v, h1, h2⟩ := r.get h
      refine ⟨v, ?_, h2⟩
      unfold L2.start
      rw [List.getElem?_append_left (by rw [List.length_map, r.length]; exact hi), List.getElem?_map, h1]
      rfl
  · rw [List.getElem?_append_right (by simpa using hi), List.getElem?_replicate] at e
    split at e <;> cases e
/-- THE RULE for a def, told of data: dds are the defaults that fill up -/
theorem fn_D {Cs : Nat → Addr} {P : Program} {w : World} {K : PySem.W.Frag} {mg : Str → Option Value} {base : Heap} {k : Nat} {f : Addr} {fd : FuncData} {name qual : Str} {params : Arguments} {body : List Stmt} {scope : Scope} {dvs dws : List V} {kws : List (Str × V)} {ds : List Value}
    {N ps : List Str} {S : FS} (dds : List D) (Fd : FunD K name qual params body scope dvs kws f fd) (Sc : FnScope N ps scope) (hb : Binds K fd ps ds) (hd : Vals dws ds)
    (hdd : ∀ (Z : Addr → Prop) (H : Hp), Reps Cs Z H dws dds) (len : ∀ ds M Φ, S ds M Φ → (ds ++ dds).length = ps.length)
    (hbody : ∀ (cdv : Value) (A : Around) (outer : List PySem.Env) (s : Shared) (H : Hp) (as : List D) (M : Mem) (Φ : D → Mem → Prop), Rm k (cxOf CX0 P w K mg base N qual scope f cdv A outer s H E0).nox.A → S as M Φ →
      WSs Cs (cxOf CX0 P w K mg base N qual scope f cdv A outer s H E0).nox body (startE N (as ++ dds)) M { nx := fun _ M' => Φ .non M', rt := Φ }) :
    FnG P w K mg base CX0 (k + 1) f (spD Cs S) := by
  have G : FnG P w K mg base CX0 (k + 1) f (fun vs H Q E => (fun vs H Q E => ∃ ws, vs = ws ++ dws ∧ spD Cs S ws H Q E) (vs ++ dws) H Q E) := by
    refine fn_g (sp := fun vs H Q E => ∃ ws, vs = ws ++ dws ∧ spD Cs S ws H Q E) Fd Sc hb hd (fun vs H Q E h => ?_) fun cdv A outer s H vs Q E hr h => ?_
    · obtain ⟨ws, e, F, as, M, Φ, m, r, hs, q⟩ := h
      have l := len as M Φ hs
      rw [e, List.length_append, r.length, (hdd (Zf F M) H).length, ← List.length_append]
      exact l
    · obtain ⟨ws, rfl, F, as, M, Φ, m, r, hs, q⟩ := h
      refine ⟨semSs (cxOf CX0 P w K mg base N qual scope f cdv A outer s H E).nox body, PSs.nox pss_sem, ?_⟩
      have hW := hbody cdv A outer s H as M Φ hr hs
      refine fun pins s1 I => hW.run F (L2.start N (ws ++ dws)) H (at_start m (r.append (hdd _ _))) _ ⟨fun σ' ρ' H' M' p A' h => q _ _ H' M' p A'.mem .non h, q, fun _ _ _ _ _ _ h => h.elim, fun _ _ _ _ _ _ h => h.elim⟩ pins s1 I
  exact G.imp fun vs H Q E h => ⟨vs, rfl, h⟩
end DL
namespace DL
open PySem PySem.Spec PyProof.Rows L2
/-! ### facts of the top, read by a Hook -/
inductive Ty where
  | t (n : String) | c (x : Str)
def Ty.v (K : PySem.W.Frag) : Ty → Value
  | .t n => .type n
  | .c x => .ref (He.ga K x)
inductive Fc where
  | glo (x : Str) | free (x : Str) | int (x : Str) (i : Int) | str (x z : Str)
  | scls (x : Str) | slot (x f : Str) (i : Nat) | sisi (x : Str) | meth (x m : Str) | mkr (x : Str) | prop (x f : Str)
  | own (x m : Str) | selfF (x : Str) | notF (x y : Str) | kit (a b : Ty) (r : Bool) | nei (x : Str)
def propB (K : PySem.W.Frag) (C : Addr) (m : Str) : Bool := match PySem.W.recIn K (He.ma K C m) "property" with
  | some (.ref _ :: _) => true
  | _ => false
def Fc.ok (K : PySem.W.Frag) : Fc → Bool
  | .glo x => He.eqO (PySem.W.nsIn K mainGlobals x) (some (some (.ref (He.ga K x)))) && PySem.W.keepIn K (.ref (He.ga K x))
  | .free x => He.eqO (PySem.W.nsIn K mainGlobals x) (some none)
  | .int x i => (He.Fa.int x i).ok K
  | .str x z => (He.Fa.str x z).ok K
  | .scls x => PySem.W.plainGet K (He.ga K x) Str.empty && (PySem.W.isClsIn K (He.ga K x) && (PySem.W.plainOver K (He.ga K x) && He.eqO (PySem.W.findIn K (.ref (He.ga K x)) "__setattr__") (some (some (.builtin "object.__setattr__")))))
  | .slot x f i => He.eqO (PySem.W.findIn K (.ref (He.ga K x)) f) (some (some (.ref (He.ma K (He.ga K x) f)))) && (He.eqO (PySem.W.specialIn K (.ref (He.ma K (He.ga K x) f)) "__get__") (some (some (.builtin "member_descriptor.__get__"))) &&
      (decide (PySem.W.takesIn K (.ref (He.ma K (He.ga K x) f)) = some true) && (decide (PySem.W.typeIn K (.ref (He.ma K (He.ga K x) f)) = some (.type "member_descriptor")) && (decide (PySem.W.slotIn K (He.ma K (He.ga K x) f) (He.ga K x) = some i) && decide (i < 1000)))))
  | .sisi x => He.eqO (PySem.W.findIn K (.ref (He.ga K x)) "__class__") (some (some (.builtin "object.__class__"))) && (He.eqO (PySem.W.specialIn K (.builtin "object.__class__") "__get__") (some (some (.builtin "getset_descriptor.__get__"))) &&
      (decide (PySem.W.takesIn K (.builtin "object.__class__") = some true) && decide (PySem.W.mroIn K (He.ga K x) (.type "object") = some true)))
  | .meth x m => He.eqO (PySem.W.findIn K (.ref (He.ga K x)) m) (some (some (.ref (He.ma K (He.ga K x) m)))) && (PySem.W.isFn K (.ref (He.ma K (He.ga K x) m)) && PySem.W.keepIn K (.ref (He.ma K (He.ga K x) m)))
  | .mkr x => PySem.W.makesIn K (He.ga K x) && (He.eqO (PySem.W.findIn K (.ref (He.ga K x)) "__init__") (some (some (.ref (He.ma K (He.ga K x) "__init__")))) && (PySem.W.isFn K (.ref (He.ma K (He.ga K x) "__init__")) && PySem.W.keepIn K (.ref (He.ga K x))))
  | .prop x f => He.eqO (PySem.W.findIn K (.ref (He.ga K x)) f) (some (some (.ref (He.ma K (He.ga K x) f)))) && (He.eqO (PySem.W.specialIn K (.ref (He.ma K (He.ga K x) f)) "__get__") (some (some (.builtin "property.__get__"))) &&
      (decide (PySem.W.takesIn K (.ref (He.ma K (He.ga K x) f)) = some true) && propB K (He.ga K x) f))
  | .own x m => He.eqO (PySem.W.findIn K (.ref (He.ga K x)) m) (some (some (.ref (He.ma K (He.ga K x) m)))) && PySem.W.isFn K (.ref (He.ma K (He.ga K x) m))
  | .selfF x => PySem.W.selfFirst K (He.ga K x)
  | .notF x y => PySem.W.notFirst K (He.ga K x) (.ref (He.ga K y))
  | .kit a b r => decide (PySem.W.kitOne K (a.v K) (b.v K) = some r)
  | .nei x => He.eqO (PySem.W.findIn K (.ref (He.ga K x)) "__ne__") (some (some (.builtin "object.__ne__"))) && (decide (PySem.W.mroIn K (He.ga K x) (.type "object") = some true) && decide (PySem.W.mroIn K (He.ga K x) (.type "int") = some false))
section
variable {K : PySem.W.Frag} {h : Heap} {mg : Str → Option Value} {x y f m z : Str} {i : Nat}
theorem Fc.glo_ok (X : K.In h) (G : h.Ns mainGlobals mg) (c : (Fc.glo x).ok K = true) : mg x = some (.ref (He.ga K x)) ∧ PySem.W.keepIn K (.ref (He.ga K x)) = true := ⟨PySem.W.mg_of X G (He.eqO_ok (He.ba c).1), (He.ba c).2⟩
theorem Fc.free_ok (X : K.In h) (G : h.Ns mainGlobals mg) (c : (Fc.free x).ok K = true) : mg x = none := PySem.W.mg_none_of X G (He.eqO_ok c)
theorem Fc.int_ok (X : K.In h) (G : h.Ns mainGlobals mg) {n : Int} (c : (Fc.int x n).ok K = true) : ∃ t, mg x = some (.int n t) := He.int_ok X G c
theorem Fc.str_ok (X : K.In h) (G : h.Ns mainGlobals mg) (c : (Fc.str x z).ok K = true) : ∃ t, mg x = some (.str z t) := He.str_ok X G c
theorem Fc.scls_ok (c : (Fc.scls x).ok K = true) : SlX.SCls K (He.ga K x) := by
  obtain ⟨h1, c⟩ := He.ba c
  obtain ⟨h2, c⟩ := He.ba c
  obtain ⟨h3, h4⟩ := He.ba c
  exact ⟨h1, h2, h3, He.eqO_ok h4⟩
theorem Fc.slot_ok (c : (Fc.slot x f i).ok K = true) : SlX.Slot1 K (He.ga K x) f (He.ma K (He.ga K x) f) i := by
  obtain ⟨h1, c⟩ := He.ba c
  obtain ⟨h2, c⟩ := He.ba c
  obtain ⟨h3, c⟩ := He.ba c
  obtain ⟨h4, c⟩ := He.ba c
  obtain ⟨h5, h6⟩ := He.ba c
  exact ⟨He.eqO_ok h1, He.eqO_ok h2, of_decide_eq_true h3, of_decide_eq_true h4, of_decide_eq_true h5, of_decide_eq_true h6⟩
theorem Fc.sisi_ok (c : (Fc.sisi x).ok K = true) : SlX.SIsi K (He.ga K x) := by
  obtain ⟨h1, c⟩ := He.ba c
  obtain ⟨h2, c⟩ := He.ba c
  obtain ⟨h3, h4⟩ := He.ba c
  exact ⟨He.eqO_ok h1, He.eqO_ok h2, of_decide_eq_true h3, of_decide_eq_true h4⟩
theorem Fc.meth_ok (c : (Fc.meth x m).ok K = true) : Meth K (He.ga K x) m (He.ma K (He.ga K x) m) := by
  obtain ⟨h1, c⟩ := He.ba c
  obtain ⟨h2, h3⟩ := He.ba c
  exact ⟨He.eqO_ok h1, h2, h3⟩
theorem Fc.mkr_ok (c : (Fc.mkr x).ok K = true) : Mk K (He.ga K x) (He.ma K (He.ga K x) "__init__") := by
  obtain ⟨h1, c⟩ := He.ba c
  obtain ⟨h2, c⟩ := He.ba c
  obtain ⟨h3, h4⟩ := He.ba c
  exact ⟨h1, He.eqO_ok h2, h3, h4⟩
/-- a property: what wat_prop asks -/
structure PropF (K : PySem.W.Frag) (C : Addr) (f : Str) (q g : Addr) : Prop where
  at_ : PySem.W.findIn K (.ref C) f = some (some (.ref q))
  get : PySem.W.specialIn K (.ref q) "__get__" = some (some (.builtin "property.__get__"))
  tk : PySem.W.takesIn K (.ref q) = some true
  rc : ∃ rest, PySem.W.recIn K q "property" = some (.ref g :: rest)
theorem Fc.prop_ok (c : (Fc.prop x f).ok K = true) : PropF K (He.ga K x) f (He.ma K (He.ga K x) f) (He5.wf K (He.ga K x) "property" f) := by
  obtain ⟨h1, c⟩ := He.ba c
  obtain ⟨h2, c⟩ := He.ba c
  obtain ⟨h3, h4⟩ := He.ba c
  refine ⟨He.eqO_ok h1, He.eqO_ok h2, of_decide_eq_true h3, ?_⟩
  unfold He5.wf
  unfold propB at h4
  split at h4
  · rename_i g r e
    exact ⟨r, by rw [e]⟩
  · cases h4
/-- a class with an own == and no own != -/
structure NeF (K : PySem.W.Frag) (C : Addr) : Prop where
  ne : PySem.W.findIn K (.ref C) "__ne__" = some (some (.builtin "object.__ne__"))
  ob : PySem.W.mroIn K C (.type "object") = some true
  no : PySem.W.mroIn K C (.type "int") = some false
theorem Fc.nei_ok (c : (Fc.nei x).ok K = true) : NeF K (He.ga K x) := by
  obtain ⟨h1, c⟩ := He.ba c
  obtain ⟨h2, h3⟩ := He.ba c
  exact ⟨He.eqO_ok h1, of_decide_eq_true h2, of_decide_eq_true h3⟩
theorem Fc.own_ok (c : (Fc.own x m).ok K = true) : PySem.W.findIn K (.ref (He.ga K x)) m = some (some (.ref (He.ma K (He.ga K x) m))) ∧ PySem.W.isFn K (.ref (He.ma K (He.ga K x) m)) = true := ⟨He.eqO_ok (He.ba c).1, (He.ba c).2⟩
theorem Fc.kit_ok {a b : Ty} {r : Bool} (c : (Fc.kit a b r).ok K = true) : PySem.W.kitOne K (a.v K) (b.v K) = some r := of_decide_eq_true c
end
/-! the built-ins' names -/
theorem bb_abs : bootBuiltins "abs" = some (.builtin "abs") := by decide +kernel
theorem bb_len : bootBuiltins "len" = some (.builtin "len") := by decide +kernel
theorem bb_max : bootBuiltins "max" = some (.builtin "max") := by decide +kernel
theorem bb_min : bootBuiltins "min" = some (.builtin "min") := by decide +kernel
theorem bb_all : bootBuiltins "all" = some (.builtin "all") := by decide +kernel
theorem bb_any : bootBuiltins "any" = some (.builtin "any") := by decide +kernel
theorem bb_isinstance : bootBuiltins "isinstance" = some (.builtin "isinstance") := by decide +kernel
theorem bb_repr : bootBuiltins "repr" = some (.builtin "repr") := by decide +kernel
theorem bb_sum : bootBuiltins "sum" = some (.builtin "sum") := by decide +kernel
theorem bb_sorted : bootBuiltins "sorted" = some (.builtin "sorted") := by decide +kernel
theorem bt_int : bootBuiltins "int" = some (.type "int") := by decide +kernel
theorem bt_bool : bootBuiltins "bool" = some (.type "bool") := by decide +kernel
theorem bt_tuple : bootBuiltins "tuple" = some (.type "tuple") := by decide +kernel
theorem bt_str : bootBuiltins "str" = some (.type "str") := by decide +kernel
theorem bt_list : bootBuiltins "list" = some (.type "list") := by decide +kernel
theorem bt_range : bootBuiltins "range" = some (.type "range") := by decide +kernel
theorem bt_set : bootBuiltins "set" = some (.type "set") := by decide +kernel
theorem bt_dict : bootBuiltins "dict" = some (.type "dict") := by decide +kernel
theorem bt_zip : bootBuiltins "zip" = some (.type "zip") := by decide +kernel
theorem bt_enumerate : bootBuiltins "enumerate" = some (.type "enumerate") := by decide +kernel
/-! the Hook -/
def obsC (fa : List Fc) (fn : List He5.DefA) (K : PySem.W.Frag) : He.AlD := ((fa.all fun f => f.ok K) && fn.all fun d => d.ok K, fn.map fun d => He5.fnA K (d.at_ K))
def valC (fn : List He5.DefA) : He.AlD := (true, fn.map He5.DefA.val)
def SaysC (fa : List Fc) (fn : List He5.DefA) (K : PySem.W.Frag) : Prop := obsC fa fn K = valC fn
def obsCG (n : Nat) (fa : List Fc) (fn : List He5.DefA) (g : Addr → Option Obj) : He.AlD := obsC fa fn (He.frG g (He5.asA g n))
def hookC (n : Nat) (fa : List Fc) (fn : List He5.DefA) : PySem.W.Hook where
  α := He.AlD
  obs := fun s => obsCG n fa fn s.heap.get?
  val := fun _ => valC fn
  says := fun _ h => ∃ K : PySem.W.Frag, K.In h ∧ SaysC fa fn K
  of := fun _ _ e => ⟨_, He.frG_in, e⟩
  keeps := fun _ _ _ ⟨K, hK, c⟩ k => ⟨K, PySem.W.Frag.In.keeps hK k, c⟩
theorem obsCG_eq {n : Nat} {fa : List Fc} {fn : List He5.DefA} {g : Addr → Option Obj} {s : Shared} (h : ∀ a, g a = s.heap.get? a) : obsCG n fa fn g = (hookC n fa fn).obs s := by
  have e : g = s.heap.get? := funext h
  rw [e] <;> rfl
section
variable {fa : List Fc} {fn : List He5.DefA} {K : PySem.W.Frag}
theorem SaysC.fact (c : SaysC fa fn K) (i : Nat) {f : Fc} (h : fa[i]? = some f := by rfl) : f.ok K = true := by
  have c1 := (He.ba (show ((fa.all fun f => f.ok K) && fn.all fun d => d.ok K) = true from congrArg (fun z : He.AlD => z.1) c)).1
  exact List.all_eq_true.mp c1 f (List.mem_of_getElem? h)
theorem SaysC.def_ (c : SaysC fa fn K) (i : Nat) {d : He5.DefA} (h : fn[i]? = some d := by rfl) : ∃ fd, L2.FunD K d.name d.qual d.params d.body d.scope (d.dvs K) (d.kws K) (d.at_ K) fd := by
  have c2 := (He.ba (show ((fa.all fun f => f.ok K) && fn.all fun d => d.ok K) = true from congrArg (fun z : He.AlD => z.1) c)).2
  have e : fn.map (fun d => He5.fnA K (d.at_ K)) = fn.map He5.DefA.val := congrArg (fun z : He.AlD => z.2) c
  have e2 : (fn.map fun d => He5.fnA K (d.at_ K))[i]? = (fn.map He5.DefA.val)[i]? := by rw [e]
  rw [List.getElem?_map, List.getElem?_map, h] at e2
  exact He5.DefA.funD (Option.some.inj e2) (List.all_eq_true.mp c2 d (List.mem_of_getElem? h))
end
end DL
/-! ### gates: they look at the syntax alone -/
namespace DL
open PySem PySem.Spec PyProof.Rows L2
section
variable {Cs : Nat → Addr} {X : Cx} {ρ : Env} {M : Mem} {Φ : D → Mem → Prop} {e a : Expr} {es : List Expr} {kws : List Keyword} {p pos apos : Pos}
theorem at_name (x : Str) (h : WE Cs X (.Name x pos) ρ M Φ) : WE Cs X (.Name x pos) ρ M Φ := h
theorem at_call (x : Str) (h : WE Cs X (.Call (.Name x p) es kws pos) ρ M Φ) : WE Cs X (.Call (.Name x p) es kws pos) ρ M Φ := h
theorem at_attr (x : Str) (h : WE Cs X (.Attribute e x pos) ρ M Φ) : WE Cs X (.Attribute e x pos) ρ M Φ := h
theorem at_meth (x : Str) (h : WE Cs X (.Call (.Attribute a x apos) es kws pos) ρ M Φ) : WE Cs X (.Call (.Attribute a x apos) es kws pos) ρ M Φ := h
theorem at_wat (x : Str) {d : D} (h : WAt Cs X x d M Φ) : WAt Cs X x d M Φ := h
/-- a module's int, its token unknown -/
theorem we_gintE {x : Str} {i : Int} (hm : ∃ t, X.mg x = some (.int i t)) (hg : Gl X x) (h : Φ (.int i) M) (hd : (x == ("__debug__" : Str)) = false := by decide) : WE Cs X (.Name x pos) ρ M Φ := let ⟨_, ht⟩ := hm; we_gint hg ht h hd
theorem we_gstrE {x z : Str} (hm : ∃ t, X.mg x = some (.str z t)) (hg : Gl X x) (h : Φ (.str z) M) (hd : (x == ("__debug__" : Str)) = false := by decide) : WE Cs X (.Name x pos) ρ M Φ := let ⟨t, ht⟩ := hm
  .mk fun F σ H A Q k => (pe_glob (v := .str z) hg ht ⟨t, rfl⟩ hd).sem (k.here A.mem (.str z) h)
/-- a result that is known -/
theorem Res.eq {d d' : D} (e : d = d') (h : Φ d' M) : Φ d M := by rw [e]; exact h
end
/-! ### amounts: fractions in least terms -/
def amt (q : Rat) : D := .obj 0 [.int q.den, .int q.num]
def src (v r : Rat) : D := .obj 1 [amt r, amt v]
def rt (q : Rat) : D := .tup [.int q.num, .int q.den]
structure Bz (B : Nat) (q : Rat) : Prop where
  n : q.num.natAbs < 2 ^ B
  d : q.den < 2 ^ B
theorem Bz.mono {B C : Nat} {q : Rat} (h : Bz B q) (l : B ≤ C) : Bz C q := ⟨Nat.lt_of_lt_of_le h.n (Nat.pow_le_pow_right (by decide) l), Nat.lt_of_lt_of_le h.d (Nat.pow_le_pow_right (by decide) l)⟩
theorem div_num_le (a : Int) (u : Int) : (Rat.divInt a u).num.natAbs ≤ a.natAbs := by
  rw [Rat.num_divInt]
  by_cases h : u = 0
  · subst h; simp
  · have hg : 0 < (u.gcd a : Int) := by
      have := Int.gcd_pos_of_ne_zero_left a h
      omega
    have h1 : (u.sign * a).natAbs = a.natAbs := by
      rw [Int.natAbs_mul, Int.natAbs_sign]
      simp [h]
    rw [Int.natAbs_ediv_of_dvd]
    · rw [h1]; exact Nat.div_le_self _ _
    · exact Int.dvd_trans (Int.gcd_dvd_right _ _) (Int.dvd_mul_left _ _)
theorem div_den_le (a : Int) (u : Int) (h : u ≠ 0) : (Rat.divInt a u).den ≤ u.natAbs := by
  rw [Rat.den_divInt, if_neg h]
  exact Nat.div_le_self _ _
theorem Bz.div {B : Nat} {a u : Int} (h : u ≠ 0) (ha : a.natAbs < 2 ^ B) (hu : u.natAbs < 2 ^ B) : Bz B (Rat.divInt a u) := ⟨Nat.lt_of_le_of_lt (div_num_le a u) ha, Nat.lt_of_le_of_lt (div_den_le a u h) hu⟩
end DL
namespace DL
theorem rat_den_pos (q : Rat) : (0 : Int) < q.den := by have := q.den_pos; omega
theorem rat_den_ne (q : Rat) : (q.den : Int) ≠ 0 := by have := q.den_pos; omega
theorem rat_gcd (q : Rat) : Int.gcd q.num q.den = 1 := by
  have h := q.reduced
  unfold Nat.Coprime at h
  unfold Int.gcd
  simpa using h
theorem rat_div_self (q : Rat) : Rat.divInt q.num q.den = q := Rat.num_divInt_den q
theorem rat_add (p q : Rat) : p + q = Rat.divInt (p.num * q.den + q.num * p.den) (p.den * q.den) := by
  conv => lhs; rw [← Rat.num_divInt_den p, ← Rat.num_divInt_den q]
  rw [Rat.divInt_add_divInt _ _ (rat_den_ne p) (rat_den_ne q)]
theorem rat_mul (p q : Rat) : p * q = Rat.divInt (p.num * q.num) (p.den * q.den) := by
  conv => lhs; rw [← Rat.num_divInt_den p, ← Rat.num_divInt_den q]
  rw [Rat.divInt_mul_divInt]
theorem rat_div (p q : Rat) : p / q = Rat.divInt (p.num * q.den) (p.den * q.num) := by
  rw [Rat.div_def, Rat.inv_def]
  conv => lhs; rw [← Rat.num_divInt_den p]
  rw [Rat.divInt_mul_divInt]
theorem sgn_eq {u : Int} (h : u ≠ 0) : (if u < 0 then (-1 : Int) else 1) = u.sign := by
  by_cases hu : u < 0
  · rw [if_pos hu, Int.sign_eq_neg_one_of_neg hu]
  · rw [if_neg hu, Int.sign_eq_one_of_pos (by omega)]
theorem top_eq {a u : Int} (h : u ≠ 0) : (if u < 0 then (-1 : Int) else 1) * a / (Int.gcd a u : Int) = (Rat.divInt a u).num := by
  rw [Rat.num_divInt, sgn_eq h, Int.gcd_comm]
theorem bot_eq {a u : Int} (h : u ≠ 0) : (if u < 0 then (-1 : Int) else 1) * u / (Int.gcd a u : Int) = ((Rat.divInt a u).den : Int) := by
  rw [Rat.den_divInt, if_neg h, sgn_eq h, Int.gcd_comm]
  have e : u.sign * u = (u.natAbs : Int) := Int.sign_mul_self u
  rw [e]
  rfl
theorem gcd_pos {a u : Int} (h : u ≠ 0) : (0 : Int) < (Int.gcd a u : Int) := by
  have := Int.gcd_pos_of_ne_zero_right a h
  omega
theorem gcd_lt {a u : Int} {B : Nat} (h : u ≠ 0) (hu : u.natAbs < 2 ^ B) : ((Int.gcd a u : Int)).natAbs < 2 ^ B := by
  refine Nat.lt_of_le_of_lt ?_ hu
  show Int.gcd a u ≤ _
  have : Int.gcd a u ∣ u.natAbs := Int.ofNat_dvd.mp (by rw [Int.dvd_natAbs]; exact Int.gcd_dvd_right a u)
  exact Nat.le_of_dvd (by omega) this
theorem mul_lt {B C : Nat} {x y : Int} (hx : x.natAbs < 2 ^ B) (hy : y.natAbs < 2 ^ C) : (x * y).natAbs < 2 ^ (B + C) := L2.wide_lt hx hy
theorem add_lt {B : Nat} {x y : Int} (hx : x.natAbs < 2 ^ B) (hy : y.natAbs < 2 ^ B) : (x + y).natAbs < 2 ^ (B + 1) := by
  have := Int.natAbs_add_le x y
  rw [Nat.pow_succ]
  omega
theorem den_lt {B : Nat} {q : Rat} (h : Bz B q) : ((q.den : Int)).natAbs < 2 ^ B := h.d
theorem Bz.add {B : Nat} {p q : Rat} (hp : Bz B p) (hq : Bz B q) : Bz (2 * B + 1) (p + q) := by
  rw [rat_add]
  have e : 2 * B + 1 = B + B + 1 := by omega
  rw [e]
  refine Bz.div ?_ ?_ ?_
  · exact Int.mul_ne_zero (rat_den_ne p) (rat_den_ne q)
  · exact add_lt (mul_lt hp.n (den_lt hq)) (mul_lt hq.n (den_lt hp))
  · exact Nat.lt_of_lt_of_le (mul_lt (den_lt hp) (den_lt hq)) (Nat.pow_le_pow_right (by decide) (by omega))
theorem Bz.mul {B : Nat} {p q : Rat} (hp : Bz B p) (hq : Bz B q) : Bz (2 * B) (p * q) := by
  rw [rat_mul]
  have e : 2 * B = B + B := by omega
  rw [e]
  exact Bz.div (Int.mul_ne_zero (rat_den_ne p) (rat_den_ne q)) (mul_lt hp.n hq.n) (mul_lt (den_lt hp) (den_lt hq))
theorem Bz.over {B : Nat} {p q : Rat} (h : q ≠ 0) (hp : Bz B p) (hq : Bz B q) : Bz (2 * B) (p / q) := by
  rw [rat_div]
  have e : 2 * B = B + B := by omega
  rw [e]
  refine Bz.div (Int.mul_ne_zero (rat_den_ne p) ?_) (mul_lt hp.n (den_lt hq)) (mul_lt (den_lt hp) hq.n)
  exact fun z => h (Rat.num_eq_zero.mp z)
theorem Bz.one : Bz 1 1 := ⟨by decide, by decide⟩
theorem Bz.zero : Bz 1 0 := ⟨by decide, by decide⟩
theorem num_nonneg {q : Rat} : 0 ≤ q.num ↔ 0 ≤ q := Rat.num_nonneg
theorem share_pos {r l : Rat} (hr : 0 ≤ r) (hl : 0 ≤ l) : 0 < 1 + r * l := by
  have := Rat.mul_nonneg hr hl
  grind
theorem gcd_step {u v : Int} (hu : 0 ≤ u) (hv : 0 < v) : Int.gcd v (u % v) = Int.gcd u v := by
  obtain ⟨a, rfl⟩ := Int.eq_ofNat_of_zero_le hu
  obtain ⟨b, rfl⟩ := Int.eq_ofNat_of_zero_le (Int.le_of_lt hv)
  have e : ((a : Int) % (b : Int)) = ((a % b : Nat) : Int) := by simp
  rw [e]
  show Nat.gcd b (a % b) = Nat.gcd a b
  rw [Nat.gcd_comm b, Nat.gcd_comm a b]
  exact (Nat.gcd_rec b a).symm
end DL
namespace DL
open PySem PySem.Spec PyProof.Rows L2
section
variable {Cs : Nat → Addr} {F : Addr → Prop} {X : Cx} {ρ : Env} {M : Mem} {a b c e : Expr} {es : List Expr} {pos p apos : Pos} {Φ : D → Mem → Prop} {E : DE} {x y z : Str}
/-- x, y, z = a, b, c -/
theorem ws_par3 {px py pz pt pt2 : Pos} {kt k2 : Nat} (i j l : Nat) (hc : X.calm = true) (hN : X.N.Nodup) (hi : X.N[i]? = some x) (hj : X.N[j]? = some y) (hl : X.N[l]? = some z) (hij : i ≠ j) (hil : i ≠ l) (hjl : j ≠ l)
    (hx : X.env.scope.names.lookup x = some .local) (hy : X.env.scope.names.lookup y = some .local) (hz : X.env.scope.names.lookup z = some .local)
    (hw : swappedStores [.Tuple [.Name x px, .Name y py, .Name z pz] kt pt] (.Tuple [a, b, c] k2 pt2) X.env = pure (some [x, y, z]))
    (h : WA Cs X [a, b, c] ρ M fun ds M1 => ∃ d1 d2 d3, ds = [d1, d2, d3] ∧ E.nx (((ρ.set i (some d1)).set j (some d2)).set l (some d3)) M1)
    (hs : swapsWithSole [.Tuple [.Name x px, .Name y py, .Name z pz] kt pt] (.Tuple [a, b, c] k2 pt2) pos.line X.env = pure false := by rfl) : WS Cs X (.Assign [.Tuple [.Name x px, .Name y py, .Name z pz] kt pt] (.Tuple [a, b, c] k2 pt2) pos) ρ M E :=
  .mk fun F σ H A Dn k => (ps_par3 hc hN hi hj hl hij hil hjl hx hy hz pa_sem hw hs).sem (h.run _ σ H A _ fun vs ds H1 M1 p1 m1 r1 h1 => by
    obtain ⟨d1, d2, d3, rfl, h1⟩ := h1
    cases r1 with
    | cons r1 rr =>
      cases rr with
      | cons r2 rr =>
        cases rr with
        | cons r3 rr =>
          cases rr
          exact ⟨_, _, _, rfl, k.nx _ _ H1 M1 p1 ((((A.go p1 m1).set i r1).set j r2).set l r3) h1⟩)
/-- an owned list is frozen -/
theorem frz {H : Hp} {q : Addr} {ds : List D} (m : MemAt Cs F M H) (hM : M q = some (.lst ds)) : Post M H (era M q) H ∧ MemAt Cs F (era M q) H ∧ Rep Cs (Zf F (era M q)) H (.ref q) (.lst ds) := by
  have p3 : Post M H (era M q) H := Post.sub fun b hb => by
    by_cases e1 : b = q
    · rw [e1, era_same] at hb; exact absurd rfl hb
    · rw [era_ne e1] at hb; exact hb
  obtain ⟨vs, e, r⟩ := m.at_ q _ hM
  refine ⟨p3, m.go p3 fun b nn hb => ?_, .lst (fun z => ?_) (.inl e) (r.go p3)⟩
  · have b1 : b ≠ q := fun z => by rw [z, era_same] at hb; cases hb
    rw [era_ne b1] at hb
    refine .inl ⟨hb, fun _ z => z, fun dx' z => ⟨fun _ z => z, ?_⟩⟩
    have w := ((m.at_ b _ hb).aux z).2
    rw [era_ne (fun z => by rw [z, hM] at w; cases w)]
    exact w
  · rcases z with z | z
    · have := (m.ff q z).1
      rw [hM] at this; cases this
    · rw [era_same] at z; exact z rfl
theorem we_frz (h : WE Cs X e ρ M fun d M1 => ∃ q ds, d = .ref q ∧ M1 q = some (.lst ds) ∧ Φ (.lst ds) (era M1 q)) : WE Cs X e ρ M Φ :=
  .mk fun F σ H A Q k => h.run F σ H A Q fun v d H1 M1 p1 m1 r1 h1 => by
    obtain ⟨q, ds, rfl, hM, hΦ⟩ := h1
    cases r1
    obtain ⟨p3, m3, r3⟩ := frz m1 hM
    exact k _ _ H1 _ (p1.trans p3) m3 r3 hΦ
/-- the same for a name that holds it -/
theorem wss_frz {sts : List Stmt} {q : Addr} {ds : List D} (i : Nat) (hi : ρ[i]? = some (some (.ref q))) (hM : M q = some (.lst ds)) (h : WSs Cs X sts (ρ.set i (some (.lst ds))) (era M q) E) : WSs Cs X sts ρ M E :=
  .mk fun F σ H A Dn k => by
    obtain ⟨p3, m3, r3⟩ := frz A.mem hM
    obtain ⟨v, hv, rv⟩ := A.env i _ hi
    cases rv
    have A2 := (A.go p3 m3).set i r3
    have e : σ.set i (some (V.ref q)) = σ := by
      apply List.ext_getElem?
      intro j
      by_cases hj : i = j
      · subst hj
        rw [List.getElem?_set_self (List.getElem?_eq_some_iff.mp hv).1, hv]
      · rw [List.getElem?_set_ne hj]
    rw [e] at A2
    exact h.run F σ H A2 Dn (k.from p3)
end
/-! ### ratios -/
theorem rt_eqv (p q : Rat) : PyData.eqv (rt p).py (rt q).py = decide (p = q) := by
  have e : ∀ x : Rat, (rt x).py = .tuple [.int x.num, .int x.den] := fun x => by simp [rt, D.py, pys]
  have k : p = q ↔ p.num = q.num ∧ p.den = q.den := ⟨fun h => by rw [h]; exact ⟨rfl, rfl⟩, fun h => Rat.ext h.1 h.2⟩
  rw [e, e, Bool.eq_iff_iff, decide_eq_true_iff, k]
  simp [PyData.eqv, PyData.eqvAll]
  intro _
  exact Int.ofNat_inj
theorem rt_shaped (q : Rat) : SeqAt.shaped (rt q).py = true := by simp [rt, D.py, pys]; rfl
theorem rt_isPy (q : Rat) : (rt q).isPy = true := by simp [rt, D.isPy, arePy]
theorem div_le {a b c d : Rat} (hb : 0 < b) (hd : 0 < d) (h : a * d ≤ c * b) : a / b ≤ c / d := by
  apply Rat.not_lt.mp
  intro z
  have h1 : 0 < b * d := Rat.mul_pos hb hd
  have h2 := Rat.mul_lt_mul_of_pos_right z h1
  have e1 : c / d * (b * d) = c * b := by grind
  have e2 : a / b * (b * d) = a * d := by grind
  rw [e1, e2] at h2
  exact absurd h (Rat.not_le.mpr h2)
theorem div_eq {a b c d : Rat} (hb : 0 < b) (hd : 0 < d) : a / b = c / d ↔ a * d = c * b := by
  constructor
  · intro h
    have e1 : a / b * (b * d) = a * d := by grind
    have e2 : c / d * (b * d) = c * b := by grind
    rw [← e1, h, e2]
  · intro h
    have e1 : a / b = (a * d) / (b * d) := by grind
    have e2 : c / d = (c * b) / (b * d) := by grind
    rw [e1, e2, h]
theorem mul_le_r {a b c : Rat} (h : a ≤ b) (hc : 0 ≤ c) : a * c ≤ b * c := Rat.mul_le_mul_of_nonneg_right h hc
/-- whether v behind r is at least as strong as w behind s -/
def strong (v r w s : Rat) : Bool := !decide (v < w) && decide (w * r ≤ v * s)
theorem strong_iff {v r w s : Rat} : strong v r w s = true ↔ w ≤ v ∧ w * r ≤ v * s := by
  unfold strong
  simp [Rat.not_lt]
theorem strong_reads {v r w s l : Rat} (h : strong v r w s = true) (hr : 0 ≤ r) (hs : 0 ≤ s) (hl : 0 ≤ l) (pr : 0 < 1 + r * l) (ps : 0 < 1 + s * l) : w / (1 + s * l) ≤ v / (1 + r * l) := by
  obtain ⟨h1, h2⟩ := strong_iff.mp h
  apply div_le ps pr
  have h3 := mul_le_r h2 hl
  grind
theorem both_iff {v r w s : Rat} (h : strong v r w s = true) (hr : 0 ≤ r) (hs : 0 ≤ s) (hw : 0 ≤ w) (h1 : 0 < 1 + r * 0) (h2 : 0 < 1 + s * 0) (h3 : 0 < 1 + r * 1) (h4 : 0 < 1 + s * 1) (h5 : 0 < 1 + r * 2) (h6 : 0 < 1 + s * 2) :
    strong w s v r = (decide (v / (1 + r * 0) = w / (1 + s * 0)) && (decide (v / (1 + r * 1) = w / (1 + s * 1)) && (decide (v / (1 + r * 2) = w / (1 + s * 2)) && true))) := by
  obtain ⟨a1, a2⟩ := strong_iff.mp h
  rw [Bool.eq_iff_iff, strong_iff]
  simp only [Bool.and_eq_true, decide_eq_true_eq, div_eq h1 h2, div_eq h3 h4, div_eq h5 h6]
  constructor
  · rintro ⟨b1, b2⟩
    have e1 : v = w := Rat.le_antisymm b1 a1
    have e2 : v * s = w * r := Rat.le_antisymm b2 a2
    grind
  · rintro ⟨b1, b2, _⟩
    have e1 : v = w := by grind
    have e2 : v * s = w * r := by grind
    exact ⟨by grind, by grind⟩
theorem strong_trans {v r w s x t : Rat} (h1 : strong v r w s = true) (h2 : strong w s x t = true) (hv : 0 ≤ v) (hr : 0 ≤ r) (hw : 0 ≤ w) (hs : 0 ≤ s) (hx : 0 ≤ x) (ht : 0 ≤ t) : strong v r x t = true := by
  obtain ⟨a1, a2⟩ := strong_iff.mp h1
  obtain ⟨b1, b2⟩ := strong_iff.mp h2
  refine strong_iff.mpr ⟨Rat.le_trans b1 a1, ?_⟩
  have vt : 0 ≤ v * t := Rat.mul_nonneg hv ht
  by_cases hs0 : s = 0
  · subst hs0
    have wr : w * r = 0 := by
      have := Rat.mul_nonneg hw hr
      grind
    rcases Rat.mul_eq_zero.mp wr with z | z
    · have x0 : x = 0 := Rat.le_antisymm (by rw [z] at b1; exact b1) hx
      rw [x0, Rat.zero_mul]; exact vt
    · rw [z, Rat.mul_zero]; exact vt
  · have sp : 0 < s := Rat.lt_of_le_of_ne hs (Ne.symm hs0)
    apply Rat.not_lt.mp
    intro z
    have z2 := Rat.mul_lt_mul_of_pos_right z sp
    have c1 := mul_le_r b2 hr
    have c2 := mul_le_r a2 ht
    grind
end DL
namespace DL
open PySem PySem.Spec PyProof.Rows L2
section
variable {Cs : Nat → Addr} {F : Addr → Prop} {X : Cx} {ρ : Env} {M : Mem} {a b c e elt tg : Expr} {es : List Expr} {pos p apos spos py : Pos} {Φ : D → Mem → Prop} {scope : Scope} {vs : List Nat} {step : D → Env → (Env → Prop) → Prop} {g : TG} {E : DE} {y : Str}
/-- name = [elt for tg in tuple], on one line -/
theorem ws_setT {own : List (Str × Nat)} (i : Nat) (hc : X.calm = true) (hN : X.N.Nodup) (hy : X.N[i]? = some y) (hyl : X.env.scope.names.lookup y = some .local) (hsw : swapsWith (.ListComp elt [⟨tg, e, [], 0⟩] scope pos) (some (.Name y py)) spos.line X.env = pure true) (ok : BlkOk X.N X.env.scope scope own)
    (hG : ∀ (s : Shared) (H : Hp) (C : Addr) (cl : List (Str × Addr)) (fp : List Addr), PG (bX X scope s H C cl fp) tg g) (tgr : TgR Cs g (own.map (·.2)) step)
    (h : WE Cs X e ρ M fun x M1 => ∃ ds, x = .tup ds ∧ LcI Cs X scope elt (own.map (·.2)) step ds ρ M1 fun d M2 => E.nx (ρ.set i (some d)) M2)
    (hs : ∀ x, foldedSetIterable e X.env x = pure x := by intro _; rfl) : WS Cs X (.Assign [.Name y py] (.ListComp elt [⟨tg, e, [], 0⟩] scope pos) spos) ρ M E :=
  .mk fun F σ H A Dn k => (ps_setLc hc hN hy hyl hsw (pi_tup pe_sem) ok hG (fun _ _ _ _ _ => pts_nil) pe_semB hs).sem (h.run _ σ H A _ fun v d H1 M1 p1 m1 r1 h1 => by
    obtain ⟨ds, rfl, hl, I, h0, ht, hd⟩ := h1
    cases r1 with
    | @tup al vl _ hz hr rs =>
      have A1 := A.go p1 m1
      have kk : Res Cs F M1 H1 (fun d M2 => E.nx (ρ.set i (some d)) M2) fun x H2 => gName i x σ H2 Dn.nx := fun v d H' M' p m r h => k.nx _ _ H' M' (p1.trans p) ((A1.go p m).set i r) h
      refine ⟨_, rfl, ⟨_, .inl hr⟩, fun q hq => lc_tup (xs := vl) (LcP Cs F M1 H1 q I) (lc_start m1 hq h0) ?_ ?_ fun H' h' => lc_end m1 hq kk h' (by rw [rs.length]; exact hd)⟩
      · rintro i H' _ ⟨acc, ws, M', p', _⟩
        exact .inl (rd_ex p' hz hr).1
      · intro i x H' hi h'
        obtain ⟨d, hd', rd⟩ := rs.getV hi
        have hn := (List.getElem?_eq_some_iff.mp hd').1
        refine lc_turn A1 hq tgr (by omega) h' (d := d) (fun M' p' => ?_) (fun acc M' hl' hi2 => ht i d acc M' hd' hl' hi2)
        exact ((rd.avoid hq (Z' := Zf (Hid F q) M1) fun _ => zf_hid).go p'))
/-- name = [elt for tg in list], on one line -/
theorem ws_setL {own : List (Str × Nat)} (i : Nat) (hc : X.calm = true) (hN : X.N.Nodup) (hy : X.N[i]? = some y) (hyl : X.env.scope.names.lookup y = some .local) (hsw : swapsWith (.ListComp elt [⟨tg, e, [], 0⟩] scope pos) (some (.Name y py)) spos.line X.env = pure true) (ok : BlkOk X.N X.env.scope scope own)
    (hG : ∀ (s : Shared) (H : Hp) (C : Addr) (cl : List (Str × Addr)) (fp : List Addr), PG (bX X scope s H C cl fp) tg g) (tgr : TgR Cs g (own.map (·.2)) step)
    (h : WE Cs X e ρ M fun x M1 => ∃ ds, x = .lst ds ∧ LcI Cs X scope elt (own.map (·.2)) step ds ρ M1 fun d M2 => E.nx (ρ.set i (some d)) M2)
    (hs : ∀ x, foldedSetIterable e X.env x = pure x := by intro _; rfl) : WS Cs X (.Assign [.Name y py] (.ListComp elt [⟨tg, e, [], 0⟩] scope pos) spos) ρ M E :=
  .mk fun F σ H A Dn k => (ps_setLc hc hN hy hyl hsw (pi_list pe_sem) ok hG (fun _ _ _ _ _ => pts_nil) pe_semB hs).sem (h.run _ σ H A _ fun v d H1 M1 p1 m1 r1 h1 => by
    obtain ⟨ds, rfl, hl, I, h0, ht, hd⟩ := h1
    cases r1 with
    | @lst al vl _ hz hr rs =>
      have A1 := A.go p1 m1
      have kk : Res Cs F M1 H1 (fun d M2 => E.nx (ρ.set i (some d)) M2) fun x H2 => gName i x σ H2 Dn.nx := fun v d H' M' p m r h => k.nx _ _ H' M' (p1.trans p) ((A1.go p m).set i r) h
      refine ⟨_, rfl, ⟨_, .inl hr⟩, fun q hq => lc_list (xs := vl) (LcP Cs F M1 H1 q I) (lc_start m1 hq h0) ?_ ?_ fun H' h' => lc_end m1 hq kk h' (by rw [rs.length]; exact hd)⟩
      · rintro i H' _ ⟨acc, ws, M', p', _⟩
        exact .inl (rd_ex p' hz hr).1
      · intro i x H' hi h'
        obtain ⟨d, hd', rd⟩ := rs.getV hi
        have hn := (List.getElem?_eq_some_iff.mp hd').1
        refine lc_turn A1 hq tgr (by omega) h' (d := d) (fun M' p' => ?_) (fun acc M' hl' hi2 => ht i d acc M' hd' hl' hi2)
        exact ((rd.avoid hq (Z' := Zf (Hid F q) M1) fun _ => zf_hid).go p'))
end
end DL
namespace DL
open PySem PySem.Spec PyProof.Rows L2
/-! ### the end of a law -/
/-- none of the top's own objects is a list -/
def noL (K : PySem.W.Frag) : Bool := K.all fun p => match p.2.cls with | .type n => !decide (n = "list") | _ => true
theorem noL_ok {K : PySem.W.Frag} (h : noL K = true) {a : Addr} {o : Obj} (e : K.lookup a = some o) : o.cls ≠ .type "list" := fun z => by
  have m : ∃ p ∈ K, p.2 = o := by
    clear h
    induction K with
    | nil => cases e
    | cons p K ih =>
      obtain ⟨b, o'⟩ := p
      rw [List.lookup_cons] at e
      split at e
      · cases e; exact ⟨_, List.mem_cons_self, rfl⟩
      · obtain ⟨p, h1, h2⟩ := ih e
        exact ⟨p, List.mem_cons_of_mem _ h1, h2⟩
  obtain ⟨p, h1, h2⟩ := m
  have w := List.all_eq_true.mp h p h1
  rw [h2, z] at w
  simp at w
def obsN (fa : List Fc) (fn : List He5.DefA) (K : PySem.W.Frag) : He.AlD := ((noL K && (Fc.glo "law").ok K) && (obsC fa fn K).1, (obsC fa fn K).2)
def SaysN (fa : List Fc) (fn : List He5.DefA) (K : PySem.W.Frag) : Prop := obsN fa fn K = valC fn
def obsNG (n : Nat) (fa : List Fc) (fn : List He5.DefA) (g : Addr → Option Obj) : He.AlD := obsN fa fn (He.frG g (He5.asA g n))
def hookN (n : Nat) (fa : List Fc) (fn : List He5.DefA) : PySem.W.Hook where
  α := He.AlD
  obs := fun s => obsNG n fa fn s.heap.get?
  val := fun _ => valC fn
  says := fun _ h => ∃ K : PySem.W.Frag, K.In h ∧ SaysN fa fn K
  of := fun _ _ e => ⟨_, He.frG_in, e⟩
  keeps := fun _ _ _ ⟨K, hK, c⟩ k => ⟨K, PySem.W.Frag.In.keeps hK k, c⟩
theorem obsNG_eq {n : Nat} {fa : List Fc} {fn : List He5.DefA} {g : Addr → Option Obj} {s : Shared} (h : ∀ a, g a = s.heap.get? a) : obsNG n fa fn g = (hookN n fa fn).obs s := by
  have e : g = s.heap.get? := funext h
  rw [e] <;> rfl
theorem SaysN.says {fa : List Fc} {fn : List He5.DefA} {K : PySem.W.Frag} (c : SaysN fa fn K) : noL K = true ∧ (Fc.glo "law").ok K = true ∧ SaysC fa fn K := by
  have c1 := He.ba (show ((noL K && (Fc.glo "law").ok K) && (obsC fa fn K).1) = true from congrArg (fun z : He.AlD => z.1) c)
  have c2 : (obsN fa fn K).2 = (valC fn).2 := congrArg (fun z : He.AlD => z.2) (show obsN fa fn K = valC fn from c)
  refine ⟨(He.ba c1.1).1, (He.ba c1.1).2, ?_⟩
  show obsC fa fn K = valC fn
  exact Prod.ext c1.2 c2
theorem room0 : Rm 60 callerA := ⟨⟨rfl, by decide, by decide⟩, rfl⟩
/-- the call of a law, by its promise on data -/
theorem law_D {P : Program} {w : World} {K : PySem.W.Frag} {mg mb : Str → Option Value} {Cs : Nat → Addr} {k : Nat} {fa a : Addr} {S : FS} {s₁ : Shared} {vs : List Value} {ns : List Int}
    (KX : K.In s₁.heap) (hno : noL K = true) (hns : s₁.heap.Ns mainGlobals mg) (hb : s₁.heap.Ns builtinsNs mb) (hbb : ∀ x : Str, x ≠ "__name__" → mb x = bootBuiltins x) (hlim : s₁.heap.NoLimit) (hg : s₁.gens = #[])
    (ha : s₁.heap.get? a = some { cls := .type "list", data := .seq vs.toArray }) (hi : IntsAre vs ns) (hl : ns.length ≤ sizeLine) (hr : Rm k callerA)
    (F : ∀ base : Heap, FnG P w K mg base CX0 k fa (spD Cs S))
    (hsp : S [.lst (ns.map D.int)] (fun _ => none) fun d _ => d = .bl true) :
    codeAny (model P w) callerA (.call (.ref fa) ⟨[.ref a], []⟩) (fun r s' => r = .ok (.ret (.bool true)) ∧ OldK s₁.heap s'.heap ∧ s'.os = s₁.os ∧ AllBare s'.gens) s₁ := by
  have rv := vals_ints hi
  have hk : K.lookup a = none := by
    cases hk : K.lookup a with
    | none => rfl
    | some o =>
      have e := KX a o hk
      rw [ha] at e
      cases e
      exact absurd rfl (noL_ok hno hk)
  generalize hO : ({ cls := .type "list", data := .seq vs.toArray } : Obj) = ob at ha
  let H : Hp := fun b => if b = a then some (.frz ob (.lst (ns.map V.int))) else none
  have Ha : H a = some (.frz ob (.lst (ns.map V.int))) := if_pos rfl
  have Hn : ∀ {b}, b ≠ a → H b = none := fun h => if_neg h
  have nsK : ∀ {b : Addr} {m : Str → Option Value}, s₁.heap.Ns b m → (hidT s₁.heap H).Ns b m := fun {b m} ⟨o, es, ep, e, d, r⟩ => ⟨o, es, ep, hidT_get e (Hn fun z => by
    subst z
    rw [ha] at e; cases e
    rw [← hO] at d
    have d' : Data.seq vs.toArray _ = Data.dict es ep := d
    cases d'), d, r⟩
  have hKb : K.In (hidT s₁.heap H) := fun b o e => hidT_get (KX b o e) (Hn fun z => by subst z; rw [hk] at e; cases e)
  have hok : HOk P w H s₁.heap := fun b u z => by
    by_cases hb : b = a
    · subst hb
      rw [Ha] at z
      cases z
      exact ⟨ha, by rw [List.length_map]; exact hl, vs, _, rv, by rw [ha, ← hO]⟩
    · rw [Hn hb] at z; cases z
  have hM : Mod K mg (hidT s₁.heap H) := ⟨hKb, nsK hns, ⟨mb, nsK hb, hbb⟩, let ⟨mc, h1, h2⟩ := hlim; ⟨mc, nsK h1, h2⟩⟩
  have e0 : Env0 P w K mg (hidT s₁.heap H) callerA [] s₁ H := ⟨rfl, hM, fun b o e => of_hidT e, Nat.le_of_eq (hidT_size _ _), trivial, fun b hb => absurd (show b ∈ ([] : List Addr) from hb) (by simp), hok, .of_eq hg⟩
  have rs : ∀ (l : List Int), Reps Cs (Zf (fun _ => False) fun _ => none) H (l.map V.int) (l.map D.int) := fun l => by
    induction l with
    | nil => exact .nil
    | cons i l ih => exact .cons (.int i) ih
  have mem : MemAt Cs (fun _ => False) (fun _ => none) H := ⟨fun _ _ z => (nomatch z), fun _ z => z.elim⟩
  refine codeAny_mono (F _ callerA [] s₁ H [.ref a] [.ref a] (fun v _ => v = .bl true) E0 hr e0 (.cons rfl .nil) ⟨fun _ => False, _, _, _, mem, .cons (.lst (fun z => z.elim id fun y => y rfl) (.inr ⟨ob, Ha⟩) (rs ns)) .nil, hsp, fun v d H' M' _ _ r e => by subst e; cases r; rfl⟩) fun r s' h => ?_
  cases r with
  | error e => exact h.elim
  | ok fl =>
    cases fl with
    | next => exact False.elim h
    | brk => exact False.elim h
    | cont => exact False.elim h
    | ret u =>
      obtain ⟨v, H', os, bare, un, hok', r', q⟩ := h
      have q' : v = .bl true := q
      subst q'
      obtain rfl : u = Value.bool true := r'
      refine ⟨rfl, OldK.of_keep fun b o e => ?_, os, bare⟩
      by_cases hb : b = a
      · subst hb
        obtain ⟨e2, _⟩ := hok' b _ (un.frzs b ob _ Ha)
        rw [ha] at e; cases e
        exact e2
      · exact un.keep b o e (Hn hb) (by intro z; exact absurd (show b ∈ ([] : List Addr) from z) (by simp)) (by simp)
/-- what a head leaves, by the law's promise on data -/
theorem walk_D {l : PySem.W.OpenLaw} {n k : Nat} {q : Program} {loose : List Str} {XP : (Str → Option Value) → Heap → Prop} {fas : List Fc} {fns : List He5.DefA} {d : DefRec} {S : FS} {Cs : PySem.W.Frag → Nat → Addr}
    (hn : l.most = some n) (hn2 : n ≤ sizeLine) (hdf : d.params.defaults = []) (hname : d.name = ("law" : Str)) (hr : Rm k callerA)
    (F : ∀ (w : World) (K : PySem.W.Frag) (mg : Str → Option Value) (h base : Heap), K.In h → h.Ns mainGlobals mg → SaysC fas fns K → FnG l.prog w K mg base CX0 k (He.ga K "law") (spD (Cs K) S))
    (hsp : ∀ ns : List Int, ns.length ≤ n → S [.lst (ns.map D.int)] (fun _ => none) fun d _ => d = .bl true) :
    PySem.W.WalkO q loose XP (fun _ h => ∃ K : PySem.W.Frag, K.In h ∧ SaysN fas fns K) l.row.toRowW d [] (fun f vs => PySem.call f vs) := by
  refine Att.attach_call hn hdf fun w s₀ s₁ mg mb fa o pm cd doc a vs ns G Y ho hd hcd hmg hobj hints hlen hg => ?_
  obtain ⟨K, KX, c⟩ := Y
  obtain ⟨c1, c3, c2⟩ := c.says
  have e := (Fc.glo_ok KX G.T.g c3).1
  rw [hname] at hmg
  rw [hmg] at e
  obtain rfl : fa = He.ga K "law" := by cases e; rfl
  exact law_D KX c1 G.T.g G.T.b G.T.builtins G.T.nolimit hg hobj hints (Nat.le_trans hlen hn2) hr (fun base => F w K mg _ base KX G.T.g c2) (hsp ns hlen)
end DL
/-! ### gates by judgement and by form -/
namespace DL
open PySem PySem.Spec PyProof.Rows L2
section
variable {Cs : Nat → Addr} {X : Cx} {ρ : Env} {M : Mem} {Φ : D → Mem → Prop} {Ψ : Bool → Mem → Prop} {Θ : List D → Mem → Prop} {e a b : Expr} {es : List Expr} {kws : List Keyword} {p pos apos : Pos} {x : Str} {d d' : D} {st : Stmt} {sts : List Stmt} {E : DE} {f : Value → Value → Sem Value} {op : Operator} {ops : List CmpOp} {c : Const} {j : Nat} {oe : Option Expr}
theorem j_we (h : WE Cs X e ρ M Φ) : WE Cs X e ρ M Φ := h
theorem j_wa (h : WA Cs X es ρ M Θ) : WA Cs X es ρ M Θ := h
theorem j_wat (h : WAt Cs X x d M Φ) : WAt Cs X x d M Φ := h
theorem j_wo (h : WO Cs X f d d' M Φ) : WO Cs X f d d' M Φ := h
theorem j_wix (h : WIx Cs X d d' M Φ) : WIx Cs X d d' M Φ := h
theorem j_wt (h : WT Cs X e ρ M Ψ) : WT Cs X e ρ M Ψ := h
theorem j_ws (h : WS Cs X st ρ M E) : WS Cs X st ρ M E := h
theorem j_wss (h : WSs Cs X sts ρ M E) : WSs Cs X sts ρ M E := h
theorem j_ret (h : WS Cs X (.Return oe pos) ρ M E) : WS Cs X (.Return oe pos) ρ M E := h
theorem e_name (h : WE Cs X (.Name x pos) ρ M Φ) : WE Cs X (.Name x pos) ρ M Φ := h
theorem e_const (h : WE Cs X (.Constant c j pos) ρ M Φ) : WE Cs X (.Constant c j pos) ρ M Φ := h
theorem e_attr (h : WE Cs X (.Attribute e x pos) ρ M Φ) : WE Cs X (.Attribute e x pos) ρ M Φ := h
theorem e_bin (h : WE Cs X (.BinOp a op b pos) ρ M Φ) : WE Cs X (.BinOp a op b pos) ρ M Φ := h
theorem e_cmp (h : WE Cs X (.Compare a ops es pos) ρ M Φ) : WE Cs X (.Compare a ops es pos) ρ M Φ := h
theorem e_sub (h : WE Cs X (.Subscript a b pos) ρ M Φ) : WE Cs X (.Subscript a b pos) ρ M Φ := h
theorem e_call (h : WE Cs X (.Call (.Name x p) es kws pos) ρ M Φ) : WE Cs X (.Call (.Name x p) es kws pos) ρ M Φ := h
theorem e_callm (h : WE Cs X (.Call (.Attribute a x p) es kws pos) ρ M Φ) : WE Cs X (.Call (.Attribute a x p) es kws pos) ρ M Φ := h
theorem e_tup (h : WE Cs X (.Tuple es j pos) ρ M Φ) : WE Cs X (.Tuple es j pos) ρ M Φ := h
theorem t_cmp (h : WT Cs X (.Compare a ops es pos) ρ M Ψ) : WT Cs X (.Compare a ops es pos) ρ M Ψ := h
theorem at_bin (op : Operator) (h : WO Cs X (binaryOp op) d d' M Φ) : WO Cs X (binaryOp op) d d' M Φ := h
theorem at_cmp (op : CmpOp) (h : WO Cs X (compareOp op) d d' M Φ) : WO Cs X (compareOp op) d d' M Φ := h
theorem a_len {P : Prop} {n : Nat} (h : P) (hl : Nat.ble n 100000 = true) : n ≤ 100000 ∧ P := ⟨Nat.le_of_ble_eq_true hl, h⟩
theorem a_obj {c : Nat} {y : D} {P : List D → Prop} (h : ∃ ds, y = .obj c ds ∧ P ds) : ∃ ds, y = .obj c ds ∧ P ds := h
end
theorem eq2_true {a b c d : Rat} (h1 : a = b) (h2 : c = d) : (decide (a = b) && decide (c = d)) = true := by rw [decide_eq_true h1, decide_eq_true h2]; rfl
end DL
/-! ### how long what repr shows is -/
namespace DL
open PySem PySem.Spec PyProof.Rows L2
mutual
def _root_.DL.D.cost : D → Nat
  | .non => 4
  | .bl _ => 5
  | .int _ => 1921
  | .str x => (reprText x).length
  | .tup ds => 3 + costs ds
  | .lst ds => 3 + costs ds
  | _ => 4
def costs : List D → Nat
  | [] => 0
  | d :: ds => d.cost + 2 + costs ds
end
theorem textFrom_le : ∀ (ts : List Str) (k : Nat) (acc : Str), (textFrom k acc ts).length ≤ acc.length + piled ts
  | [], _, acc => by show acc.length ≤ acc.length + 0; omega
  | t :: r, k, acc => by
    have ih := textFrom_le r (k + 1) (acc ++ (if k > 0 then ", " else "" : String) ++ t)
    have e : (acc ++ (if k > 0 then ", " else "" : String) ++ t).length ≤ acc.length + 2 + t.length := by
      rw [strLen_append, strLen_append]
      split
      · exact Nat.le_refl _
      · show acc.length + 0 + t.length ≤ _; omega
    show (textFrom (k + 1) _ r).length ≤ _
    rw [piled_cons]; omega
theorem listText_le (ts : List Str) : (listText ts).length ≤ 2 + piled ts := by
  have h := textFrom_le ts 0 "["
  have e : (("[" : String) : Str).length = 1 := rfl
  show (textFrom 0 "[" ts ++ "]").length ≤ _
  rw [strLen_append]
  have e2 : (("]" : String) : Str).length = 1 := rfl
  omega
theorem tupleText_le (ts : List Str) : (tupleText ts).length ≤ 3 + piled ts := by
  unfold tupleText
  rw [strLen_append, strLen_append]
  have e1 : (("(" : String) : Str).length = 1 := rfl
  have e2 : (((if ts.length == 1 then ",)" else ")" : String)) : Str).length ≤ 2 := by split <;> decide
  by_cases h : ts = []
  · subst h
    have e3 : (Str.join ", " []).length = 0 := rfl
    omega
  · have := join_length_add ts h
    omega
mutual
theorem shown_le : ∀ (d : D), d.isPy = true → d.py.showable = true → d.py.shown.length ≤ d.cost
  | .non, _, _ => by simp only [D.py, PyData.shown, D.cost]; decide
  | .bl b, _, _ => by cases b <;> (simp only [D.py, PyData.shown, D.cost]; decide)
  | .int i, _, h => by
    simp only [D.py, PyData.showable, decide_eq_true_eq] at h
    simp only [D.py, PyData.shown, D.cost]
    have := int_text_length_le (k := 1920) (by decide) h
    rw [PySem.ofString_length]
    omega
  | .str x, _, _ => by simp only [D.py, PyData.shown, D.cost]; exact Nat.le_refl _
  | .tup ds, h1, h2 => by
    rw [D.isPy] at h1
    rw [D.py, PyData.showable] at h2
    rw [D.py, PyData.shown, D.cost]
    have := tupleText_le (PyData.shownAll (pys ds))
    have := showns_le ds h1 h2
    omega
  | .lst ds, h1, h2 => by
    rw [D.isPy] at h1
    rw [D.py, PyData.showable] at h2
    rw [D.py, PyData.shown, D.cost]
    have := listText_le (PyData.shownAll (pys ds))
    have := showns_le ds h1 h2
    omega
  | .ty _, h, _ => by simp [D.isPy] at h
  | .ref _, h, _ => by simp [D.isPy] at h
  | .obj _ _, h, _ => by simp [D.isPy] at h
  | .dct _ _, h, _ => by simp [D.isPy] at h
  | .exc _ _, h, _ => by simp [D.isPy] at h
theorem showns_le : ∀ (ds : List D), arePy ds = true → PyData.showableAll (pys ds) = true → piled (PyData.shownAll (pys ds)) ≤ costs ds
  | [], _, _ => by rw [pys, PyData.shownAll, costs]; exact Nat.le_refl _
  | d :: ds, h1, h2 => by
    rw [arePy, Bool.and_eq_true] at h1
    rw [pys, PyData.showableAll, Bool.and_eq_true] at h2
    rw [pys, PyData.shownAll, costs, piled_cons]
    have := shown_le d h1.1 h2.1
    have := showns_le ds h1.2 h2.2
    omega
end
mutual
theorem noDict : ∀ (d : D), d.py.hasDict = false
  | .non => by simp [D.py, PyData.hasDict]
  | .bl _ => by simp [D.py, PyData.hasDict]
  | .int _ => by simp [D.py, PyData.hasDict]
  | .str _ => by simp [D.py, PyData.hasDict]
  | .tup ds => by rw [D.py, PyData.hasDict]; exact noDicts ds
  | .lst ds => by rw [D.py, PyData.hasDict]; exact noDicts ds
  | .ty _ => by simp [D.py, PyData.hasDict]
  | .ref _ => by simp [D.py, PyData.hasDict]
  | .obj _ _ => by simp [D.py, PyData.hasDict]
  | .dct _ _ => by simp [D.py, PyData.hasDict]
  | .exc _ _ => by simp [D.py, PyData.hasDict]
theorem noDicts : ∀ (ds : List D), PyData.hasDictAll (pys ds) = false
  | [] => by rw [pys, PyData.hasDictAll]
  | d :: ds => by rw [pys, PyData.hasDictAll, noDict d, noDicts ds]; rfl
end
/-- all that repr asks, told of data: n deep, c long at most -/
structure Shw (n c : Nat) (d : D) : Prop where
  py : d.isPy = true
  sh : d.py.showable = true
  dp : d.py.depth ≤ n
  co : d.cost ≤ c
theorem Shw.mono {n c n' c' : Nat} {d : D} (s : Shw n c d) (h1 : n ≤ n') (h2 : c ≤ c') : Shw n' c' d := ⟨s.py, s.sh, Nat.le_trans s.dp h1, Nat.le_trans s.co h2⟩
theorem wc_reprS {Cs : Nat → Addr} {X : Cx} {M : Mem} {Φ : D → Mem → Prop} {d : D} {k n c : Nat} (hr : Rm k X.A) (s : Shw n c d) (hn : n ≤ 60) (hc : c ≤ 16000000) (h : Φ (.str d.py.shown) M) : WC Cs X (.builtin "repr") [d] M Φ :=
  wc_repr hr s.py s.sh (noDict d) (Nat.le_trans s.dp hn) (by rw [sizeLine_eq]; have := shown_le d s.py s.sh; have := s.co; omega) h
theorem log_lt {a : Int} {B : Nat} (h : a.natAbs < 2 ^ B) (hB : B ≤ 1920) : a.natAbs.log2 < 1920 := by
  by_cases z : a.natAbs = 0
  · rw [z]; decide
  · exact (Nat.log2_lt z).mpr (Nat.lt_of_lt_of_le h (Nat.pow_le_pow_right (by decide) hB))
theorem Shw.bl (b : Bool) : Shw 0 5 (.bl b) := ⟨by simp [D.isPy], by simp [D.py, PyData.showable], by simp [D.py, PyData.depth], by simp [D.cost]⟩
theorem Shw.non : Shw 0 4 .non := ⟨by simp [D.isPy], by simp [D.py, PyData.showable], by simp [D.py, PyData.depth], by simp [D.cost]⟩
theorem Shw.int {i : Int} {B : Nat} (h : i.natAbs < 2 ^ B) (hB : B ≤ 1920) : Shw 0 1921 (.int i) := ⟨by simp [D.isPy], by simp [D.py, PyData.showable, log_lt h hB], by simp [D.py, PyData.depth], by simp [D.cost]⟩
theorem Shw.str (x : Str) : Shw 0 (reprText x).length (.str x) := ⟨by simp [D.isPy], by simp [D.py, PyData.showable], by simp [D.py, PyData.depth], by simp [D.cost]⟩
theorem shs_all {n c : Nat} : ∀ {ds : List D}, (∀ d ∈ ds, Shw n c d) → arePy ds = true ∧ PyData.showableAll (pys ds) = true ∧ PyData.depthAll (pys ds) ≤ n ∧ costs ds ≤ ds.length * (c + 2)
  | [], _ => ⟨by rw [arePy], by rw [pys, PyData.showableAll], by rw [pys, PyData.depthAll]; exact Nat.zero_le _, by rw [costs]; exact Nat.zero_le _⟩
  | d :: ds, h => by
    obtain ⟨h1, h2, h3, h4⟩ := shs_all (ds := ds) fun x hx => h x (List.mem_cons_of_mem _ hx)
    have hd := h d List.mem_cons_self
    refine ⟨by rw [arePy, hd.py, h1]; rfl, by rw [pys, PyData.showableAll, hd.sh, h2]; rfl, ?_, ?_⟩
    · rw [pys, PyData.depthAll]
      have := hd.dp
      omega
    · rw [costs, List.length_cons, Nat.succ_mul]
      have := hd.co
      omega
theorem Shw.tup {n c : Nat} {ds : List D} (h : ∀ d ∈ ds, Shw n c d) : Shw (n + 1) (3 + ds.length * (c + 2)) (.tup ds) := by
  obtain ⟨h1, h2, h3, h4⟩ := shs_all h
  exact ⟨by rw [D.isPy]; exact h1, by rw [D.py, PyData.showable]; exact h2, by rw [D.py, PyData.depth]; omega, by rw [D.cost]; omega⟩
theorem Shw.lst {n c : Nat} {ds : List D} (h : ∀ d ∈ ds, Shw n c d) : Shw (n + 1) (3 + ds.length * (c + 2)) (.lst ds) := by
  obtain ⟨h1, h2, h3, h4⟩ := shs_all h
  exact ⟨by rw [D.isPy]; exact h1, by rw [D.py, PyData.showable]; exact h2, by rw [D.py, PyData.depth]; omega, by rw [D.cost]; omega⟩
theorem Shw.tup2 {n c : Nat} {a b : D} (ha : Shw n c a) (hb : Shw n c b) : Shw (n + 1) (7 + 2 * c) (.tup [a, b]) := (Shw.tup (n := n) (c := c) (ds := [a, b]) fun d hd => by
  rcases List.mem_cons.mp hd with rfl | hd
  · exact ha
  · cases List.mem_singleton.mp hd; exact hb).mono (Nat.le_refl _) (by show 3 + 2 * (c + 2) ≤ _; omega)
theorem Shw.tup3 {n c : Nat} {a b e : D} (ha : Shw n c a) (hb : Shw n c b) (he : Shw n c e) : Shw (n + 1) (9 + 3 * c) (.tup [a, b, e]) := (Shw.tup (n := n) (c := c) (ds := [a, b, e]) fun d hd => by
  rcases List.mem_cons.mp hd with rfl | hd
  · exact ha
  · rcases List.mem_cons.mp hd with rfl | hd
    · exact hb
    · cases List.mem_singleton.mp hd; exact he).mono (Nat.le_refl _) (by show 3 + 3 * (c + 2) ≤ _; omega)
theorem Shw.rt {q : Rat} (b : Bz 1900 q) : Shw 1 4000 (rt q) := (Shw.tup2 (Shw.int b.n (by decide)) (Shw.int (den_lt b) (by decide))).mono (by decide) (by decide)
end DL
/-! ### what is gone over -/
namespace DL
open PySem PySem.Spec PyProof.Rows L2
mutual
theorem Rep.far {Cs : Nat → Addr} {Z Z' : Addr → Prop} {H : Hp} (l : ∀ a, Z' a → Z a ∨ H a = none) : ∀ {v : V} {d : D}, Rep Cs Z H v d → Rep Cs Z' H v d
  | _, _, .non => .non
  | _, _, .bl b => .bl b
  | _, _, .int i => .int i
  | _, _, .str x => .str x
  | _, _, .ty n => .ty n
  | _, _, .ref a => .ref a
  | _, _, .tup hz h r => .tup (fun z => (l _ z).elim hz (fun y => rd_ne h y rfl)) h (Reps.far l r)
  | _, _, .lst hz h r => .lst (fun z => (l _ z).elim hz (fun y => rd_ne h y rfl)) h (Reps.far l r)
  | _, _, .obj hz hx h h2 r => .obj (fun z => (l _ z).elim hz (fun y => ne_of_none h y rfl)) (fun z => (l _ z).elim hx (fun y => ne_of_none h2 y rfl)) h h2 (Reps.far l r)
  | _, _, .dct hz h hl r => .dct (fun z => (l _ z).elim hz (fun y => rd_ne h y rfl)) h hl (Reps.far l r)
  | _, _, .exc hz hx h h2 r => .exc (fun z => (l _ z).elim hz (fun y => ne_of_none h y rfl)) (fun z => (l _ z).elim hx (fun y => ne_of_none h2 y rfl)) h h2 (Rep.far l r)
theorem Reps.far {Cs : Nat → Addr} {Z Z' : Addr → Prop} {H : Hp} (l : ∀ a, Z' a → Z a ∨ H a = none) : ∀ {vs : List V} {ds : List D}, Reps Cs Z H vs ds → Reps Cs Z' H vs ds
  | _, _, .nil => .nil
  | _, _, .cons h r => .cons (Rep.far l h) (Reps.far l r)
end
def semI (X : Cx) (tg iter : Expr) : TI := fun σ H R => ∀ pins s, Inv X pins σ H s → wpAny (model X.prog X.w) X.A (eval iter X.env) (fun v s1 => wpAny (model X.prog X.w) X.A (pyIter v) (PIE X pins σ tg R) X.xe s1) X.xe s
section
variable {X : Cx} {tg iter : Expr} {σ : L2.St} {H : Hp}
theorem pi_sem : PI X tg iter (semI X tg iter) := ⟨fun pins s _ _ _ I h => h pins s I⟩
theorem _root_.L2.PI.sem {wi : TI} {R : It → Hp → Prop} (p : PI X tg iter wi) (h : wi σ H R) : semI X tg iter σ H R := fun pins s I => p.run pins s σ H R I h
end
/-- an iterator hands out the data ds, as long as U holds of what is owned -/
structure Src (Cs : Nat → Addr) (F : Addr → Prop) (M1 : Mem) (H1 : Hp) (U : Mem → Prop) (J : It) (ds : List D) : Prop where
  go : ∀ (F' : Addr → Prop) i H' M', (∀ a, F' a → F a ∨ H1 a = none) → Post M1 H1 M' H' → MemAt Cs F' M' H' → U M' → i < ds.length → J.go i H'
  yl : ∀ (F' : Addr → Prop) i v H' M' H2, (∀ a, F' a → F a ∨ H1 a = none) → Post M1 H1 M' H' → MemAt Cs F' M' H' → U M' → i < ds.length → J.yld i H' v H2 → ∃ d, ds[i]? = some d ∧ Post M' H' M' H2 ∧ MemAt Cs F' M' H2 ∧ Rep Cs (Zf F' M') H2 v d ∧ ∀ a o, H' a = some o → H2 a = some o
  st : ∀ (F' : Addr → Prop) i H' M', (∀ a, F' a → F a ∨ H1 a = none) → Post M1 H1 M' H' → MemAt Cs F' M' H' → U M' → ds.length ≤ i → J.stop i H'
structure WI (Cs : Nat → Addr) (X : Cx) (tg iter : Expr) (ρ : Env) (M : Mem) (K : (Mem → Prop) → List D → Mem → Prop) : Prop where
  run : ∀ (F : Addr → Prop) σ H, At Cs F M H σ ρ → ∀ R, (∀ J H1 M1 U ds, Post M H M1 H1 → MemAt Cs F M1 H1 → Src Cs F M1 H1 U J ds → K U ds M1 → R J H1) → semI X tg iter σ H R
section
variable {Cs : Nat → Addr} {F : Addr → Prop} {X : Cx} {ρ : Env} {M : Mem} {a b c e elt tg iter kx vx cond : Expr} {es : List Expr} {pos p apos cpos spos py : Pos} {Φ : D → Mem → Prop} {E : DE} {body : List Stmt} {x y : Str} {g : TG} {step : D → Env → (Env → Prop) → Prop} {K : (Mem → Prop) → List D → Mem → Prop}
def LoopU (Cs : Nat → Addr) (X : Cx) (tg : Expr) (body : List Stmt) (U : Mem → Prop) (ds : List D) (ρ : Env) (M : Mem) (E : DE) : Prop := ∃ I : Nat → Env → Mem → Prop, I 0 ρ M ∧ (∀ i ρ' M', i ≤ ds.length → I i ρ' M' → U M') ∧
  (∀ i d ρ' M', ds[i]? = some d → I i ρ' M' → WG Cs X tg d ρ' M' fun ρ2 M2 => WSs Cs X body ρ2 M2 { E with nx := I (i + 1), ct := I (i + 1), bk := E.nx }) ∧ ∀ ρ' M', I ds.length ρ' M' → E.nx ρ' M'
theorem ws_for (hp : PassesOwn (model X.prog X.w) X.A X.env X.xe) (hc : X.calm = true) (h : WI Cs X tg iter ρ M fun U ds M1 => LoopU Cs X tg body U ds ρ M1 E)
    (hs : ∀ x, foldedSetIterable iter X.env x = pure x := by intro _; rfl) : WS Cs X (.For tg iter body [] pos) ρ M E :=
  .mk fun F σ H A Dn k => (ps_for hp hc pi_sem pg_sem pss_sem hs).sem (h.run _ σ H A _ fun J H1 M1 U ds p1 m1 S ⟨I, h0, hu, ht, hd⟩ => by
    refine ⟨fun i m σ' H' => m = ds.length - i ∧ i ≤ ds.length ∧ ∃ ρ' M', Post M1 H1 M' H' ∧ At Cs F M' H' σ' ρ' ∧ I i ρ' M', ⟨ds.length, by simp, Nat.zero_le _, ρ, M1, .refl, A.go p1 m1, h0⟩, ?_⟩
    rintro i m σ' H' ⟨rfl, hi, ρ', M', p', A', q⟩
    have hU := hu i ρ' M' hi q
    by_cases hlt : i < ds.length
    · refine .inr ⟨S.go F i H' M' (fun _ z => .inl z) p' A'.mem hU hlt, fun σ3 H3 => ∃ ρ3 M3, Post M1 H1 M3 H3 ∧ At Cs F M3 H3 σ3 ρ3 ∧ I (i + 1) ρ3 M3, fun σ3 H3 z => ⟨ds.length - (i + 1), by omega, rfl, hlt, z⟩, fun v H2 y => ?_⟩
      obtain ⟨d, hd', p2, m2, r2, _⟩ := S.yl F i v H' M' H2 (fun _ z => .inl z) p' A'.mem hU hlt y
      exact loop_turn (k.from p1) (p'.trans p2) (A'.go p2 m2) r2 (ht i d ρ' M' hd' q)
    · have e : i = ds.length := by omega
      subst e
      exact .inl ⟨S.st F _ H' M' (fun _ z => .inl z) p' A'.mem hU (Nat.le_refl _), k.nx σ' ρ' H' M' (p1.trans p') A' (hd ρ' M' q)⟩)
/-! comprehensions -/
section
variable {scope : Scope} {vs : List Nat} {σ : L2.St} {H1 H' H2 : Hp} {M1 M' : Mem} {U : Mem → Prop} {J : It} {ds acc : List D} {ws : List V} {q : Addr} {Q : VK} {v : V} {d : D}
theorem lcu_at (A : At Cs F M1 H1 σ ρ) (hq : H1 q = none) (p' : Post M1 H1 M' H') (m' : MemAt Cs (Hid F q) M' H') (e : H' q = some (.lst ws)) : At Cs (Hid F q) M' H' (wipe σ vs) (wipeE ρ vs) := by
  have A1 := (A.hide (o := .lst ws) hq).wipe vs
  have p1 : Post M1 (upd H1 q (.lst ws)) M' H' := by
    refine ⟨fun b o hb ho => ?_, fun b hb => ?_⟩
    · by_cases z : b = q
      · subst z
        rw [upd_same] at ho
        cases ho
        exact .inl e
      · rw [upd_ne z] at ho
        exact p'.ex b o hb ho
    · by_cases z : b = q
      · subst z
        exact absurd (m'.ff b (.inr rfl)).1 hb
      · rcases p'.new b hb with y | y
        · exact .inl y
        · exact .inr (by rw [upd_ne z]; exact y)
  exact A1.go p1 m'
/-- an item has been reckoned -/
theorem lcu_add {I : Nat → List D → Mem → Prop} {i : Nat} {M4 : Mem} {H4 : Hp} {y : V} {dy : D} (hq : H1 q = none) (p' : Post M1 H1 M' H') (m' : MemAt Cs (Hid F q) M' H') (e : H' q = some (.lst ws)) (r : Reps Cs (Zf (Hid F q) M') H' ws acc) (hn : acc.length < 50000)
    (p4 : Post M' H' M4 H4) (m4 : MemAt Cs (Hid F q) M4 H4) (r4 : Rep Cs (Zf (Hid F q) M4) H4 y dy) (h4 : I i (acc ++ [dy]) M4) :
    H4 q = some (.lst ws) ∧ ws.length < sizeLine ∧ ∃ acc ws2 M', Post M1 H1 M' (upd H4 q (.lst (ws ++ [y]))) ∧ MemAt Cs (Hid F q) M' (upd H4 q (.lst (ws ++ [y]))) ∧ (upd H4 q (.lst (ws ++ [y]))) q = some (.lst ws2) ∧ Reps Cs (Zf (Hid F q) M') (upd H4 q (.lst (ws ++ [y]))) ws2 acc ∧ I i acc M' := by
  have e4 : H4 q = some (.lst ws) := p4.keep (m'.ff q (.inr rfl)).1 e fun _ z => nomatch z
  have zq : Zf (Hid F q) M4 q := .inl (.inr rfl)
  refine ⟨e4, by rw [r.length]; exact Nat.lt_of_lt_of_le hn (by decide), acc ++ [dy], ws ++ [y], M4, ?_, m4.upd (.inr rfl), upd_same, ((r.go p4).append (.cons r4 .nil)).upd zq, h4⟩
  have pp := p'.trans p4
  exact ⟨fun b o hb ho => by rw [upd_ne (ne_of_none ho hq)]; exact pp.ex b o hb ho, pp.new⟩
/-- what the comprehension has come to behind i items -/
def LcS (Cs : Nat → Addr) (F : Addr → Prop) (M1 : Mem) (H1 : Hp) (q : Addr) (I : Nat → List D → Mem → Prop) (i : Nat) (H' : Hp) : Prop :=
  ∃ acc ws M', Post M1 H1 M' H' ∧ MemAt Cs (Hid F q) M' H' ∧ H' q = some (.lst ws) ∧ Reps Cs (Zf (Hid F q) M') H' ws acc ∧ I i acc M'
theorem lcs_start {I : Nat → List D → Mem → Prop} (m : MemAt Cs F M1 H1) (hq : H1 q = none) (h : I 0 [] M1) : LcS Cs F M1 H1 q I 0 (upd H1 q (.lst [])) := ⟨[], [], M1, post_new hq, m.hide hq, upd_same, .nil, h⟩
theorem lcs_end {I : Nat → List D → Mem → Prop} {n : Nat} (m : MemAt Cs F M1 H1) (hq : H1 q = none) (k : Res Cs F M1 H1 Φ Q) (h : LcS Cs F M1 H1 q I n H') (hd : ∀ acc M', I n acc M' → Φ (.lst acc) M') : Q (.ref q) H' := by
  obtain ⟨acc, ws, M', p', m', e, r, hi⟩ := h
  refine k _ _ H' M' p' m'.show (.lst (fun z => ?_) (.inl e) (r.less fun a z => z.elim (fun y => .inl (.inl y)) .inr)) (hd acc M' hi)
  rcases z with z | z
  · exact (m.ff q z).2 hq
  · exact z (m'.ff q (.inr rfl)).1
/-- a comprehension with or without a test -/
def LcU (Cs : Nat → Addr) (X : Cx) (scope : Scope) (elt : Expr) (cnd : Option Expr) (vs : List Nat) (step : D → Env → (Env → Prop) → Prop) (U : Mem → Prop) (ds : List D) (ρ : Env) (M : Mem) (Φ : D → Mem → Prop) : Prop :=
  ds.length ≤ 40000 ∧ ∃ I : Nat → List D → Mem → Prop, I 0 [] M ∧ (∀ i acc M', i ≤ ds.length → I i acc M' → U M' ∧ acc.length ≤ i) ∧
    (∀ i d acc M', ds[i]? = some d → I i acc M' → step d (wipeE ρ vs) fun ρ2 => ∀ s0 H0 C cl fp, match cnd with
      | none => WE Cs (bX X scope s0 H0 C cl fp) elt ρ2 M' fun y M3 => I (i + 1) (acc ++ [y]) M3
      | some c => WT Cs (bX X scope s0 H0 C cl fp) c ρ2 M' fun t M2 => (t = true → ∀ s0 H0 C cl fp, WE Cs (bX X scope s0 H0 C cl fp) elt ρ2 M2 fun y M3 => I (i + 1) (acc ++ [y]) M3) ∧ (t = false → I (i + 1) acc M2)) ∧ ∀ acc M', I ds.length acc M' → Φ (.lst acc) M'
def ttOf (X : Cx) (scope : Scope) : Option Expr → TT
  | none => tYes
  | some c => semTB X scope c
theorem lcu_core {cnd : Option Expr} (A : At Cs F M1 H1 σ ρ) (hq : H1 q = none) (S : Src Cs F M1 H1 U J ds) (tgr : TgR Cs g vs step) (h : LcU Cs X scope elt cnd vs step U ds ρ M1 Φ) (k : Res Cs F M1 H1 Φ Q) :
    ∃ W : Nat → Nat → Hp → Prop, (∃ m, W 0 m (upd H1 q (.lst []))) ∧ ∀ i m H, W i m H → (J.stop i H ∧ Q (.ref q) H) ∨ (J.go i H ∧ ∃ Nx : Hp → Prop, (∀ H', Nx H' → ∃ m', m' < m ∧ W (i + 1) m' H') ∧ ∀ x H', J.yld i H x H' → g x (wipe σ vs) H' fun σ2 H2 => wipe σ2 vs = wipe σ vs ∧ ttOf X scope cnd σ2 H2 fun b H3 =>
      if b = true then semEB X scope elt σ2 H3 fun y H4 => ∃ acc, H4 q = some (.lst acc) ∧ acc.length < sizeLine ∧ Nx (upd H4 q (.lst (acc ++ [y]))) else Nx H3) := by
  obtain ⟨hl, I, h0, hu, ht, hd⟩ := h
  refine ⟨fun i m H' => m = ds.length - i ∧ i ≤ ds.length ∧ LcS Cs F M1 H1 q I i H', ⟨ds.length, by simp, Nat.zero_le _, lcs_start A.mem hq h0⟩, ?_⟩
  rintro i m H' ⟨rfl, hi, hP⟩
  obtain ⟨acc, ws, M', p', m', e, r, hI⟩ := id hP
  have hF : ∀ a, Hid F q a → F a ∨ H1 a = none := fun a z => z.elim .inl fun y => .inr (by rw [y]; exact hq)
  obtain ⟨hU, hla⟩ := hu i acc M' hi hI
  by_cases hlt : i < ds.length
  · refine .inr ⟨S.go _ i H' M' hF p' m' hU hlt, LcS Cs F M1 H1 q I (i + 1), fun H3 z => ⟨ds.length - (i + 1), by omega, rfl, hlt, z⟩, fun v H2 y => ?_⟩
    obtain ⟨d, hd', p2, m2, r2, keep⟩ := S.yl _ i v H' M' H2 hF p' m' hU hlt y
    have e2 := keep q _ e
    have A2 : At Cs (Hid F q) M' H2 (wipe σ vs) (wipeE ρ vs) := lcu_at A hq (p'.trans p2) m2 e2
    refine tgr _ _ A2 r2 (wipe_wipe σ vs) (ht i d acc M' hd' hI) fun σ2 ρ2 A3 hw hW => ⟨hw, ?_⟩
    cases cnd with
    | none =>
      simp only [ttOf, tYes, if_true]
      intro s0 H0 C cl fp
      refine (hW s0 H0 C cl fp).run _ σ2 H2 A3 _ fun y dy H4 M4 p4 m4 r4 h4 => ?_
      obtain ⟨z1, z2, z3⟩ := lcu_add (I := I) hq (p'.trans p2) m2 e2 (r.go p2) (by omega) p4 m4 r4 h4
      exact ⟨ws, z1, z2, z3⟩
    | some c =>
      intro s0 H0 C cl fp
      refine (hW s0 H0 C cl fp).run _ σ2 H2 A3 _ fun t H3 M3 p3 m3 h3 => ?_
      have e3 : H3 q = some (.lst ws) := p3.keep (m2.ff q (.inr rfl)).1 e2 fun _ z => nomatch z
      cases t with
      | true =>
        rw [if_pos rfl]
        intro s0 H0 C cl fp
        refine (h3.1 rfl s0 H0 C cl fp).run _ σ2 H3 (A3.go p3 m3) _ fun y dy H4 M4 p4 m4 r4 h4 => ?_
        obtain ⟨z1, z2, z3⟩ := lcu_add (I := I) hq ((p'.trans p2).trans p3) m3 e3 ((r.go p2).go p3) (by omega) p4 m4 r4 h4
        exact ⟨ws, z1, z2, z3⟩
      | false =>
        rw [if_neg Bool.false_ne_true]
        exact ⟨acc, ws, M3, (p'.trans p2).trans p3, m3, e3, (r.go p2).go p3, h3.2 rfl⟩
  · have ei : i = ds.length := by omega
    subst ei
    exact .inl ⟨S.st _ _ H' M' hF p' m' hU (Nat.le_refl _), lcs_end A.mem hq k hP hd⟩
end
/-- [elt for tg in iter] -/
theorem we_lc {scope : Scope} {own : List (Str × Nat)} (hc : X.calm = true) (hN : X.N.Nodup) (ok : BlkOk X.N X.env.scope scope own)
    (hG : ∀ (s : Shared) (H : Hp) (C : Addr) (cl : List (Str × Addr)) (fp : List Addr), PG (bX X scope s H C cl fp) tg g) (tgr : TgR Cs g (own.map (·.2)) step)
    (h : WI Cs X tg iter ρ M fun U ds M1 => LcU Cs X scope elt none (own.map (·.2)) step U ds ρ M1 Φ)
    (hs : ∀ x, foldedSetIterable iter X.env x = pure x := by intro _; rfl) : WE Cs X (.ListComp elt [⟨tg, iter, [], 0⟩] scope pos) ρ M Φ :=
  .mk fun F σ H A Q k => (pe_lc hc hN pi_sem ok hG (fun _ _ _ _ _ => pts_nil) pe_semB hs).sem (h.run _ σ H A _ fun J H1 M1 U ds p1 m1 S hL q hq => lcu_core (A.go p1 m1) hq S tgr hL (k.from p1))
/-- [elt for tg in iter if cond] -/
theorem we_lcIf {scope : Scope} {own : List (Str × Nat)} (hc : X.calm = true) (hN : X.N.Nodup) (ok : BlkOk X.N X.env.scope scope own)
    (hG : ∀ (s : Shared) (H : Hp) (C : Addr) (cl : List (Str × Addr)) (fp : List Addr), PG (bX X scope s H C cl fp) tg g) (tgr : TgR Cs g (own.map (·.2)) step)
    (h : WI Cs X tg iter ρ M fun U ds M1 => LcU Cs X scope elt (some cond) (own.map (·.2)) step U ds ρ M1 Φ)
    (hs : ∀ x, foldedSetIterable iter X.env x = pure x := by intro _; rfl) : WE Cs X (.ListComp elt [⟨tg, iter, [cond], 0⟩] scope pos) ρ M Φ :=
  .mk fun F σ H A Q k => (pe_lc hc hN pi_sem ok hG (fun _ _ _ _ _ => pts_one (pt_semB _ _ _ _ _)) pe_semB hs).sem (h.run _ σ H A _ fun J H1 M1 U ds p1 m1 S hL q hq => lcu_core (A.go p1 m1) hq S tgr hL (k.from p1))
/-- name = [elt for tg in iter], on one line -/
theorem ws_setLcI {scope : Scope} {own : List (Str × Nat)} (i : Nat) (hc : X.calm = true) (hN : X.N.Nodup) (hy : X.N[i]? = some y) (hyl : X.env.scope.names.lookup y = some .local) (hsw : swapsWith (.ListComp elt [⟨tg, iter, [], 0⟩] scope pos) (some (.Name y py)) spos.line X.env = pure true) (ok : BlkOk X.N X.env.scope scope own)
    (hG : ∀ (s : Shared) (H : Hp) (C : Addr) (cl : List (Str × Addr)) (fp : List Addr), PG (bX X scope s H C cl fp) tg g) (tgr : TgR Cs g (own.map (·.2)) step)
    (h : WI Cs X tg iter ρ M fun U ds M1 => LcU Cs X scope elt none (own.map (·.2)) step U ds ρ M1 fun d M2 => E.nx (ρ.set i (some d)) M2)
    (hs : ∀ x, foldedSetIterable iter X.env x = pure x := by intro _; rfl) : WS Cs X (.Assign [.Name y py] (.ListComp elt [⟨tg, iter, [], 0⟩] scope pos) spos) ρ M E :=
  .mk fun F σ H A Dn k => (ps_setLc hc hN hy hyl hsw pi_sem ok hG (fun _ _ _ _ _ => pts_nil) pe_semB hs).sem (h.run _ σ H A _ fun J H1 M1 U ds p1 m1 S hL q hq =>
    lcu_core (A.go p1 m1) hq S tgr hL fun v d H' M' p m r h => k.nx _ _ H' M' (p1.trans p) (((A.go p1 m1).go p m).set i r) h)
theorem ws_setLcIf {scope : Scope} {own : List (Str × Nat)} (i : Nat) (hc : X.calm = true) (hN : X.N.Nodup) (hy : X.N[i]? = some y) (hyl : X.env.scope.names.lookup y = some .local) (hsw : swapsWith (.ListComp elt [⟨tg, iter, [cond], 0⟩] scope pos) (some (.Name y py)) spos.line X.env = pure true) (ok : BlkOk X.N X.env.scope scope own)
    (hG : ∀ (s : Shared) (H : Hp) (C : Addr) (cl : List (Str × Addr)) (fp : List Addr), PG (bX X scope s H C cl fp) tg g) (tgr : TgR Cs g (own.map (·.2)) step)
    (h : WI Cs X tg iter ρ M fun U ds M1 => LcU Cs X scope elt (some cond) (own.map (·.2)) step U ds ρ M1 fun d M2 => E.nx (ρ.set i (some d)) M2)
    (hs : ∀ x, foldedSetIterable iter X.env x = pure x := by intro _; rfl) : WS Cs X (.Assign [.Name y py] (.ListComp elt [⟨tg, iter, [cond], 0⟩] scope pos) spos) ρ M E :=
  .mk fun F σ H A Dn k => (ps_setLc hc hN hy hyl hsw pi_sem ok hG (fun _ _ _ _ _ => pts_one (pt_semB _ _ _ _ _)) pe_semB hs).sem (h.run _ σ H A _ fun J H1 M1 U ds p1 m1 S hL q hq =>
    lcu_core (A.go p1 m1) hq S tgr hL fun v d H' M' p m r h => k.nx _ _ H' M' (p1.trans p) (((A.go p1 m1).go p m).set i r) h)
/-! what may be gone over -/
theorem src_lst {H1 : Hp} {M1 : Mem} {K : PySem.W.Frag} {al : Addr} {vl : List V} {ds : List D} (hz : ¬ Zf F M1 al) (hr : Rd H1 al (.lst vl)) (rs : Reps Cs (Zf F M1) H1 vl ds) : Src Cs F M1 H1 (fun _ => True) (Itl K al) ds where
  go := fun F' i H' M' hF p m _ hi => ⟨vl, vl[i]'(by rw [rs.length]; exact hi), .inl (rd_ex p hz hr).1, by simp⟩
  yl := fun F' i v H' M' H2 hF p m _ hi y => by
    obtain ⟨e, y⟩ := y
    subst e
    have hv := y vl (.inl (rd_ex p hz hr).1)
    obtain ⟨d, hd, r⟩ := rs.getV hv
    exact ⟨d, hd, .refl, m, (r.far (Z' := Zf F' M1) fun a z => z.elim (fun y => (hF a y).elim (fun w => .inl (.inl w)) .inr) fun y => .inl (.inr y)).go p, fun _ _ z => z⟩
  st := fun F' i H' M' hF p m _ hi => ⟨vl, .inl (rd_ex p hz hr).1, by rw [rs.length]; exact hi⟩
theorem src_tup {H1 : Hp} {M1 : Mem} {K : PySem.W.Frag} {al : Addr} {vl : List V} {ds : List D} (hz : ¬ Zf F M1 al) (hr : Rd H1 al (.tup vl)) (rs : Reps Cs (Zf F M1) H1 vl ds) : Src Cs F M1 H1 (fun _ => True) (Itt K al) ds where
  go := fun F' i H' M' hF p m _ hi => ⟨vl, vl[i]'(by rw [rs.length]; exact hi), .inl (rd_ex p hz hr).1, by simp⟩
  yl := fun F' i v H' M' H2 hF p m _ hi y => by
    obtain ⟨e, y⟩ := y
    subst e
    have hv := y vl (.inl (rd_ex p hz hr).1)
    obtain ⟨d, hd, r⟩ := rs.getV hv
    exact ⟨d, hd, .refl, m, (r.far (Z' := Zf F' M1) fun a z => z.elim (fun y => (hF a y).elim (fun w => .inl (.inl w)) .inr) fun y => .inl (.inr y)).go p, fun _ _ z => z⟩
  st := fun F' i H' M' hF p m _ hi => ⟨vl, .inl (rd_ex p hz hr).1, by rw [rs.length]; exact hi⟩
/-- an owned list -/
theorem src_own {H1 : Hp} {M1 : Mem} {K : PySem.W.Frag} {al : Addr} {ds : List D} : Src Cs F M1 H1 (fun M' => M' al = some (.lst ds)) (Itl K al) ds where
  go := fun F' i H' M' hF p m u hi => by
    obtain ⟨vs, e, r⟩ := m.at_ al _ u
    exact ⟨vs, vs[i]'(by rw [r.length]; exact hi), .inl (.inl e), by simp⟩
  yl := fun F' i v H' M' H2 hF p m u hi y => by
    obtain ⟨e', y⟩ := y
    subst e'
    obtain ⟨vs, e, r⟩ := m.at_ al _ u
    obtain ⟨d, hd, rd⟩ := r.getV (y vs (.inl (.inl e)))
    exact ⟨d, hd, .refl, m, rd, fun _ _ z => z⟩
  st := fun F' i H' M' hF p m u hi => by
    obtain ⟨vs, e, r⟩ := m.at_ al _ u
    exact ⟨vs, .inl (.inl e), by rw [r.length]; exact hi⟩
theorem wi_lst (h : WE Cs X iter ρ M fun x M1 => ∃ ds, x = .lst ds ∧ K (fun _ => True) ds M1) : WI Cs X tg iter ρ M K :=
  .mk fun F σ H A R k => (pi_list pe_sem).sem (h.run _ σ H A _ fun v d H1 M1 p1 m1 r1 ⟨ds, e, hK⟩ => by
    subst e
    cases r1 with
    | lst hz hr rs => exact ⟨_, rfl, ⟨_, .inl hr⟩, k _ H1 M1 _ ds p1 m1 (src_lst hz hr rs) hK⟩)
theorem wi_tup (h : WE Cs X iter ρ M fun x M1 => ∃ ds, x = .tup ds ∧ K (fun _ => True) ds M1) : WI Cs X tg iter ρ M K :=
  .mk fun F σ H A R k => (pi_tup pe_sem).sem (h.run _ σ H A _ fun v d H1 M1 p1 m1 r1 ⟨ds, e, hK⟩ => by
    subst e
    cases r1 with
    | tup hz hr rs => exact ⟨_, rfl, ⟨_, .inl hr⟩, k _ H1 M1 _ ds p1 m1 (src_tup hz hr rs) hK⟩)
theorem wi_own (h : WE Cs X iter ρ M fun x M1 => ∃ q ds, x = .ref q ∧ M1 q = some (.lst ds) ∧ K (fun M' => M' q = some (.lst ds)) ds M1) : WI Cs X tg iter ρ M K :=
  .mk fun F σ H A R k => (pi_list pe_sem).sem (h.run _ σ H A _ fun v d H1 M1 p1 m1 r1 ⟨q, ds, e, hM, hK⟩ => by
    subst e
    cases r1
    obtain ⟨vs, e, r⟩ := m1.at_ q _ hM
    exact ⟨_, rfl, ⟨_, .inl (.inl e)⟩, k _ H1 M1 _ ds p1 m1 src_own hK⟩)
theorem upTo_get {n i : Nat} (hi : i < n) : (upTo n)[i]? = some (.int (i : Int)) := by unfold upTo; rw [List.getElem?_map, List.getElem?_range hi]; rfl
theorem upTo_len (n : Nat) : (upTo n).length = n := by unfold upTo; rw [List.length_map, List.length_range]
theorem src_rng {H1 : Hp} {M1 : Mem} {n : Nat} : Src Cs F M1 H1 (fun _ => True) (Itr 0 ((n : Int).toNat)) (upTo n) where
  go := fun F' i H' M' hF p m _ hi => by
    have hi : i < n := by rw [upTo_len] at hi; exact hi
    show i < _
    omega
  yl := fun F' i v H' M' H2 hF p m _ hi y => by
    have hi : i < n := by rw [upTo_len] at hi; exact hi
    obtain ⟨rfl, rfl⟩ := y
    refine ⟨_, upTo_get hi, .refl, m, ?_, fun _ _ z => z⟩
    rw [Int.zero_add]
    exact .int _
  st := fun F' i H' M' hF p m _ hi => by
    have hi : n ≤ i := by rw [upTo_len] at hi; exact hi
    show _ ≤ i
    omega
theorem wi_range (hg : Gl X "range") (hm : X.mg "range" = none) (h : WE Cs X e ρ M fun x M1 => ∃ n : Nat, x = .int (n : Int) ∧ n ≤ 100000 ∧ K (fun _ => True) (upTo n) M1) (hst : starEach [e] X.env = [(false, eval e X.env)] := by rfl) : WI Cs X tg (.Call (.Name "range" p) [e] [] apos) ρ M K :=
  .mk fun F σ H A R k => (pi_range1 hg hm (pa_cons pe_sem pa_nil hst) hst).sem (h.run _ σ H A _ fun v d H1 M1 p1 m1 r1 ⟨n, ed, hn, hK⟩ => by
    subst ed
    cases r1
    exact ⟨(n : Int), rfl, by omega, by omega, k _ H1 M1 _ _ p1 m1 src_rng hK⟩)
/-- the signs of a text -/
def signs (x : Str) : List D := x.cps.toList.map fun c => D.str ⟨#[c]⟩
theorem signs_len (x : Str) : (signs x).length = x.length := by unfold signs; rw [List.length_map, Array.length_toList]; rfl
theorem src_str {H1 : Hp} {M1 : Mem} {x : Str} : Src Cs F M1 H1 (fun _ => True) (Its x) (signs x) where
  go := fun F' i H' M' hF p m _ hi => by
    rw [signs_len] at hi
    exact hi
  yl := fun F' i v H' M' H2 hF p m _ hi y => by
    obtain ⟨rfl, c, hc, rfl⟩ := y
    refine ⟨.str ⟨#[c]⟩, ?_, .refl, m, .str _, fun _ _ z => z⟩
    unfold signs
    rw [List.getElem?_map, Array.getElem?_toList, hc]
    rfl
  st := fun F' i H' M' hF p m _ hi => by
    rw [signs_len] at hi
    exact hi
theorem wi_str (h : WE Cs X iter ρ M fun d M1 => ∃ x, d = .str x ∧ K (fun _ => True) (signs x) M1) : WI Cs X tg iter ρ M K :=
  .mk fun F σ H A R k => (pi_str pe_sem).sem (h.run _ σ H A _ fun v d H1 M1 p1 m1 r1 ⟨x, ed, hK⟩ => by
    subst ed
    cases r1
    exact ⟨x, rfl, k _ H1 M1 _ _ p1 m1 src_str hK⟩)
/-! a new pair at each turn -/
theorem pair_new {F' : Addr → Prop} {M' : Mem} {H' : Hp} {T : Addr} {v1 v2 : V} {d1 d2 : D} (m : MemAt Cs F' M' H') (hT : H' T = none) (r1 : Rep Cs (Zf F' M') H' v1 d1) (r2 : Rep Cs (Zf F' M') H' v2 d2) :
    Post M' H' M' (upd H' T (.tup [v1, v2])) ∧ MemAt Cs F' M' (upd H' T (.tup [v1, v2])) ∧ Rep Cs (Zf F' M') (upd H' T (.tup [v1, v2])) (.ref T) (.tup [d1, d2]) ∧ ∀ a o, H' a = some o → upd H' T (.tup [v1, v2]) a = some o :=
  ⟨post_new hT, m.new hT, .tup (m.notZ hT) (.inl upd_same) (.cons (r1.go (post_new hT)) (.cons (r2.go (post_new hT)) .nil)), fun a o h => by rw [upd_ne (ne_of_none h hT)]; exact h⟩
def numd (ds : List D) : List D := ds.zipIdx.map fun p => D.tup [.int (p.2 : Int), p.1]
theorem numd_get {ds : List D} {i : Nat} {d : D} (h : ds[i]? = some d) : (numd ds)[i]? = some (.tup [.int (i : Int), d]) := by
  unfold numd
  rw [List.getElem?_map, List.getElem?_zipIdx, h]
  simp
theorem numd_len (ds : List D) : (numd ds).length = ds.length := by unfold numd; simp
theorem fz {F F' : Addr → Prop} {M1 : Mem} {H1 : Hp} (hF : ∀ a, F' a → F a ∨ H1 a = none) (a : Addr) (z : Zf F' M1 a) : Zf F M1 a ∨ H1 a = none := z.elim (fun y => (hF a y).elim (fun w => .inl (.inl w)) .inr) fun y => .inl (.inr y)
theorem src_enum {H1 : Hp} {M1 : Mem} {K : PySem.W.Frag} {al : Addr} {vl : List V} {ds : List D} (hz : ¬ Zf F M1 al) (hr : Rd H1 al (.lst vl)) (rs : Reps Cs (Zf F M1) H1 vl ds) : Src Cs F M1 H1 (fun _ => True) (Ite K al) (numd ds) where
  go := fun F' i H' M' hF p m _ hi => by
    rw [numd_len] at hi
    exact ⟨vl, vl[i]'(by rw [rs.length]; exact hi), .inl (rd_ex p hz hr).1, by simp⟩
  yl := fun F' i v H' M' H2 hF p m _ hi y => by
    obtain ⟨T, x, rfl, hT, rfl, y⟩ := y
    obtain ⟨d, hd, r⟩ := rs.getV (y vl (.inl (rd_ex p hz hr).1))
    obtain ⟨a1, a2, a3, a4⟩ := pair_new m hT (.int (i : Nat)) ((r.far (Z' := Zf F' M1) (fz hF)).go p)
    exact ⟨_, numd_get hd, a1, a2, a3, a4⟩
  st := fun F' i H' M' hF p m _ hi => ⟨vl, .inl (rd_ex p hz hr).1, by rw [rs.length]; rw [numd_len] at hi; exact hi⟩
theorem src_enumO {H1 : Hp} {M1 : Mem} {K : PySem.W.Frag} {al : Addr} {ds : List D} : Src Cs F M1 H1 (fun M' => M' al = some (.lst ds)) (Ite K al) (numd ds) where
  go := fun F' i H' M' hF p m u hi => by
    rw [numd_len] at hi
    obtain ⟨vs, e, r⟩ := m.at_ al _ u
    exact ⟨vs, vs[i]'(by rw [r.length]; exact hi), .inl (.inl e), by simp⟩
  yl := fun F' i v H' M' H2 hF p m u hi y => by
    obtain ⟨T, x, rfl, hT, rfl, y⟩ := y
    obtain ⟨vs, e, r⟩ := m.at_ al _ u
    obtain ⟨d, hd, rd⟩ := r.getV (y vs (.inl (.inl e)))
    obtain ⟨a1, a2, a3, a4⟩ := pair_new m hT (.int (i : Nat)) rd
    exact ⟨_, numd_get hd, a1, a2, a3, a4⟩
  st := fun F' i H' M' hF p m u hi => by
    obtain ⟨vs, e, r⟩ := m.at_ al _ u
    exact ⟨vs, .inl (.inl e), by rw [r.length]; rw [numd_len] at hi; exact hi⟩
section
variable {elts : List Expr} {kk : Nat} {tpos : Pos}
theorem wi_enum (hg : Gl X "enumerate") (hm : X.mg "enumerate" = none) (h : WE Cs X e ρ M fun x M1 => ∃ ds, x = .lst ds ∧ K (fun _ => True) (numd ds) M1) (hst : starEach [e] X.env = [(false, eval e X.env)] := by rfl) : WI Cs X (.Tuple elts kk tpos) (.Call (.Name "enumerate" p) [e] [] apos) ρ M K :=
  .mk fun F σ H A R k => (pi_enum hg hm (pa_cons pe_sem pa_nil hst) hst).sem (h.run _ σ H A _ fun v d H1 M1 p1 m1 r1 ⟨ds, ed, hK⟩ => by
    subst ed
    cases r1 with
    | lst hz hr rs => exact ⟨_, _, rfl, .inl hr, k _ H1 M1 _ _ p1 m1 (src_enum hz hr rs) hK⟩)
theorem wi_enumO (hg : Gl X "enumerate") (hm : X.mg "enumerate" = none) (h : WE Cs X e ρ M fun x M1 => ∃ q ds, x = .ref q ∧ M1 q = some (.lst ds) ∧ K (fun M' => M' q = some (.lst ds)) (numd ds) M1) (hst : starEach [e] X.env = [(false, eval e X.env)] := by rfl) : WI Cs X (.Tuple elts kk tpos) (.Call (.Name "enumerate" p) [e] [] apos) ρ M K :=
  .mk fun F σ H A R k => (pi_enum hg hm (pa_cons pe_sem pa_nil hst) hst).sem (h.run _ σ H A _ fun v d H1 M1 p1 m1 r1 ⟨q, ds, ed, hM, hK⟩ => by
    subst ed
    cases r1
    obtain ⟨vs, e, r⟩ := m1.at_ q _ hM
    exact ⟨_, _, rfl, .inl (.inl e), k _ H1 M1 _ _ p1 m1 src_enumO hK⟩)
def zipd (ds es : List D) : List D := List.zipWith (fun a b => D.tup [a, b]) ds es
theorem zipd_len (ds es : List D) : (zipd ds es).length = min ds.length es.length := by unfold zipd; simp
theorem zipd_get {ds es : List D} {i : Nat} {d e : D} (h : ds[i]? = some d) (h' : es[i]? = some e) : (zipd ds es)[i]? = some (.tup [d, e]) := by
  unfold zipd
  rw [List.getElem?_zipWith, h, h']
theorem src_zip {H1 : Hp} {M1 : Mem} {K : PySem.W.Frag} {al bl : Addr} {vl wl : List V} {ds es : List D} (hz : ¬ Zf F M1 al) (hr : Rd H1 al (.lst vl)) (rs : Reps Cs (Zf F M1) H1 vl ds) (hz' : ¬ Zf F M1 bl) (hr' : Rd H1 bl (.lst wl)) (rs' : Reps Cs (Zf F M1) H1 wl es) :
    Src Cs F M1 H1 (fun _ => True) (Itz K al bl) (zipd ds es) where
  go := fun F' i H' M' hF p m _ hi => by
    rw [zipd_len] at hi
    exact ⟨vl, wl, vl[i]'(by rw [rs.length]; omega), wl[i]'(by rw [rs'.length]; omega), .inl (rd_ex p hz hr).1, .inl (rd_ex p hz' hr').1, by simp, by simp⟩
  yl := fun F' i v H' M' H2 hF p m _ hi y => by
    obtain ⟨T, x, y, rfl, hT, rfl, y1, y2⟩ := y
    obtain ⟨d, hd, r⟩ := rs.getV (y1 vl (.inl (rd_ex p hz hr).1))
    obtain ⟨d', hd', r'⟩ := rs'.getV (y2 wl (.inl (rd_ex p hz' hr').1))
    obtain ⟨a1, a2, a3, a4⟩ := pair_new m hT ((r.far (Z' := Zf F' M1) (fz hF)).go p) ((r'.far (Z' := Zf F' M1) (fz hF)).go p)
    exact ⟨_, zipd_get hd hd', a1, a2, a3, a4⟩
  st := fun F' i H' M' hF p m _ hi => ⟨vl, wl, .inl (rd_ex p hz hr).1, .inl (rd_ex p hz' hr').1, by rw [rs.length, rs'.length]; rw [zipd_len] at hi; omega⟩
/-- zip of two lists -/
theorem wi_zip {e2 : Expr} (hg : Gl X "zip") (hm : X.mg "zip" = none) (h : WA Cs X [e, e2] ρ M fun xs M1 => ∃ ds es, xs = [.lst ds, .lst es] ∧ K (fun _ => True) (zipd ds es) M1)
    (hst : starEach [e, e2] X.env = (false, eval e X.env) :: starEach [e2] X.env := by rfl) (hpl : (backTo apos (starEach [e2] X.env)).any (·.1) = false := by rfl) : WI Cs X (.Tuple elts kk tpos) (.Call (.Name "zip" p) [e, e2] [] apos) ρ M K :=
  .mk fun F σ H A R k => (pi_zip hg hm pa_sem hst hpl).sem (h.run _ σ H A _ fun vs xs H1 M1 p1 m1 r1 ⟨ds, es, ed, hK⟩ => by
    subst ed
    obtain ⟨v, v', rfl, r, r'⟩ := reps2 r1
    cases r with
    | lst hz hr rs =>
      cases r' with
      | lst hz' hr' rs' => exact ⟨_, _, _, _, rfl, .inl hr, .inl hr', k _ H1 M1 _ _ p1 m1 (src_zip hz hr rs hz' hr' rs') hK⟩)
end
/-! ### dicts that are gone over: locked from then on -/
theorem pe_lk {te : TE} (he : PE X e te) : PE X e (fun σ H Q => te σ H fun x H1 => ∃ d kvs, x = .ref d ∧ Rd H1 d (.dK kvs) ∧ ∀ o H2, H2 d = some (.frz o (.dK kvs)) → (H2 = H1 ∨ H1 d = some (.dK kvs) ∧ H2 = upd H1 d (.frz o (.dK kvs))) → Q x H2) := by
  refine ⟨fun pins s σ H Q I h => ?_⟩
  refine wpAny_mono (he.run pins s σ H _ I h) (fun u s1 hu => ?_) fun _ _ z => z
  obtain ⟨v, H1, I1, rv, d, kvs, rfl, rd, q⟩ := hu
  rcases rd with hd | ⟨o, hd⟩
  · obtain ⟨od, I2⟩ := I1.lock hd True.intro
    exact ⟨_, _, I2, rv, q od _ upd_same (.inr ⟨hd, rfl⟩)⟩
  · exact ⟨_, _, I1, rv, q o _ hd (.inl rfl)⟩
theorem post_lk {H1 H2 : Hp} {d : Addr} {o : Obj} {kvs : List (Key × V)} (h : H2 = H1 ∨ H1 d = some (.dK kvs) ∧ H2 = upd H1 d (.frz o (.dK kvs))) : Post M H1 M H2 := by
  rcases h with rfl | ⟨hd, rfl⟩
  · exact .refl
  · refine ⟨fun b ob hb ho => ?_, fun b hb => .inl hb⟩
    by_cases z : b = d
    · subst z
      rw [hd] at ho
      cases ho
      exact .inr ⟨o, kvs, rfl, upd_same⟩
    · exact .inl (by rw [upd_ne z]; exact ho)
theorem mem_lk {H1 H2 : Hp} {d : Addr} {o : Obj} {kvs : List (Key × V)} (m : MemAt Cs F M H1) (hz : ¬ Zf F M d) (h : H2 = H1 ∨ H1 d = some (.dK kvs) ∧ H2 = upd H1 d (.frz o (.dK kvs))) : MemAt Cs F M H2 := by
  rcases h with rfl | ⟨hd, rfl⟩
  · exact m
  · have hn : M d = none := Classical.byContradiction fun q => hz (.inr q)
    refine m.go (post_lk (o := o) (.inr ⟨hd, rfl⟩)) fun a n e => ?_
    have ne : a ≠ d := fun z => by rw [z, hn] at e; cases e
    refine .inl ⟨e, fun u h => by rw [upd_ne ne]; exact h, fun dx z => ?_⟩
    obtain ⟨_, hx⟩ := (m.at_ a _ e).aux z
    have nd : dx ≠ d := fun z => by rw [z, hn] at hx; cases hx
    exact ⟨fun u h => by rw [upd_ne nd]; exact h, hx⟩
def keyD : Key → D
  | .inl i => .int i
  | .inr x => .str x
theorem keyD_rep {Z : Addr → Prop} {H : Hp} (k : Key) : Rep Cs Z H (kV k) (keyD k) := by
  cases k with
  | inl i => exact .int i
  | inr x => exact .str x
/-- a data dict, locked -/
theorem lk_run (h : WE Cs X e ρ M fun x M1 => ∃ ks ds, x = .dct ks ds ∧ Φ x M1) : ∀ (F : Addr → Prop) σ H, At Cs F M H σ ρ → ∀ Q : VK, (∀ d o vs ks ds H2 M1, Post M H M1 H2 → MemAt Cs F M1 H2 → ¬ Zf F M1 d → H2 d = some (.frz o (.dK (ks.zip vs))) → ks.length = vs.length → Reps Cs (Zf F M1) H2 vs ds → Φ (.dct ks ds) M1 → Q (.ref d) H2) →
    semE X e σ H fun x H1 => ∃ d kvs, x = .ref d ∧ Rd H1 d (.dK kvs) ∧ ∀ o H2, H2 d = some (.frz o (.dK kvs)) → (H2 = H1 ∨ H1 d = some (.dK kvs) ∧ H2 = upd H1 d (.frz o (.dK kvs))) → Q x H2 := fun F σ H A Q k =>
  h.run F σ H A _ fun v d H1 M1 p1 m1 r1 ⟨ks, ds, ed, hΦ⟩ => by
    subst ed
    cases r1 with
    | dct hz hr hl rs =>
      refine ⟨_, _, rfl, hr, fun o H2 hd hc => ?_⟩
      have pl := post_lk (M := M1) hc
      exact k _ o _ ks ds H2 M1 (p1.trans pl) (mem_lk m1 hz hc) hz hd hl (rs.go pl) hΦ
section
variable {H1 : Hp} {M1 : Mem} {dd : Addr} {o : Obj} {ks : List Key} {vs : List V} {ds : List D}
theorem lk_stay {H' : Hp} {M' : Mem} (hz : ¬ Zf F M1 dd) (hd : H1 dd = some (.frz o (.dK (ks.zip vs)))) (p : Post M1 H1 M' H') : H' dd = some (.frz o (.dK (ks.zip vs))) := p.keep (Classical.byContradiction fun q => hz (.inr q)) hd fun _ z => nomatch z
theorem zip_len (hl : ks.length = vs.length) (rs : Reps Cs (Zf F M1) H1 vs ds) : (ks.zip vs).length = ds.length ∧ ks.length = ds.length := by
  have := rs.length
  rw [List.length_zip]
  omega
theorem zip_get {i : Nat} {k : Key} {v : V} (h : (ks.zip vs)[i]? = some (k, v)) : ks[i]? = some k ∧ vs[i]? = some v := by
  rw [List.getElem?_zip_eq_some] at h
  exact h
theorem src_vals (hz : ¬ Zf F M1 dd) (hd : H1 dd = some (.frz o (.dK (ks.zip vs)))) (hl : ks.length = vs.length) (rs : Reps Cs (Zf F M1) H1 vs ds) : Src Cs F M1 H1 (fun _ => True) (Itd dd o (ks.zip vs)) ds where
  go := fun F' i H' M' hF p m _ hi => ⟨lk_stay hz hd p, by rw [(zip_len hl rs).1]; exact hi⟩
  yl := fun F' i v H' M' H2 hF p m _ hi y => by
    obtain ⟨rfl, k, y⟩ := y
    obtain ⟨d, hd', r⟩ := rs.getV (zip_get y).2
    exact ⟨d, hd', .refl, m, (r.far (Z' := Zf F' M1) (fz hF)).go p, fun _ _ z => z⟩
  st := fun F' i H' M' hF p m _ hi => ⟨lk_stay hz hd p, by rw [(zip_len hl rs).1]; exact hi⟩
theorem src_keys (hz : ¬ Zf F M1 dd) (hd : H1 dd = some (.frz o (.dK (ks.zip vs)))) (hl : ks.length = vs.length) (rs : Reps Cs (Zf F M1) H1 vs ds) : Src Cs F M1 H1 (fun _ => True) (Itk dd o (ks.zip vs)) (ks.map keyD) where
  go := fun F' i H' M' hF p m _ hi => ⟨lk_stay hz hd p, by rw [List.length_map] at hi; have := zip_len hl rs; omega⟩
  yl := fun F' i v H' M' H2 hF p m _ hi y => by
    obtain ⟨rfl, k, w, y, rfl⟩ := y
    exact ⟨keyD k, by rw [List.getElem?_map, (zip_get y).1]; rfl, .refl, m, keyD_rep k, fun _ _ z => z⟩
  st := fun F' i H' M' hF p m _ hi => ⟨lk_stay hz hd p, by rw [List.length_map] at hi; have := zip_len hl rs; omega⟩
theorem src_items (hz : ¬ Zf F M1 dd) (hd : H1 dd = some (.frz o (.dK (ks.zip vs)))) (hl : ks.length = vs.length) (rs : Reps Cs (Zf F M1) H1 vs ds) : Src Cs F M1 H1 (fun _ => True) (Iti dd o (ks.zip vs)) (zipd (ks.map keyD) ds) where
  go := fun F' i H' M' hF p m _ hi => ⟨lk_stay hz hd p, by rw [zipd_len, List.length_map] at hi; have := zip_len hl rs; omega⟩
  yl := fun F' i v H' M' H2 hF p m _ hi y => by
    obtain ⟨T, k, w, y, rfl, hT, rfl⟩ := y
    obtain ⟨d, hd', r⟩ := rs.getV (zip_get y).2
    obtain ⟨a1, a2, a3, a4⟩ := pair_new m hT (keyD_rep k) ((r.far (Z' := Zf F' M1) (fz hF)).go p)
    exact ⟨_, zipd_get (by rw [List.getElem?_map, (zip_get y).1]; rfl) hd', a1, a2, a3, a4⟩
  st := fun F' i H' M' hF p m _ hi => ⟨lk_stay hz hd p, by rw [zipd_len, List.length_map] at hi; have := zip_len hl rs; omega⟩
end
/-- for .. in d.values() -/
theorem wi_vals (h : WE Cs X e ρ M fun x M1 => ∃ ks ds, x = .dct ks ds ∧ K (fun _ => True) ds M1) (hbase : attributeBase e "values" X.env (eval e X.env) = eval e X.env := by rfl) (hline : (apos.endLine == cpos.line) = true := by rfl) : WI Cs X tg (.Call (.Attribute e "values" apos) [] [] cpos) ρ M K :=
  .mk fun F σ H A R k => (pi_values (pe_lk pe_sem) hbase hline).sem (lk_run (Φ := fun x M1 => ∃ ks ds, x = .dct ks ds ∧ K (fun _ => True) ds M1) (.mk fun F σ H A Q k => h.run F σ H A Q fun v d H1 M1 p m r ⟨ks, ds, e, hK⟩ => k v d H1 M1 p m r ⟨ks, ds, e, ks, ds, e, hK⟩) F σ H A _
    fun d o vs ks ds H2 M1 p m hz hd hl rs ⟨ks', ds', e, hK⟩ => by cases e; exact ⟨d, o, _, rfl, hd, k _ H2 M1 _ _ p m (src_vals hz hd hl rs) hK⟩)
/-- for .. in d -/
theorem wi_keys (h : WE Cs X iter ρ M fun x M1 => ∃ ks ds, x = .dct ks ds ∧ K (fun _ => True) (ks.map keyD) M1) : WI Cs X tg iter ρ M K :=
  .mk fun F σ H A R k => (pi_keys (pe_lk pe_sem)).sem (lk_run (Φ := fun x M1 => ∃ ks ds, x = .dct ks ds ∧ K (fun _ => True) (ks.map keyD) M1) (.mk fun F σ H A Q k => h.run F σ H A Q fun v d H1 M1 p m r ⟨ks, ds, e, hK⟩ => k v d H1 M1 p m r ⟨ks, ds, e, ks, ds, e, hK⟩) F σ H A _
    fun d o vs ks ds H2 M1 p m hz hd hl rs ⟨ks', ds', e, hK⟩ => by cases e; exact ⟨d, o, rfl, .inl ⟨_, hd, k _ H2 M1 _ _ p m (src_keys hz hd hl rs) hK⟩⟩)
/-- for .. in d.items() -/
theorem wi_items {elts : List Expr} {kk : Nat} {tpos : Pos} (h : WE Cs X e ρ M fun x M1 => ∃ ks ds, x = .dct ks ds ∧ K (fun _ => True) (zipd (ks.map keyD) ds) M1) (hbase : attributeBase e "items" X.env (eval e X.env) = eval e X.env := by rfl) (hline : (apos.endLine == cpos.line) = true := by rfl) : WI Cs X (.Tuple elts kk tpos) (.Call (.Attribute e "items" apos) [] [] cpos) ρ M K :=
  .mk fun F σ H A R k => (pi_items (pe_lk pe_sem) hbase hline).sem (lk_run (Φ := fun x M1 => ∃ ks ds, x = .dct ks ds ∧ K (fun _ => True) (zipd (ks.map keyD) ds) M1) (.mk fun F σ H A Q k => h.run F σ H A Q fun v d H1 M1 p m r ⟨ks, ds, e, hK⟩ => k v d H1 M1 p m r ⟨ks, ds, e, ks, ds, e, hK⟩) F σ H A _
    fun d o vs ks ds H2 M1 p m hz hd hl rs ⟨ks', ds', e, hK⟩ => by cases e; exact ⟨d, o, _, rfl, hd, k _ H2 M1 _ _ p m (src_items hz hd hl rs) hK⟩)
end
end DL
/-! ### texts, parts of sequences, sums of sequences -/
namespace DL
open PySem PySem.Spec PyProof.Rows L2
section
variable {X : Cx}
theorem op_catR : OpR X (binaryOp .Add) (fun x y H Q => ∃ l b xs zs, x = .ref l ∧ y = .ref b ∧ Rd H l (.lst xs) ∧ Rd H b (.lst zs) ∧ xs.length + zs.length ≤ sizeLine ∧ ∀ p, H p = none → Q (.ref p) (upd H p (.lst (xs ++ zs)))) := by
  intro pins s σ H x y v u Q I rx ry h
  obtain ⟨l, b, xs, zs, rfl, rfl, hH, hB, hz, q⟩ := h
  cases rx
  cases ry
  obtain ⟨z, its, n, r, e⟩ := hH.ok I.hok
  obtain ⟨z2, its2, n2, r2, e2⟩ := hB.ok I.hok
  have l1 := r.length
  have l2 := r2.length
  refine PySem.P.add_list e e2 ?_ (by rw [List.size_toArray, List.size_toArray]; omega)
  have ea : its.toArray ++ its2.toArray = (its ++ its2).toArray := by simp
  rw [ea]
  exact ⟨.ref _, _, I.lnew (t' := s.toks) (r.append r2) (by rw [List.length_append]; omega), rfl, q _ I.fresh⟩
theorem mt_extendR : MtR X "list.extend" (fun x vs H Q => ∃ l b xs zs, x = .ref l ∧ vs = [.ref b] ∧ H l = some (.lst xs) ∧ Rd H b (.lst zs) ∧ xs.length + zs.length ≤ sizeLine ∧ Q .non (upd H l (.lst (xs ++ zs)))) := by
  intro pins s σ H x vs v us Q I rx rv h
  obtain ⟨l, b, xs, zs, rfl, rfl, hH, hB, hz, q⟩ := h
  cases rx
  obtain ⟨u, rfl, ru⟩ := rv.one
  cases ru
  obtain ⟨z, its, n, r, hl, e⟩ := I.lstM hH
  obtain ⟨z2, its2, n2, r2, e2⟩ := hB.ok I.hok
  have hl2 := r2.length
  have hsz : its.toArray.size + its2.toArray.size ≤ sizeLine := by rw [List.size_toArray, List.size_toArray]; omega
  have hlong : ¬ (!its.toArray.isEmpty && Builtin.List.listTooLong (its.toArray.size + its2.toArray.size)) = true := by
    rw [notLongL hsz, Bool.and_false]
    exact Bool.false_ne_true
  refine call_meets F.slot_list_extend ⟨_, e, rfl⟩ F.entry_list_extend (F.args_list_extend_2 _ _)
    (AutoSeq1.list_extend_list_list_0 l its.toArray n b its2.toArray n2 hlong (by rw [List.size_toArray]; omega) (by omega)) ⟨e, e2, ?_⟩
  refine ⟨.non, _, I.lset (its' := its ++ its2) hH e (by simp) (r.append r2) ?_, rfl, q⟩
  rw [List.length_append]
  omega
end
section
variable {Cs : Nat → Addr} {F : Addr → Prop} {X : Cx} {ρ : Env} {M : Mem} {a b c e o : Expr} {es : List Expr} {pos p apos : Pos} {Φ : D → Mem → Prop} {E : DE} {x y z : Str}
/-! built-ins over texts -/
theorem wc_lenS (hl : x.length ≤ 100000) (h : Φ (.int x.length) M) : WC Cs X (.builtin "len") [.str x] M Φ := wc_of call_len_str fun H vs Q m rs k => by
  obtain ⟨v, rfl, r⟩ := reps1 rs
  cases r
  exact ⟨x, rfl, sz_of hl, k.here m (.int _) h⟩
theorem wc_strI {i : Int} (hl : i.natAbs.log2 < 1920) (h : Φ (.str (toString i)) M) : WC Cs X (.type "str") [.int i] M Φ := wc_of call_str_int fun H vs Q m rs k => by
  obtain ⟨v, rfl, r⟩ := reps1 rs
  cases r
  exact ⟨i, rfl, hl, k.here m (.str _) h⟩
theorem wc_intS {n : Int} (hn : PySem.intText? x = some n) (hl : x.length ≤ 640) (h : Φ (.int n) M) : WC Cs X (.type "int") [.str x] M Φ := wc_of call_int_str fun H vs Q m rs k => by
  obtain ⟨v, rfl, r⟩ := reps1 rs
  cases r
  exact ⟨x, n, rfl, hn, hl, k.here m (.int _) h⟩
theorem wix_str {i : Int} {c : Nat} (hl : x.length ≤ 100000) (hi : atI x.cps.toList i = some c) (h : Φ (.str ⟨#[c]⟩) M) : WIx Cs X (.str x) (.int i) M Φ := .mk fun F H vx vy m rx ry Q k => by
  cases rx; cases ry
  exact ix_str.sem ⟨x, i, c, rfl, rfl, sz_of hl, hi, k.here m (.str _) h⟩
theorem wo_addS (hl : x.length + y.length ≤ 100000) (h : Φ (.str (x ++ y)) M) : WO Cs X (binaryOp .Add) (.str x) (.str y) M Φ := .mk fun F H vx vy m rx ry Q k => by
  cases rx; cases ry
  exact op_add_str.sem ⟨x, y, rfl, rfl, sz_of hl, k.here m (.str _) h⟩
theorem wo_inSign {c : Nat} (h : Φ (.bl (decide (c ∈ x.cps.toList))) M) : WO Cs X (compareOp .In) (.str ⟨#[c]⟩) (.str x) M Φ := .mk fun F H vx vy m rx ry Q k => by
  cases rx; cases ry
  exact op_in_sign.sem ⟨c, x, rfl, rfl, k.here m (.bl _) h⟩
/-! a text in a row of texts -/
theorem reps_str {Z : Addr → Prop} {H : Hp} : ∀ {vs : List V} {ss : List Str}, Reps Cs Z H vs (ss.map D.str) → vs = ss.map V.str
  | _, [], .nil => rfl
  | _, b :: bs, .cons h r => by
    cases h
    rw [reps_str (ss := bs) r]
    rfl
theorem strs_rep {Z : Addr → Prop} {H : Hp} : ∀ (ss : List Str), Reps Cs Z H (ss.map V.str) (ss.map D.str)
  | [] => .nil
  | s :: ss => .cons (.str s) (strs_rep ss)
theorem inV_strs (x : Str) (ss : List Str) : inV (.str x) (ss.map V.str) = decide (x ∈ ss) := by
  unfold inV
  induction ss with
  | nil => rfl
  | cons s ss ih =>
    rw [List.map_cons, List.any_cons, ih]
    show (s == x || decide (x ∈ ss)) = _
    by_cases h : s = x
    · subst h; simp
    · have h2 : (s == x) = false := by rw [beq_eq_false_iff_ne]; exact h
      rw [h2, Bool.false_or]
      by_cases h3 : x ∈ ss
      · rw [decide_eq_true h3, decide_eq_true (List.mem_cons_of_mem _ h3)]
      · rw [decide_eq_false h3, decide_eq_false (fun q => (List.mem_cons.mp q).elim (fun w => h w.symm) h3)]
theorem flat_strs (ss : List Str) : (ss.map V.str).all flatV = true := by
  rw [List.all_map]
  exact List.all_eq_true.mpr fun _ _ => rfl
theorem wo_inL {ss : List Str} (h : Φ (.bl (decide (x ∈ ss))) M) : WO Cs X (compareOp .In) (.str x) (.lst (ss.map D.str)) M Φ := .mk fun F H vx vy m rx ry Q k => by
  cases rx
  cases ry with
  | lst hz hr rs =>
    have e := reps_str rs
    subst e
    exact op_in_seq.sem ⟨_, _, rfl, .inl (.inl hr), rfl, flat_strs ss, by rw [if_neg Bool.false_ne_true, inV_strs]; exact k.here m (.bl _) h⟩
theorem wo_inT {ss : List Str} (h : Φ (.bl (decide (x ∈ ss))) M) : WO Cs X (compareOp .In) (.str x) (.tup (ss.map D.str)) M Φ := .mk fun F H vx vy m rx ry Q k => by
  cases rx
  cases ry with
  | tup hz hr rs =>
    have e := reps_str rs
    subst e
    exact op_in_seq.sem ⟨_, _, rfl, .inr (.inl hr), rfl, flat_strs ss, by rw [if_neg Bool.false_ne_true, inV_strs]; exact k.here m (.bl _) h⟩
/-! methods of texts -/
theorem we_split (h : WE Cs X o ρ M fun d M1 => ∃ x, d = .str x ∧ WE Cs X e ρ M1 fun d2 M2 => ∃ y, d2 = .str y ∧ (y.length == 0) = false ∧ x.length ≤ 100000 ∧ Φ (.lst ((Txt.split x y).map D.str)) M2)
    (hs : starEach [e] X.env = [(false, eval e X.env)] := by rfl) (hbase : attributeBase o "split" X.env (eval o X.env) = eval o X.env := by rfl) (hline : (apos.endLine == pos.line) = true := by rfl) : WE Cs X (.Call (.Attribute o "split" apos) [e] [] pos) ρ M Φ :=
  .mk fun F σ H A Q k => (pe_split pe_sem pe_sem hs hbase hline).sem (h.run _ σ H A _ fun v d H1 M1 p1 m1 r1 ⟨x, e1, h1⟩ => by
    subst e1
    cases r1
    refine ⟨⟨x, rfl⟩, h1.run _ σ H1 (A.go p1 m1) _ fun v2 d2 H2 M2 p2 m2 r2 ⟨y, e2, hy, hl, hΦ⟩ => ?_⟩
    subst e2
    cases r2
    refine ⟨x, y, rfl, rfl, hy, by rw [sizeLine_eq]; omega, fun q hq => k _ _ _ M2 ((p1.trans p2).trans (post_new hq)) (m2.new hq) (.lst (m2.notZ hq) (.inl upd_same) ?_) hΦ⟩
    exact strs_rep _)
theorem we_join (h : WE Cs X o ρ M fun d M1 => ∃ x, d = .str x ∧ WE Cs X e ρ M1 fun d2 M2 => ∃ ss : List Str, d2 = .lst (ss.map D.str) ∧ (ss.map (·.length)).sum + ss.length * x.length ≤ 16777216 ∧ Φ (.str (Txt.join x ss)) M2)
    (hs : starEach [e] X.env = [(false, eval e X.env)] := by rfl) (hbase : attributeBase o "join" X.env (eval o X.env) = eval o X.env := by rfl) (hline : (apos.endLine == pos.line) = true := by rfl) : WE Cs X (.Call (.Attribute o "join" apos) [e] [] pos) ρ M Φ :=
  .mk fun F σ H A Q k => (pe_join pe_sem pe_sem hs hbase hline).sem (h.run _ σ H A _ fun v d H1 M1 p1 m1 r1 ⟨x, e1, h1⟩ => by
    subst e1
    cases r1
    refine ⟨⟨x, rfl⟩, h1.run _ σ H1 (A.go p1 m1) _ fun v2 d2 H2 M2 p2 m2 r2 ⟨ss, e2, hl, hΦ⟩ => ?_⟩
    subst e2
    cases r2 with
    | lst hz hr rs =>
      have e3 := reps_str rs
      subst e3
      exact ⟨x, _, ss, rfl, rfl, .inl (.inl hr), hl, k _ _ H2 M2 (p1.trans p2) m2 (.str _) hΦ⟩)
theorem we_startswith (h : WE Cs X o ρ M fun d M1 => ∃ x, d = .str x ∧ WE Cs X e ρ M1 fun d2 M2 => ∃ y, d2 = .str y ∧ Φ (.bl (Txt.startswith x y)) M2)
    (hs : starEach [e] X.env = [(false, eval e X.env)] := by rfl) (hbase : attributeBase o "startswith" X.env (eval o X.env) = eval o X.env := by rfl) (hline : (apos.endLine == pos.line) = true := by rfl) : WE Cs X (.Call (.Attribute o "startswith" apos) [e] [] pos) ρ M Φ :=
  .mk fun F σ H A Q k => (pe_m1 PySem.F.slot_str_startswith PySem.F.type_str_startswith mt_startswith pe_sem pe_sem hs hbase hline).sem (h.run _ σ H A _ fun v d H1 M1 p1 m1 r1 ⟨x, e1, h1⟩ => by
    subst e1
    cases r1
    refine ⟨⟨x, rfl⟩, h1.run _ σ H1 (A.go p1 m1) _ fun v2 d2 H2 M2 p2 m2 r2 ⟨y, e2, hΦ⟩ => ?_⟩
    subst e2
    cases r2
    exact ⟨x, y, rfl, rfl, k _ _ H2 M2 (p1.trans p2) m2 (.bl _) hΦ⟩)
/-! sums and parts of sequences -/
theorem wo_catL {ds fs : List D} (hl : ds.length + fs.length ≤ 100000) (h : Φ (.lst (ds ++ fs)) M) : WO Cs X (binaryOp .Add) (.lst ds) (.lst fs) M Φ := .mk fun F H vx vy m rx ry Q k => by
  cases rx with
  | lst hz hr rs =>
    cases ry with
    | lst hz' hr' rs' =>
      exact op_catR.sem ⟨_, _, _, _, rfl, rfl, hr, hr', by rw [rs.length, rs'.length]; exact sz_of hl, fun p hp => k _ _ _ M (post_new hp) (m.new hp) (.lst (m.notZ hp) (.inl upd_same) ((rs.append rs').go (post_new hp))) h⟩
theorem wo_catT {ds fs : List D} (hl : ds.length + fs.length ≤ 100000) (h : Φ (.tup (ds ++ fs)) M) : WO Cs X (binaryOp .Add) (.tup ds) (.tup fs) M Φ := .mk fun F H vx vy m rx ry Q k => by
  cases rx with
  | @tup a1 v1 _ hz hr rs =>
    cases ry with
    | @tup a2 v2 _ hz' hr' rs' =>
      refine op_catA.sem ⟨_, _, _, _, rfl, rfl, .inl hr, .inl hr', by rw [rs.length, rs'.length]; exact sz_of hl, fun e => ?_, fun _ e => ?_, fun _ _ p hp => k _ _ _ M (post_new hp) (m.new hp) (.tup (m.notZ hp) (.inl upd_same) ((rs.append rs').go (post_new hp))) h⟩
      · subst e
        cases rs
        exact k.here m (.tup hz' hr' rs') h
      · subst e
        cases rs'
        rw [List.append_nil] at h
        exact k.here m (.tup hz hr rs) h
theorem Reps.drop {Z : Addr → Prop} {H : Hp} : ∀ {vs : List V} {ds : List D} (n : Nat), Reps Cs Z H vs ds → Reps Cs Z H (vs.drop n) (ds.drop n)
  | _, _, 0, r => r
  | _, _, _ + 1, .nil => .nil
  | _, _, n + 1, .cons _ r => Reps.drop n r
theorem Reps.take {Z : Addr → Prop} {H : Hp} : ∀ {vs : List V} {ds : List D} (n : Nat), Reps Cs Z H vs ds → Reps Cs Z H (vs.take n) (ds.take n)
  | _, _, 0, _ => .nil
  | _, _, _ + 1, .nil => .nil
  | _, _, n + 1, .cons h r => .cons h (Reps.take n r)
/-- a part of a row: ds[lo:hi] -/
def cutD (ds : List D) (lo hi : Option Int) : List D := (ds.drop (HT.sIx ds.length 0 lo)).take (HT.sIx ds.length ds.length hi - HT.sIx ds.length 0 lo)
theorem cut_rep {Z : Addr → Prop} {H : Hp} {vs : List V} {ds : List D} (lo hi : Option Int) (r : Reps Cs Z H vs ds) : Reps Cs Z H (cutV vs lo hi) (cutD ds lo hi) := by
  unfold cutV cutD
  rw [r.length]
  exact (r.drop _).take _
/-- the bounds of a part -/
def semPO (X : Cx) (oe : Option Expr) : TO := fun σ H Q => ∀ pins s, Inv X pins σ H s → wpAny (model X.prog X.w) X.A (evalPart oe X.env) (fun u s' => ∃ o H', Inv X pins σ H' s' ∧ IsPart u o ∧ Q o H') X.xe s
theorem po_sem {oe : Option Expr} : PO X oe (semPO X oe) := ⟨fun pins s _ _ _ I h => h pins s I⟩
structure WP (Cs : Nat → Addr) (X : Cx) (oe : Option Expr) (ρ : Env) (M : Mem) (Ψ : Option Int → Mem → Prop) : Prop where
  run : ∀ (F : Addr → Prop) σ H, At Cs F M H σ ρ → ∀ Q : Option Int → Hp → Prop, (∀ i H' M', Post M H M' H' → MemAt Cs F M' H' → Ψ i M' → Q i H') → semPO X oe σ H Q
theorem wp_none {Ψ : Option Int → Mem → Prop} (h : Ψ none M) : WP Cs X none ρ M Ψ := .mk fun F σ H A Q k pins s I => po_none.run pins s σ H Q I (k none H M .refl A.mem h)
theorem wp_some {Ψ : Option Int → Mem → Prop} (h : WE Cs X e ρ M fun d M1 => ∃ i, d = .int i ∧ Ψ (some i) M1) : WP Cs X (some e) ρ M Ψ := .mk fun F σ H A Q k pins s I => (po_some pe_sem).run pins s σ H Q I (h.run F σ H A _ fun v d H1 M1 p1 m1 r1 ⟨i, e1, h1⟩ => by
  subst e1
  cases r1
  exact ⟨i, rfl, k _ H1 M1 p1 m1 h1⟩)
theorem we_cutS {lo hi : Option Expr} {p2 : Pos} (h : WE Cs X e ρ M fun d M1 => ∃ x, d = .str x ∧ WP Cs X lo ρ M1 fun l M2 => WP Cs X hi ρ M2 fun u M3 => x.length ≤ 100000 ∧ Φ (.str (cutS x l u)) M3) : WE Cs X (.Subscript e (.Slice lo hi none p2) pos) ρ M Φ :=
  .mk fun F σ H A Q k => (pe_slice sl_str pe_sem po_sem po_sem).sem (h.run _ σ H A _ fun v d H1 M1 p1 m1 r1 ⟨x, e1, h1⟩ => by
    subst e1
    cases r1
    exact h1.run _ σ H1 (A.go p1 m1) _ fun l H2 M2 p2 m2 h2 => h2.run _ σ H2 (A.go (p1.trans p2) m2) _ fun u H3 M3 p3 m3 ⟨hl, hΦ⟩ => ⟨x, rfl, sz_of hl, k _ _ H3 M3 ((p1.trans p2).trans p3) m3 (.str _) hΦ⟩)
theorem we_cutL {lo hi : Option Expr} {p2 : Pos} (h : WE Cs X e ρ M fun d M1 => ∃ ds, d = .lst ds ∧ WP Cs X lo ρ M1 fun l M2 => WP Cs X hi ρ M2 fun u M3 => Φ (.lst (cutD ds l u)) M3) : WE Cs X (.Subscript e (.Slice lo hi none p2) pos) ρ M Φ :=
  .mk fun F σ H A Q k => (pe_slice sl_list pe_sem po_sem po_sem).sem (h.run _ σ H A _ fun v d H1 M1 p1 m1 r1 ⟨ds, e1, h1⟩ => by
    subst e1
    cases r1 with
    | lst hz hr rs =>
      exact h1.run _ σ H1 (A.go p1 m1) _ fun l H2 M2 p2 m2 h2 => h2.run _ σ H2 (A.go (p1.trans p2) m2) _ fun u H3 M3 p3 m3 hΦ => ⟨_, _, rfl, .inl (rd_ex (p2.trans p3) hz hr).1, fun q hq => k _ _ _ M3 (((p1.trans p2).trans p3).trans (post_new hq)) (m3.new hq) (.lst (m3.notZ hq) (.inl upd_same) ((cut_rep l u (rs.go (p2.trans p3))).go (post_new hq))) hΦ⟩)
theorem we_cutT {lo hi : Option Expr} {p2 : Pos} (h : WE Cs X e ρ M fun d M1 => ∃ ds, d = .tup ds ∧ WP Cs X lo ρ M1 fun l M2 => WP Cs X hi ρ M2 fun u M3 => Φ (.tup (cutD ds l u)) M3) : WE Cs X (.Subscript e (.Slice lo hi none p2) pos) ρ M Φ :=
  .mk fun F σ H A Q k => (pe_slice sl_tupA pe_sem po_sem po_sem).sem (h.run _ σ H A _ fun v d H1 M1 p1 m1 r1 ⟨ds, e1, h1⟩ => by
    subst e1
    cases r1 with
    | @tup a1 v1 _ hz hr rs =>
      refine h1.run _ σ H1 (A.go p1 m1) _ fun l H2 M2 p2 m2 h2 => h2.run _ σ H2 (A.go (p1.trans p2) m2) _ fun u H3 M3 p3 m3 hΦ => ⟨_, _, rfl, .inl (rd_ex (p2.trans p3) hz hr).1, fun hw => ?_, fun _ q hq => k _ _ _ M3 (((p1.trans p2).trans p3).trans (post_new hq)) (m3.new hq) (.tup (m3.notZ hq) (.inl upd_same) ((cut_rep l u (rs.go (p2.trans p3))).go (post_new hq))) hΦ⟩
      have e2 : cutD ds l u = ds := by
        unfold cutD
        rw [rs.length] at hw
        rw [hw.1, hw.2, List.drop_zero, Nat.sub_zero, List.take_length]
      rw [e2] at hΦ
      exact k _ _ H3 M3 ((p1.trans p2).trans p3) m3 (.tup (rd_ex (p2.trans p3) hz hr).2 (rd_ex (p2.trans p3) hz hr).1 (rs.go (p2.trans p3))) hΦ)
theorem Reps.eraseIdx {Z : Addr → Prop} {H : Hp} : ∀ {vs : List V} {ds : List D} (n : Nat), Reps Cs Z H vs ds → Reps Cs Z H (vs.eraseIdx n) (ds.eraseIdx n)
  | _, _, _, .nil => .nil
  | _, _, 0, .cons _ r => r
  | _, _, n + 1, .cons h r => .cons h (Reps.eraseIdx n r)
theorem keys_rep {Z : Addr → Prop} {H : Hp} : ∀ (ks : List Key), Reps Cs Z H (ks.map kV) (ks.map keyD)
  | [] => .nil
  | k :: ks => .cons (keyD_rep k) (keys_rep ks)
/-! list(x), tuple(x) -/
theorem wc_listL {ds : List D} (h : Φ (.lst ds) M) : WC Cs X (.type "list") [.lst ds] M Φ := wc_of call_list_of fun H vs Q m rs k => by
  obtain ⟨v, rfl, r⟩ := reps1 rs
  cases r with
  | lst hz hr r => exact ⟨_, _, rfl, .inl (.inl hr), fun l hl => k _ _ _ M (post_new hl) (m.new hl) (.lst (m.notZ hl) (.inl upd_same) (r.go (post_new hl))) h⟩
theorem wc_listLO {ds : List D} (h : ∀ q, M q = none → Φ (.ref q) (put M q (.lst ds))) : WC Cs X (.type "list") [.lst ds] M Φ := wc_of call_list_of fun H vs Q m rs k => by
  obtain ⟨v, rfl, r⟩ := reps1 rs
  cases r with
  | lst hz hr r => exact ⟨_, _, rfl, .inl (.inl hr), fun l hl => k _ _ _ (put M l (.lst ds)) (post_own hl) (m.own hl ⟨_, upd_same, r.go (post_own hl)⟩) (.ref l) (h l (m.old hl))⟩
theorem wc_listT {ds : List D} (h : Φ (.lst ds) M) : WC Cs X (.type "list") [.tup ds] M Φ := wc_of call_list_of fun H vs Q m rs k => by
  obtain ⟨v, rfl, r⟩ := reps1 rs
  cases r with
  | tup hz hr r => exact ⟨_, _, rfl, .inr (.inl hr), fun l hl => k _ _ _ M (post_new hl) (m.new hl) (.lst (m.notZ hl) (.inl upd_same) (r.go (post_new hl))) h⟩
theorem wc_tupL {ds : List D} (h : Φ (.tup ds) M) : WC Cs X (.type "tuple") [.lst ds] M Φ := wc_of call_tuple_of fun H vs Q m rs k => by
  obtain ⟨v, rfl, r⟩ := reps1 rs
  cases r with
  | lst hz hr r => exact ⟨_, _, rfl, .inl ⟨.inl hr, fun l hl => k _ _ _ M (post_new hl) (m.new hl) (.tup (m.notZ hl) (.inl upd_same) (r.go (post_new hl))) h⟩⟩
theorem wc_tupO {q : Addr} {ds : List D} (hM : M q = some (.lst ds)) (h : Φ (.tup ds) M) : WC Cs X (.type "tuple") [.ref q] M Φ := wc_of call_tuple_of fun H vs Q m rs k => by
  obtain ⟨v, rfl, r⟩ := reps1 rs
  cases r
  obtain ⟨vs, e, r⟩ := m.at_ q _ hM
  exact ⟨_, _, rfl, .inl ⟨.inl (.inl e), fun l hl => k _ _ _ M (post_new hl) (m.new hl) (.tup (m.notZ hl) (.inl upd_same) (r.go (post_new hl))) h⟩⟩
theorem wc_listD {ks : List Key} {ds : List D} (hc : X.calm = true) (h : Φ (.lst (ks.map keyD)) M) : WC Cs X (.type "list") [.dct ks ds] M Φ := wc_of (call_listD hc) fun H vs Q m rs k => by
  obtain ⟨v, rfl, r⟩ := reps1 rs
  cases r with
  | @dct a1 v1 _ _ hz hr hl r =>
    refine ⟨_, _, rfl, hr, fun l hl' => k _ _ _ M (post_new hl') (m.new hl') (.lst (m.notZ hl') (.inl upd_same) ?_) h⟩
    have e : ((ks.zip v1).map fun kv => kV kv.1) = ks.map kV := by
      have : ((ks.zip v1).map fun kv => kV kv.1) = ((ks.zip v1).map (·.1)).map kV := by rw [List.map_map]; rfl
      rw [this, List.map_fst_zip (by omega)]
    rw [e]
    exact keys_rep ks
theorem seqIndex_nat {i n : Nat} (h : i < n) : seqIndex? (i : Int) n = some i := by
  unfold seqIndex?
  have h1 : ¬ ((i : Int) < 0) := by omega
  simp only [if_neg h1]
  have h2 : 0 ≤ (i : Int) ∧ (i : Int) < (n : Int) := by omega
  simp [h2]
/-! changes of an owned list -/
theorem we_extend (h : WE Cs X o ρ M fun x M1 => ∃ q ds0, x = .ref q ∧ M1 q = some (.lst ds0) ∧ WE Cs X e ρ M1 fun d M2 => ∃ ds fs, d = .lst fs ∧ M2 q = some (.lst ds) ∧ ds.length + fs.length ≤ 100000 ∧ Φ .non (put M2 q (.lst (ds ++ fs))))
    (hbase : attributeBase o "extend" X.env (eval o X.env) = eval o X.env := by rfl)
    (hfew : ((backTo pos (starEach [e] X.env)).all (fun x => !x.1) && (backToKw pos (keywordEach [] X.env)).all (fun x => x.1.isSome)
      && decide ([e].length + ([] : List Keyword).length + (if ([] : List Keyword).isEmpty then 0 else 1) < 30)) = true := by rfl)
    (hline : (apos.endLine == pos.line) = true := by rfl) (hst : starEach [e] X.env = (false, eval e X.env) :: starEach [] X.env := by rfl) (hpl : (backTo pos (starEach [] X.env)).any (·.1) = false := by rfl) : WE Cs X (.Call (.Attribute o "extend" apos) [e] [] pos) ρ M Φ := by
  refine .mk fun F σ H A Q k => ?_
  refine (pe_bm PySem.F.plainAttrs_list PySem.F.slot_list_extend PySem.F.type_list_extend mt_extendR pe_sem (pa_cons pe_sem pa_nil hst) hbase hfew hline hst hpl).sem ?_
  refine h.run _ σ H A _ fun vx x H1 M1 p1 m1 r1 h1 => ?_
  obtain ⟨q, ds0, rfl, hM1, h1⟩ := h1
  cases r1
  obtain ⟨vs0, e0, _⟩ := m1.at_ q _ hM1
  refine ⟨.inl ⟨rfl, _, .inl (.inl e0)⟩, h1.run _ σ H1 (A.go p1 m1) _ fun vy d H2 M2 p2 m2 r2 h2 => ?_⟩
  obtain ⟨ds, fs, rfl, hM2, hl, hΦ⟩ := h2
  obtain ⟨vs, e2, rs⟩ := m2.at_ q _ hM2
  cases r2 with
  | lst hz hr rr =>
    obtain ⟨pp, mm⟩ := lst_new m2 hM2 (rs.append rr)
    exact ⟨q, _, vs, _, rfl, rfl, e2, hr, by rw [rs.length, rr.length]; exact sz_of hl, k _ _ _ _ ((p1.trans p2).trans pp) mm .non hΦ⟩
theorem we_popAt (h : WE Cs X o ρ M fun x M1 => ∃ q ds0, x = .ref q ∧ M1 q = some (.lst ds0) ∧ WE Cs X e ρ M1 fun d M2 => ∃ ds i d', d = .int (i : Nat) ∧ M2 q = some (.lst ds) ∧ ds.length ≤ 100000 ∧ ds[i]? = some d' ∧ Φ d' (put M2 q (.lst (ds.eraseIdx i))))
    (hbase : attributeBase o "pop" X.env (eval o X.env) = eval o X.env := by rfl)
    (hfew : ((backTo pos (starEach [e] X.env)).all (fun x => !x.1) && (backToKw pos (keywordEach [] X.env)).all (fun x => x.1.isSome)
      && decide ([e].length + ([] : List Keyword).length + (if ([] : List Keyword).isEmpty then 0 else 1) < 30)) = true := by rfl)
    (hline : (apos.endLine == pos.line) = true := by rfl) (hst : starEach [e] X.env = (false, eval e X.env) :: starEach [] X.env := by rfl) (hpl : (backTo pos (starEach [] X.env)).any (·.1) = false := by rfl) : WE Cs X (.Call (.Attribute o "pop" apos) [e] [] pos) ρ M Φ := by
  refine .mk fun F σ H A Q k => ?_
  refine (pe_bm PySem.F.plainAttrs_list PySem.F.slot_list_pop PySem.F.type_list_pop mt_popAt pe_sem (pa_cons pe_sem pa_nil hst) hbase hfew hline hst hpl).sem ?_
  refine h.run _ σ H A _ fun vx x H1 M1 p1 m1 r1 h1 => ?_
  obtain ⟨q, ds0, rfl, hM1, h1⟩ := h1
  cases r1
  obtain ⟨vs0, e0, _⟩ := m1.at_ q _ hM1
  refine ⟨.inl ⟨rfl, _, .inl (.inl e0)⟩, h1.run _ σ H1 (A.go p1 m1) _ fun vy d H2 M2 p2 m2 r2 h2 => ?_⟩
  obtain ⟨ds, i, d', rfl, hM2, hl, hi, hΦ⟩ := h2
  cases r2
  obtain ⟨vs, e2, rs⟩ := m2.at_ q _ hM2
  have hlt : i < ds.length := (List.getElem?_eq_some_iff.mp hi).1
  obtain ⟨w, hw, rw'⟩ := rs.get hi
  obtain ⟨pp, mm⟩ := lst_new m2 hM2 (rs.eraseIdx i)
  exact ⟨q, vs, (i : Nat), i, w, rfl, rfl, e2, by omega, by omega, by rw [rs.length]; exact seqIndex_nat hlt, hw, k _ _ _ _ ((p1.trans p2).trans pp) mm (rw'.go pp) hΦ⟩
end
end DL
/-! ### dicts -/
namespace DL
open PySem PySem.Spec PyProof.Rows L2
def getK : List Key → List D → Key → Option D
  | k' :: ks, d :: ds, k => if k' = k then some d else getK ks ds k
  | _, _, _ => none
theorem val_rep {Cs : Nat → Addr} {Z : Addr → Prop} {H : Hp} : ∀ {ks : List Key} {vs : List V} {ds : List D}, Reps Cs Z H vs ds → ks.length = vs.length → ∀ k, (∀ d, getK ks ds k = some d → ∃ v, valV (ks.zip vs) k = some v ∧ Rep Cs Z H v d) ∧ (getK ks ds k = none → valV (ks.zip vs) k = none)
  | [], _, _, .nil, _, k => ⟨fun d h => (nomatch h), fun _ => rfl⟩
  | [], _, _, .cons _ _, h, _ => by simp at h
  | _ :: _, _, _, .nil, h, _ => by simp at h
  | k' :: ks, v :: vs, d :: ds, .cons r rs, h, k => by
    obtain ⟨h1, h2⟩ := val_rep (ks := ks) rs (by simpa using h) k
    rw [List.zip_cons_cons]
    by_cases e : k' = k
    · refine ⟨fun d' hd => ?_, fun hd => ?_⟩
      · unfold getK at hd
        rw [if_pos e] at hd
        cases hd
        exact ⟨v, valV_pos (p := (k', v)) e, r⟩
      · unfold getK at hd
        rw [if_pos e] at hd
        cases hd
    · refine ⟨fun d' hd => ?_, fun hd => ?_⟩
      · unfold getK at hd
        rw [if_neg e] at hd
        obtain ⟨v', hv, r'⟩ := h1 d' hd
        exact ⟨v', by rw [valV_neg (p := (k', v)) e]; exact hv, r'⟩
      · unfold getK at hd
        rw [if_neg e] at hd
        rw [valV_neg (p := (k', v)) e]
        exact h2 hd
theorem keyD_rel {Cs : Nat → Addr} {Z : Addr → Prop} {H : Hp} {v : V} {k : Key} (r : Rep Cs Z H v (keyD k)) : v = kV k := by
  cases k with
  | inl i => cases r; rfl
  | inr x => cases r; rfl
theorem zip_snoc {ks : List Key} {vs : List V} {k : Key} {v : V} (h : ks.length = vs.length) : (ks ++ [k]).zip (vs ++ [v]) = ks.zip vs ++ [(k, v)] := by
  rw [List.zip_append h]
  rfl
theorem rm_units {k : Nat} {A : Around} (r : Rm k A) : A.units + 1 < cLine := by have := r.rm.units; omega
section
variable {X : Cx}
theorem ixD (hu : X.A.units + 1 < cLine) : IxR X (fun x y H Q => ∃ a v, x = .ref a ∧ DGet H a y (some v) ∧ Q v H) := by
  intro value slice pins s σ H x y v u Q I rx ry h hs
  obtain ⟨a, w, rfl, g, q⟩ := h
  obtain rfl : v = Value.ref a := rx
  refine tail_any (ops := [.ref a, u]) (dict_typeIs I g) PySem.F.slot_dict_getitem.lookup ?_ hs
  exact d_getItem hu I g ry fun w' s3 I3 rw' => ⟨w, H, I3, rw', q⟩
theorem opInD (hu : X.A.units + 1 < cLine) : OpR X (compareOp .In) (fun y x H Q => ∃ a o, x = .ref a ∧ DGet H a y o ∧ Q (.bl o.isSome) H) := by
  intro pins s σ H y x u v Q I ry rx h
  obtain ⟨a, o, rfl, g, q⟩ := h
  obtain rfl : v = Value.ref a := rx
  exact d_in hu I g ry fun s3 I3 => ⟨.bl o.isSome, H, I3, rfl, q⟩
theorem opNotInD (hu : X.A.units + 1 < cLine) : OpR X (compareOp .NotIn) (fun y x H Q => ∃ a o, x = .ref a ∧ DGet H a y o ∧ Q (.bl (!o.isSome)) H) := by
  intro pins s σ H y x u v Q I ry rx h
  obtain ⟨a, o, rfl, g, q⟩ := h
  obtain rfl : v = Value.ref a := rx
  exact d_notIn hu I g ry fun s3 I3 => ⟨.bl (!o.isSome), H, I3, rfl, q⟩
theorem callLenD : CallR X (.builtin "len") (fun xs H Q => ∃ a kvs, xs = [.ref a] ∧ Rd H a (.dK kvs) ∧ Q (.int kvs.length) H) := by
  intro pins s σ H xs us Q I r h
  obtain ⟨a, kvs, rfl, hd, q⟩ := h
  obtain ⟨u, rfl, ru⟩ := r.one
  cases ru
  exact d_len I hd fun t s' I' => ⟨.int kvs.length, H, I', ⟨t, rfl⟩, q⟩
/-- d == {}, d != {} -/
theorem opEqE (hu : X.A.units < cLine) : OpR X (compareOp .Eq) (fun x y H Q => ∃ a b ks, x = .ref a ∧ y = .ref b ∧ Rd H a (.dK ks) ∧ Rd H b (.dK []) ∧ Q (.bl ks.isEmpty) H) := by
  intro pins s σ H x y v u Q I rx ry h
  obtain ⟨a, b, ks, rfl, rfl, ea, eb, q⟩ := h
  obtain rfl : v = Value.ref a := rx
  obtain rfl : u = Value.ref b := ry
  obtain ⟨_, ya, va, ra, da⟩ := ea.ok I.hok
  obtain ⟨_, yb, vb, rb, db⟩ := eb.ok I.hok
  have lb : vb = [] := by cases rb; rfl
  subst lb
  have la := ra.length
  refine PySem.W.keq_eq (knd := mixKind X.prog X.w) (r := true) ya yb da db hu (fun h => ?_) (fin_bl I q ?_)
  · have : va = [] := List.length_eq_zero_iff.mp (by simpa using h)
    subst this
    exact .nil
  · cases ks <;> cases va <;> simp_all
theorem opNeE (hu : X.A.units < cLine) : OpR X (compareOp .NotEq) (fun x y H Q => ∃ a b ks, x = .ref a ∧ y = .ref b ∧ Rd H a (.dK ks) ∧ Rd H b (.dK []) ∧ Q (.bl (!ks.isEmpty)) H) := by
  intro pins s σ H x y v u Q I rx ry h
  obtain ⟨a, b, ks, rfl, rfl, ea, eb, q⟩ := h
  obtain rfl : v = Value.ref a := rx
  obtain rfl : u = Value.ref b := ry
  obtain ⟨_, ya, va, ra, da⟩ := ea.ok I.hok
  obtain ⟨_, yb, vb, rb, db⟩ := eb.ok I.hok
  have lb : vb = [] := by cases rb; rfl
  subst lb
  have la := ra.length
  refine PySem.W.keq_ne (knd := mixKind X.prog X.w) (r := true) ya yb da db hu (fun h => ?_) (fin_bl I q ?_)
  · have : va = [] := List.length_eq_zero_iff.mp (by simpa using h)
    subst this
    exact .nil
  · cases ks <;> cases va <;> simp_all
/-- xs == [], xs != [] -/
theorem opEqN (hu : X.A.units < cLine) : OpR X (compareOp .Eq) (fun x y H Q => ∃ a b xs, x = .ref a ∧ y = .ref b ∧ Rd H a (.lst xs) ∧ Rd H b (.lst []) ∧ Q (.bl xs.isEmpty) H) := by
  intro pins s σ H x y v u Q I rx ry h
  obtain ⟨a, b, xs, rfl, rfl, ea, eb, q⟩ := h
  obtain rfl : v = Value.ref a := rx
  obtain rfl : u = Value.ref b := ry
  obtain ⟨_, its, n, r, e⟩ := ea.ok I.hok
  obtain ⟨_, its2, n2, r2, e2⟩ := eb.ok I.hok
  cases r2
  have h1 : s.heap.IsList a its.toArray := ⟨_, e, rfl, n, rfl⟩
  have h2 : s.heap.IsList b #[] := ⟨_, e2, rfl, n2, rfl⟩
  cases r with
  | nil => exact PySem.SeqAt.eq_listAt (e := fun _ => true) h1 h2 rfl hu (fun j h1 _ => absurd h1 (by simp)) (fin_bl I q rfl)
  | cons _ _ => exact PySem.SeqAt.eq_list_lengthsAt h1 h2 (by simp) hu (fin_bl I q rfl)
end
section
variable {Cs : Nat → Addr} {F : Addr → Prop} {X : Cx} {ρ : Env} {M : Mem} {a b c e o i : Expr} {es : List Expr} {pos p apos : Pos} {Φ : D → Mem → Prop} {E : DE} {x y z f : Str} {k : Nat}
theorem dget_rep {H : Hp} {q : Addr} {vs : List V} {ks : List Key} {ds : List D} {key : Key} {d : D} (hr : Rd H q (.dK (ks.zip vs))) (hl : ks.length = vs.length) {Z : Addr → Prop} (rs : Reps Cs Z H vs ds) (hd : getK ks ds key = some d) : ∃ v, DGet H q (kV key) (some v) ∧ Rep Cs Z H v d := by
  obtain ⟨v, hv, r⟩ := (val_rep rs hl key).1 d hd
  exact ⟨v, .inl ⟨_, key, hr, rfl, hv.symm⟩, r⟩
theorem dget_any {H : Hp} {q : Addr} {vs : List V} {ks : List Key} {ds : List D} (key : Key) (hr : Rd H q (.dK (ks.zip vs))) (hl : ks.length = vs.length) {Z : Addr → Prop} (rs : Reps Cs Z H vs ds) : ∃ ov, DGet H q (kV key) ov ∧ ov.isSome = (getK ks ds key).isSome := by
  refine ⟨_, .inl ⟨_, key, hr, rfl, rfl⟩, ?_⟩
  cases h : getK ks ds key with
  | none => rw [(val_rep rs hl key).2 h]; rfl
  | some d =>
    obtain ⟨v, hv, r⟩ := (val_rep rs hl key).1 d h
    rw [hv]; rfl
theorem wix_dct {ks : List Key} {ds : List D} {key : Key} {d : D} (hr : Rm k X.A) (hd : getK ks ds key = some d) (h : Φ d M) : WIx Cs X (.dct ks ds) (keyD key) M Φ := .mk fun F H vx vy m rx ry Q k => by
  have ey := keyD_rel ry
  subst ey
  cases rx with
  | dct hz hrd hl rs =>
    obtain ⟨v, g, r⟩ := dget_rep hrd hl rs hd
    exact (ixD (rm_units hr)).sem ⟨_, v, rfl, g, k.here m r h⟩
theorem wix_dctO {q : Addr} {ks : List Key} {ds : List D} {key : Key} {d : D} (hr : Rm k X.A) (hM : M q = some (.dct ks ds)) (hd : getK ks ds key = some d) (h : Φ d M) : WIx Cs X (.ref q) (keyD key) M Φ := .mk fun F H vx vy m rx ry Q k => by
  have ey := keyD_rel ry
  subst ey
  cases rx
  obtain ⟨vs, e0, hl, rs⟩ := m.at_ q _ hM
  obtain ⟨v, g, r⟩ := dget_rep (.inl e0) hl rs hd
  exact (ixD (rm_units hr)).sem ⟨_, v, rfl, g, k.here m r h⟩
theorem wo_inD {ks : List Key} {ds : List D} {key : Key} (hr : Rm k X.A) (h : Φ (.bl (getK ks ds key).isSome) M) : WO Cs X (compareOp .In) (keyD key) (.dct ks ds) M Φ := .mk fun F H vx vy m rx ry Q k => by
  have ey := keyD_rel rx
  subst ey
  cases ry with
  | dct hz hrd hl rs =>
    obtain ⟨ov, g, ei⟩ := dget_any key hrd hl rs
    exact (opInD (rm_units hr)).sem ⟨_, ov, rfl, g, by rw [ei]; exact k.here m (.bl _) h⟩
theorem wo_inDO {q : Addr} {ks : List Key} {ds : List D} {key : Key} (hr : Rm k X.A) (hM : M q = some (.dct ks ds)) (h : Φ (.bl (getK ks ds key).isSome) M) : WO Cs X (compareOp .In) (keyD key) (.ref q) M Φ := .mk fun F H vx vy m rx ry Q k => by
  have ey := keyD_rel rx
  subst ey
  cases ry
  obtain ⟨vs, e0, hl, rs⟩ := m.at_ q _ hM
  obtain ⟨ov, g, ei⟩ := dget_any key (.inl e0) hl rs
  exact (opInD (rm_units hr)).sem ⟨_, ov, rfl, g, by rw [ei]; exact k.here m (.bl _) h⟩
theorem wo_notInD {ks : List Key} {ds : List D} {key : Key} (hr : Rm k X.A) (h : Φ (.bl (!(getK ks ds key).isSome)) M) : WO Cs X (compareOp .NotIn) (keyD key) (.dct ks ds) M Φ := .mk fun F H vx vy m rx ry Q k => by
  have ey := keyD_rel rx
  subst ey
  cases ry with
  | dct hz hrd hl rs =>
    obtain ⟨ov, g, ei⟩ := dget_any key hrd hl rs
    exact (opNotInD (rm_units hr)).sem ⟨_, ov, rfl, g, by rw [ei]; exact k.here m (.bl _) h⟩
theorem wc_lenD {ks : List Key} {ds : List D} (h : Φ (.int ks.length) M) : WC Cs X (.builtin "len") [.dct ks ds] M Φ := wc_of callLenD fun H vs Q m rs k => by
  obtain ⟨v, rfl, r⟩ := reps1 rs
  cases r with
  | dct hz hr hl rr => exact ⟨_, _, rfl, hr, by rw [List.length_zip, ← hl, Nat.min_self]; exact k.here m (.int _) h⟩
theorem wc_lenDO {q : Addr} {ks : List Key} {ds : List D} (hM : M q = some (.dct ks ds)) (h : Φ (.int ks.length) M) : WC Cs X (.builtin "len") [.ref q] M Φ := wc_of callLenD fun H vs Q m rs k => by
  obtain ⟨v, rfl, r⟩ := reps1 rs
  cases r
  obtain ⟨vs, e0, hl, rs⟩ := m.at_ q _ hM
  exact ⟨_, _, rfl, .inl e0, by rw [List.length_zip, ← hl, Nat.min_self]; exact k.here m (.int _) h⟩
/-! {} -/
theorem we_dnew (h : Φ (.dct [] []) M) : WE Cs X (.Dict [] [] pos) ρ M Φ := .mk fun F σ H A Q k => pe_dnewK.sem fun p hp => k _ _ _ M (post_new hp) (A.mem.new hp) (.dct (vs := []) (A.mem.notZ hp) (.inl upd_same) rfl .nil) h
theorem we_dnewO (h : ∀ q, M q = none → Φ (.ref q) (put M q (.dct [] []))) : WE Cs X (.Dict [] [] pos) ρ M Φ := .mk fun F σ H A Q k => pe_dnewK.sem fun p hp => k _ _ _ (put M p (.dct [] [])) (post_own hp) (A.mem.own hp ⟨[], upd_same, rfl, .nil⟩) (.ref p) (h p (A.mem.old hp))
theorem empty_zip {ks : List Key} {vs : List V} (hl : ks.length = vs.length) : (ks.zip vs).isEmpty = ks.isEmpty := by
  cases ks <;> cases vs <;> simp_all
theorem wo_eqE {q : Addr} {ks : List Key} {ds : List D} (hr : Rm k X.A) (hM : M q = some (.dct ks ds)) (h : Φ (.bl ks.isEmpty) M) : WO Cs X (compareOp .Eq) (.ref q) (.dct [] []) M Φ := .mk fun F H vx vy m rx ry Q k => by
  cases rx
  cases ry with
  | dct hz hrd hl rs =>
    cases rs
    obtain ⟨vs, e0, hl0, rs⟩ := m.at_ q _ hM
    exact (opEqE hr.rm.units0).sem ⟨_, _, _, rfl, rfl, .inl e0, hrd, by rw [empty_zip hl0]; exact k.here m (.bl _) h⟩
theorem wo_neE {q : Addr} {ks : List Key} {ds : List D} (hr : Rm k X.A) (hM : M q = some (.dct ks ds)) (h : Φ (.bl (!ks.isEmpty)) M) : WO Cs X (compareOp .NotEq) (.ref q) (.dct [] []) M Φ := .mk fun F H vx vy m rx ry Q k => by
  cases rx
  cases ry with
  | dct hz hrd hl rs =>
    cases rs
    obtain ⟨vs, e0, hl0, rs⟩ := m.at_ q _ hM
    exact (opNeE hr.rm.units0).sem ⟨_, _, _, rfl, rfl, .inl e0, hrd, by rw [empty_zip hl0]; exact k.here m (.bl _) h⟩
theorem wo_eqNil {q : Addr} {ds : List D} (hr : Rm k X.A) (hM : M q = some (.lst ds)) (h : Φ (.bl ds.isEmpty) M) : WO Cs X (compareOp .Eq) (.ref q) (.lst []) M Φ := .mk fun F H vx vy m rx ry Q k => by
  cases rx
  cases ry with
  | lst hz hrd rs =>
    cases rs
    obtain ⟨vs, e0, rs⟩ := m.at_ q _ hM
    have e : vs.isEmpty = ds.isEmpty := by cases rs <;> rfl
    exact (opEqN hr.rm.units0).sem ⟨_, _, _, rfl, rfl, .inl e0, hrd, by rw [e]; exact k.here m (.bl _) h⟩
/-- an owned dict is changed -/
theorem dct_new {H : Hp} {q : Addr} {ks ks' : List Key} {ds ds' : List D} {vs' : List V} (m : MemAt Cs F M H) (hM : M q = some (.dct ks ds)) (hl : ks'.length = vs'.length) (r : Reps Cs (Zf F M) H vs' ds') :
    Post M H (put M q (.dct ks' ds')) (upd H q (.dK (ks'.zip vs'))) ∧ MemAt Cs F (put M q (.dct ks' ds')) (upd H q (.dK (ks'.zip vs'))) := by
  have pp : Post M H (put M q (.dct ks' ds')) (upd H q (.dK (ks'.zip vs'))) := ⟨fun b o hb ho => .inl (by rw [upd_ne (fun z => by rw [z, hM] at hb; cases hb)]; exact ho), fun b hb => by
    by_cases e : b = q
    · left; rw [e, hM]; exact fun z => nomatch z
    · rw [put_ne e] at hb; exact .inl hb⟩
  refine ⟨pp, m.go pp fun b n hb => ?_⟩
  by_cases e : b = q
  · subst e
    rw [put_same] at hb
    cases hb
    exact .inr ⟨vs', upd_same, hl, r.go pp⟩
  · rw [put_ne e] at hb
    refine .inl ⟨hb, fun o ho => by rw [upd_ne e]; exact ho, fun dx z => ?_⟩
    have q1 := ((m.at_ b _ hb).aux z).2
    have ne : dx ≠ q := fun z => by rw [z, hM] at q1; cases q1
    exact ⟨fun o ho => by rw [upd_ne ne]; exact ho, by rw [put_ne ne]; exact q1⟩
/-- o[i] = d, o an owned dict, the key a new one -/
theorem wg_dput {d : D} {K : Env → Mem → Prop} (hr : Rm k X.A) (h : WE Cs X o ρ M fun x M1 => WE Cs X i ρ M1 fun y M2 => ∃ q ks ds key, x = .ref q ∧ y = keyD key ∧ M2 q = some (.dct ks ds) ∧ ks.length < 100000 ∧ getK ks ds key = none ∧ K ρ (put M2 q (.dct (ks ++ [key]) (ds ++ [d]))))
    (ha : ∀ v, assign (.Subscript o i pos) X.env v = (do
      let ov ← holding [v] (eval o X.env)
      let iv ← holding [v, ov] (eval i X.env)
      standAt pos
      holding [v, ov, iv] (setItem ov iv v)
      release [v, ov, iv] []) := by intro _; rfl) : WG Cs X (.Subscript o i pos) d ρ M K :=
  .mk fun F σ H v A r Q k => (pg_sub pe_sem pe_sem (set_dict (rm_units hr)) ha).sem (h.run _ σ H A _ fun vx x H1 M1 p1 m1 r1 h1 => h1.run _ σ H1 (A.go p1 m1) _ fun vy y H2 M2 p2 m2 r2 h2 => by
    obtain ⟨q, ks, ds, key, rfl, rfl, hM, hlen, hn, hK⟩ := h2
    cases r1
    have ey := keyD_rel r2
    subst ey
    obtain ⟨vs, h0, hl, rs⟩ := m2.at_ q _ hM
    have hv : valV (ks.zip vs) key = none := (val_rep rs hl key).2 hn
    have ep : putK (ks.zip vs) key v = (ks ++ [key]).zip (vs ++ [v]) := by rw [putK_new _ hv, zip_snoc hl]
    obtain ⟨pp, mm⟩ := dct_new m2 hM (ks' := ks ++ [key]) (vs' := vs ++ [v]) (by simp [hl]) (rs.append (.cons ((r.go p1).go p2) .nil))
    refine ⟨q, _, rfl, .inl ⟨_, key, h0, rfl, by rw [List.length_zip]; exact Nat.lt_of_le_of_lt (Nat.min_le_left _ _) (Nat.lt_of_lt_of_le hlen (by decide)), rfl⟩, ?_⟩
    rw [ep]
    exact k _ _ _ _ ((p1.trans p2).trans pp) ((A.go (p1.trans p2) m2).go pp mm) hK)
/-- an owned dict is frozen -/
theorem frzD {H : Hp} {q : Addr} {ks : List Key} {ds : List D} (m : MemAt Cs F M H) (hM : M q = some (.dct ks ds)) : Post M H (era M q) H ∧ MemAt Cs F (era M q) H ∧ Rep Cs (Zf F (era M q)) H (.ref q) (.dct ks ds) := by
  have p3 : Post M H (era M q) H := Post.sub fun b hb => by
    by_cases e1 : b = q
    · rw [e1, era_same] at hb; exact absurd rfl hb
    · rw [era_ne e1] at hb; exact hb
  obtain ⟨vs, e, hl, r⟩ := m.at_ q _ hM
  refine ⟨p3, m.go p3 fun b nn hb => ?_, .dct (fun z => ?_) (.inl e) hl (r.go p3)⟩
  · have b1 : b ≠ q := fun z => by rw [z, era_same] at hb; cases hb
    rw [era_ne b1] at hb
    refine .inl ⟨hb, fun _ z => z, fun dx' z => ⟨fun _ z => z, ?_⟩⟩
    have w := ((m.at_ b _ hb).aux z).2
    rw [era_ne (fun z => by rw [z, hM] at w; cases w)]
    exact w
  · rcases z with z | z
    · have := (m.ff q z).1
      rw [hM] at this; cases this
    · rw [era_same] at z; exact z rfl
end
end DL
/-! ### instances that are owned -/
namespace DL
open PySem PySem.Spec PyProof.Rows L2
def getF : List Str → List D → Str → Option D
  | k' :: ks, d :: ds, k => if k' = k then some d else getF ks ds k
  | _, _, _ => none
theorem look_rep {Cs : Nat → Addr} {Z : Addr → Prop} {H : Hp} : ∀ {ks : List Str} {vs : List V} {ds : List D}, Reps Cs Z H vs ds → ks.length = vs.length → ∀ k, (∀ d, getF ks ds k = some d → ∃ v, (ks.zip vs).lookup k = some v ∧ Rep Cs Z H v d) ∧ (getF ks ds k = none → (ks.zip vs).lookup k = none)
  | [], _, _, .nil, _, k => ⟨fun d h => (nomatch h), fun _ => rfl⟩
  | [], _, _, .cons _ _, h, _ => by simp at h
  | _ :: _, _, _, .nil, h, _ => by simp at h
  | k' :: ks, v :: vs, d :: ds, .cons r rs, h, k => by
    obtain ⟨h1, h2⟩ := look_rep (ks := ks) rs (by simpa using h) k
    rw [List.zip_cons_cons]
    by_cases e : k' = k
    · refine ⟨fun d' hd => ?_, fun hd => ?_⟩
      · unfold getF at hd
        rw [if_pos e] at hd
        cases hd
        exact ⟨v, by rw [List.lookup_cons, e, beq_self_eq_true], r⟩
      · unfold getF at hd
        rw [if_pos e] at hd
        cases hd
    · have eb : (k == k') = false := beq_eq_false_iff_ne.mpr (Ne.symm e)
      refine ⟨fun d' hd => ?_, fun hd => ?_⟩
      · unfold getF at hd
        rw [if_neg e] at hd
        obtain ⟨v', hv, r'⟩ := h1 d' hd
        exact ⟨v', by rw [List.lookup_cons, eb]; exact hv, r'⟩
      · unfold getF at hd
        rw [if_neg e] at hd
        rw [List.lookup_cons, eb]
        exact h2 hd
/-- f = d among the fields -/
def putFD : List Str → List D → Str → D → List Str × List D
  | k' :: ks, d' :: ds, k, d => if k' = k then (k' :: ks, d :: ds) else (k' :: (putFD ks ds k d).1, d' :: (putFD ks ds k d).2)
  | _, _, k, d => ([k], [d])
theorem putF_rep {Cs : Nat → Addr} {Z : Addr → Prop} {H : Hp} {f : Str} {v : V} {d : D} (r : Rep Cs Z H v d) : ∀ {ks : List Str} {vs : List V} {ds : List D}, Reps Cs Z H vs ds → ks.length = vs.length → ∃ vs', putF f v (ks.zip vs) = (putFD ks ds f d).1.zip vs' ∧ (putFD ks ds f d).1.length = vs'.length ∧ Reps Cs Z H vs' (putFD ks ds f d).2
  | [], _, _, .nil, _ => ⟨[v], rfl, rfl, .cons r .nil⟩
  | [], _, _, .cons _ _, h => by simp at h
  | _ :: _, _, _, .nil, h => by simp at h
  | k' :: ks, v' :: vs, d' :: ds, .cons r' rs, h => by
    obtain ⟨vs', e1, e2, e3⟩ := putF_rep (f := f) r (ks := ks) rs (by simpa using h)
    rw [List.zip_cons_cons]
    by_cases e : k' = f
    · refine ⟨v :: vs, ?_, ?_, ?_⟩
      · simp only [putF, putFD, if_pos e, List.zip_cons_cons]
      · simp only [putFD, if_pos e]; simpa using h
      · simp only [putFD, if_pos e]; exact .cons r rs
    · refine ⟨v' :: vs', ?_, ?_, ?_⟩
      · simp only [putF, putFD, if_neg e, List.zip_cons_cons, e1]
      · simp only [putFD, if_neg e, List.length_cons, e2]
      · simp only [putFD, if_neg e]; exact .cons r' e3
theorem repO_get {Cs : Nat → Addr} {Z : Addr → Prop} {H : Hp} {vs : List (Option V)} {os : List (Option D)} (ro : RepO Cs Z H vs os) : ∀ {j : Nat} {d : D}, os[j]? = some (some d) → ∃ w, vs[j]? = some (some w) ∧ Rep Cs Z H w d := by
  induction ro with
  | nil => intro j d hi; simp at hi
  | none r ih =>
    intro j d hi
    cases j with
    | zero => simp at hi
    | succ j => simpa using ih (j := j) (by simpa using hi)
  | some hr r ih =>
    intro j d hi
    cases j with
    | zero => simp at hi; subst hi; exact ⟨_, rfl, hr⟩
    | succ j => simpa using ih (j := j) (by simpa using hi)
section
variable {X : Cx} {CX : CXT} {k n : Nat} {f g C : Addr} {sp : Sp} {E : XK} {m : Str} {pins : List (Addr × Obj)} {σ : L2.St} {H : Hp} {s : Shared} {Q : VK}
theorem getprop_i {b : Bool} {f : Str} {a dx p : Addr} {fs : List (Str × V)} (I : Inv X pins σ H s) (h : H a = some (.ins C dx fs)) (c : Cls X.K C) (at_ : PySem.W.findIn X.K (.ref C) f = some (some (.ref p))) (get : PySem.W.specialIn X.K (.ref p) "__get__" = some (some (.builtin "property.__get__")))
    (tk : PySem.W.takesIn X.K (.ref p) = some true) (rc : ∃ rest, PySem.W.recIn X.K p "property" = some (.ref g :: rest)) (F : FnG X.prog X.w X.K X.mg X.base CX n g sp) (hr : Rm (n + 1) X.A)
    (hx : ∀ (H : Hp) (s : Shared) (e : Value) (s' : Shared), CX X.stack H s E e s' → False) (q : sp [.ref a] H Q E) : wpAny (model X.prog X.w) X.A (getAttr (.ref a) f b) (EP X pins σ Q) X.xe s := by
  obtain ⟨mA, O, r, _, _, _⟩ := ins_get I.hok h
  obtain ⟨od, J, hl⟩ := O.look
  obtain ⟨rest, hrec⟩ := rc
  have I1 : Inv X pins σ H { s with toks := s.toks + 1 } := I.tok (s.toks + 1)
  have hic : PySem.W.isClsIn X.K C = true := by
    obtain ⟨cd, hc, _⟩ := PySem.W.any_some c.hd
    unfold PySem.W.isClsIn
    rw [hc]; rfl
  refine PySem.W.get_bind I.kIn J (PySem.W.plainGet_of (c.get f)).1 (PySem.W.findObj_data hic at_ get tk) (PySem.W.plainGet_of (c.get f)).2 (wpAny_call (PySem.W.prop_get (s := { s with toks := s.toks + 1 }) I.kIn hrec ?_))
  refine codeAny_mono (F X.A.in1 X.stack { s with toks := s.toks + 1 } H [.ref a] [.ref a] Q E hr.in1 I1.env0.in1 (.cons rfl .nil) q) fun r s' hq => ?_
  cases r with
  | error e => exact (hx _ _ _ _ hq).elim
  | ok fl =>
    cases fl with
    | ret u =>
      obtain ⟨v, H', I2, rv, q⟩ := I1.after hq
      exact wpAny_of_eq (PySem.W.handedOut_of (handed_of rv)) ⟨v, H', I2, rv, q⟩
    | next => exact False.elim hq
    | brk => exact False.elim hq
    | cont => exact False.elim hq
end
section
variable {Cs : Nat → Addr} {F : Addr → Prop} {X : Cx} {ρ : Env} {M : Mem} {a b c e o i : Expr} {es : List Expr} {pos p apos : Pos} {Φ : D → Mem → Prop} {E : DE} {x y z f m : Str} {k : Nat} {q dx : Addr} {cn : Nat} {ns : List Str} {ds : List D} {d : D}
/-- o.f, o an owned instance -/
theorem wat_ins (hc : Cls X.K (Cs cn)) (hn : NoAttr X.K (Cs cn) f) (hM : M q = some (.ins cn dx ns ds)) (hd : getF ns ds f = some d) (h : Φ d M) : WAt Cs X f (.ref q) M Φ := .mk fun F H vx m r Q k pins s σ v I rv => by
  cases r
  cases rv
  obtain ⟨_, _, vs, e1, _, hl, rs⟩ := m.at_ q _ hM
  obtain ⟨w, hw, rw'⟩ := (look_rep rs hl f).1 d hd
  exact getattr_ok I e1 hc hn hw fun u s' I' ru => ⟨w, H, I', ru, k.here m rw' h⟩
theorem wat_propI {g : Addr} {pq : Addr} {S : FS} (hc : Cls X.K (Cs cn)) (at_ : PySem.W.findIn X.K (.ref (Cs cn)) f = some (some (.ref pq))) (get : PySem.W.specialIn X.K (.ref pq) "__get__" = some (some (.builtin "property.__get__")))
    (tk : PySem.W.takesIn X.K (.ref pq) = some true) (rc : ∃ rest, PySem.W.recIn X.K pq "property" = some (.ref g :: rest)) (Fn : FnD Cs X k g S) (hr : Rm (k + 1) X.A) (hM : M q = some (.ins cn dx ns ds)) (h : S [.ref q] M Φ) : WAt Cs X f (.ref q) M Φ := .mk fun F H vx m r Q k pins s σ v I rv => by
  cases r
  cases rv
  obtain ⟨_, _, vs, e1, _, hl, rs⟩ := m.at_ q _ hM
  exact getprop_i (E := E0) I e1 hc at_ get tk rc Fn hr (fun _ _ _ _ z => z) ⟨_, _, M, Φ, m, .cons (.ref q) .nil, h, k⟩
/-- a slot of an instance that is being made -/
theorem wat_slt {ci j : Nat} {pq : Addr} {os : List (Option D)} (hc : SlX.SCls X.K (Cs ci)) (hs : SlX.Slot1 X.K (Cs ci) f pq j) (hM : M q = some (.slt ci dx os)) (hi : os[j]? = some (some d)) (h : Φ d M) : WAt Cs X f (.ref q) M Φ := .mk fun F H vx m r Q k pins s σ v I rv => by
  cases r
  cases rv
  obtain ⟨_, _, vs, hsl, ro⟩ := m.at_ q _ hM
  obtain ⟨w, hw, rw'⟩ := repO_get ro hi
  exact SlX.getslot_ok I hsl hc hs (v := w) hw fun u s' I' ru => ⟨w, H, I', ru, k.here m rw' h⟩
/-- an owned instance is changed -/
theorem ins_new {H : Hp} {ns' : List Str} {ds' : List D} {vs' : List V} (m : MemAt Cs F M H) (hM : M q = some (.ins cn dx ns ds)) (hl : ns'.length = vs'.length) (r : Reps Cs (Zf F M) H vs' ds') :
    Post M H (put M q (.ins cn dx ns' ds')) (upd H q (.ins (Cs cn) dx (ns'.zip vs'))) ∧ MemAt Cs F (put M q (.ins cn dx ns' ds')) (upd H q (.ins (Cs cn) dx (ns'.zip vs'))) := by
  obtain ⟨hne, hx, _, _, ho, _, _⟩ := m.at_ q _ hM
  have pp : Post M H (put M q (.ins cn dx ns' ds')) (upd H q (.ins (Cs cn) dx (ns'.zip vs'))) := ⟨fun b o hb ho => .inl (by rw [upd_ne (fun z => by rw [z, hM] at hb; cases hb)]; exact ho), fun b hb => by
    by_cases e : b = q
    · left; rw [e, hM]; exact fun z => nomatch z
    · rw [put_ne e] at hb; exact .inl hb⟩
  refine ⟨pp, m.go pp fun b n hb => ?_⟩
  by_cases e : b = q
  · subst e
    rw [put_same] at hb
    cases hb
    exact .inr ⟨hne, by rw [put_ne hne]; exact hx, vs', upd_same, by rw [upd_ne hne]; exact ho, hl, r.go pp⟩
  · rw [put_ne e] at hb
    refine .inl ⟨hb, fun o ho => by rw [upd_ne e]; exact ho, fun dx' z => ?_⟩
    have q1 := ((m.at_ b _ hb).aux z).2
    have ne : dx' ≠ q := fun z => by rw [z, hM] at q1; cases q1
    exact ⟨fun o ho => by rw [upd_ne ne]; exact ho, by rw [put_ne ne]; exact q1⟩
/-- o.f = e, o an owned instance -/
theorem ws_fld {pos' : Pos} (hc : Cls X.K (Cs cn)) (hn : NoAttr X.K (Cs cn) f)
    (h : WE Cs X e ρ M fun d M1 => WE Cs X o ρ M1 fun x M2 => ∃ q dx ns ds, x = .ref q ∧ M2 q = some (.ins cn dx ns ds) ∧ ns.length < 100 ∧ E.nx ρ (put M2 q (.ins cn dx (putFD ns ds f d).1 (putFD ns ds f d).2)))
    (hsw : swapsWith e (some (.Attribute o f pos')) pos.line X.env = pure false := by rfl) : WS Cs X (.Assign [.Attribute o f pos'] e pos) ρ M E :=
  .mk fun F σ H A Dn k => (ps_fld pe_sem pe_sem hsw).sem (h.run _ σ H A _ fun vy d H1 M1 p1 m1 r1 h1 => h1.run _ σ H1 (A.go p1 m1) _ fun vx x H2 M2 p2 m2 r2 h2 => by
    obtain ⟨q, dx, ns, ds, rfl, hM, hln, hE⟩ := h2
    cases r2
    obtain ⟨_, _, vs, e1, _, hl, rs⟩ := m2.at_ q _ hM
    obtain ⟨vs', e2, e3, e4⟩ := putF_rep (f := f) (r1.go p2) rs hl
    obtain ⟨pp, mm⟩ := ins_new m2 hM e3 e4
    refine ⟨q, Cs cn, dx, _, rfl, e1, hc, hn, by rw [List.length_zip]; omega, ?_⟩
    rw [e2]
    exact k.nx σ ρ _ _ ((p1.trans p2).trans pp) ((A.go (p1.trans p2) m2).go pp mm) hE)
/-- o.m(e, ..), o an owned instance -/
theorem we_methI {g : Addr} {S : FS} {pl : Sem Bool} (hc : Cls X.K (Cs cn)) (hm : Meth X.K (Cs cn) m g) (Fn : FnD Cs X k g S) (hr : Rm k X.A) (h : WE Cs X a ρ M fun x M1 => ∃ q dx ns ds, x = .ref q ∧ M1 q = some (.ins cn dx ns ds) ∧ getF ns ds m = none ∧ WA Cs X (e :: es) ρ M1 fun as M2 => S (.ref q :: as) M2 Φ)
    (hst : starEach (e :: es) X.env = (false, eval e X.env) :: starEach es X.env := by rfl) (hpl : (backTo pos (starEach es X.env)).any (·.1) = false := by rfl)
    (ht : eval (.Call (.Attribute a m apos) (e :: es) [] pos) X.env = (do
      let ov ← eval a X.env
      standAt apos.atName
      let (f, first) ← holding [ov] (getMethod ov m pl)
      callWith pos f first (backTo pos (starEach (e :: es) X.env)) (backToKw pos (keywordEach [] X.env))) := by rfl) : WE Cs X (.Call (.Attribute a m apos) (e :: es) [] pos) ρ M Φ :=
  .mk fun F σ H A Q k pins s I => by
    refine PySem.W.methodCall_KW (pl := pl) (thn (h.run _ σ H A (fun v H1 => ∃ q M1, Post M H M1 H1 ∧ MemAt Cs F M1 H1 ∧ v = .ref q ∧ ∃ dx ns ds, M1 q = some (.ins cn dx ns ds) ∧ getF ns ds m = none ∧ WA Cs X (e :: es) ρ M1 fun as M2 => S (.ref q :: as) M2 Φ) (fun v d H1 M1 p1 m1 r1 h1 => by
      obtain ⟨q, dx, ns, ds, rfl, hM, hg, h1⟩ := h1
      cases r1
      exact ⟨q, M1, p1, m1, rfl, dx, ns, ds, hM, hg, h1⟩) pins s I) fun u s1 ⟨x, H1, I1, rx, q, M1, p1, m1, ex, dx, ns, ds, hM, hg, h1⟩ => ?_) ht
    subst ex
    obtain rfl : u = Value.ref q := rx
    obtain ⟨_, _, vs, e1, _, hl, rs⟩ := m1.at_ q _ hM
    refine getmeth_ok I1 e1 hc hm ((look_rep rs hl m).2 hg) ?_
    refine PySem.W.callWith_K (first := [.ref q]) (h₀ := X.base) I.ok.mod.kin hm.kp (thn (pa_sem.run pos pins s1 σ H1 (fun ws H2 => spD Cs S (.ref q :: ws) H2 Q E0) I1 (h1.run _ σ H1 (A.go p1 m1) _ fun ws as H2 M2 p2 m2 r2 h2 => ⟨_, _, M2, Φ, m2, .cons (.ref q) r2, h2, k.from (p1.trans p2)⟩)) fun us s2 ⟨ws, H2, I2, r, q2⟩ => ⟨I2.kIn, ?_⟩) hst hpl
    exact wpAny_call (run_g (us := .ref q :: us) (vs := .ref q :: ws) Fn hr pass0 (E := E0) I2 (.cons rfl r) q2)
/-- C(), an instance with an own dict -/
theorem we_make0 {n : Nat} {g : Addr} {S : FS} (Mk' : Mk X.K (Cs n) g) (Fn : FnD Cs X k g S) (hr : Rm (k + 1) X.A) (hg : Gl X x) (hm : X.mg x = some (.ref (Cs n)))
    (h : ∀ a dx, M a = none → M dx = none → dx ≠ a → S [.ref a] (put (put M dx (.aux a)) a (.ins n dx [] [])) fun d M2 => d = .non ∧ Φ (.ref a) M2)
    (hdb : (x == ("__debug__" : Str)) = false := by decide) : WE Cs X (.Call (.Name x p) [] [] pos) ρ M Φ :=
  .mk fun F σ H A Q k pins s I => by
    refine wpAny_Call_Name_kw (ld_glob I hg hm ?_ hdb)
    refine PySem.W.callWith_K0 I.kIn Mk'.kp (run_makeG (us := []) (vs := []) (E := E0) Mk' Fn hr pass0 I .nil fun y dx hy hdx ne => ?_)
    have m1 := A.mem
    have py : Post M H (put (put M dx (.aux y)) y (.ins n dx [] [])) (upd (upd H dx (.own y)) y (.ins (Cs n) dx [])) := by
      refine ⟨fun b o hb ho => ?_, fun b hb => ?_⟩
      · rw [upd_ne (ne_of_none ho hy), upd_ne (ne_of_none ho hdx)]; exact .inl ho
      · by_cases e1 : b = y
        · exact .inr (by rw [e1]; exact hy)
        · rw [put_ne e1] at hb
          by_cases e2 : b = dx
          · exact .inr (by rw [e2]; exact hdx)
          · rw [put_ne e2] at hb; exact .inl hb
    have my : MemAt Cs F (put (put M dx (.aux y)) y (.ins n dx [] [])) (upd (upd H dx (.own y)) y (.ins (Cs n) dx [])) := by
      refine m1.go py fun b nn hb => ?_
      by_cases e1 : b = y
      · subst e1
        rw [put_same] at hb
        cases hb
        exact .inr ⟨ne, by rw [put_ne ne, put_same], [], upd_same, by rw [upd_ne ne, upd_same], rfl, .nil⟩
      · rw [put_ne e1] at hb
        by_cases e2 : b = dx
        · subst e2
          rw [put_same] at hb
          cases hb
          exact .inr ⟨.own y, by rw [upd_ne e1, upd_same]⟩
        · rw [put_ne e2] at hb
          have key : ∀ z o, H z = some o → upd (upd H dx (.own y)) y (.ins (Cs n) dx []) z = some o := fun z o ho => by rw [upd_ne (ne_of_none ho hy), upd_ne (ne_of_none ho hdx)]; exact ho
          refine .inl ⟨hb, key b, fun dx' z => ⟨key dx', ?_⟩⟩
          have q := ((m1.at_ b _ hb).aux z).2
          rw [put_ne (fun z => by rw [z, m1.old hy] at q; cases q), put_ne (fun z => by rw [z, m1.old hdx] at q; cases q)]
          exact q
    refine ⟨F, [.ref y], _, _, my, .cons (.ref y) .nil, h y dx (m1.old hy) (m1.old hdx) ne, fun v d H2 M2 p2 m2 r2 h2 => ?_⟩
    obtain ⟨rfl, hΦ⟩ := h2
    cases r2
    exact ⟨rfl, k _ _ H2 M2 (py.trans p2) m2 (.ref y) hΦ⟩
/-! views: the same heap, told otherwise -/
def Vw (Cs : Nat → Addr) (M M' : Mem) : Prop := ∀ (F : Addr → Prop) H, MemAt Cs F M H → MemAt Cs F M' H ∧ Post M H M' H
theorem wss_vw {sts : List Stmt} {M' : Mem} (v : Vw Cs M M') (h : WSs Cs X sts ρ M' E) : WSs Cs X sts ρ M E := .mk fun F σ H A Dn k => by
  obtain ⟨m, p⟩ := v F H A.mem
  exact h.run F σ H (A.go p m) Dn (k.from p)
theorem we_vw (h : WE Cs X e ρ M fun d M1 => ∃ M2, Vw Cs M1 M2 ∧ Φ d M2) : WE Cs X e ρ M Φ := .mk fun F σ H A Q k => h.run F σ H A Q fun v d H1 M1 p1 m1 r1 ⟨M2, vw, hΦ⟩ => by
  obtain ⟨m2, p2⟩ := vw F H1 m1
  exact k _ _ H1 M2 (p1.trans p2) m2 (r1.go p2) hΦ
/-- less is owned -/
theorem vw_sub {M' : Mem} (h : ∀ a n, M' a = some n → M a = some n) (hx : ∀ a n dx, M' a = some n → n.dxo = some dx → M' dx = some (.aux a)) : Vw Cs M M' := fun F H m => by
  have p : Post M H M' H := Post.sub fun a ha => by
    obtain ⟨n, hn⟩ := Option.ne_none_iff_exists'.mp ha
    rw [h a n hn]; exact fun z => nomatch z
  exact ⟨m.go p fun a n e => .inl ⟨h a n e, fun _ z => z, fun dx z => ⟨fun _ z => z, hx a n dx e z⟩⟩, p⟩
/-- a place of an owned thing is told otherwise -/
theorem vw_put {M' : Mem} {n' : MO} (hsub : ∀ a n, a ≠ q → M' a = some n → M a = some n) (hq : M' q = some n') (hx : ∀ a n dx, a ≠ q → M' a = some n → n.dxo = some dx → M' dx = some (.aux a)) (hMq : M q ≠ none)
    (hn : ∀ F H, MemAt Cs F M H → Post M H M' H → MOk Cs F M' H q n') : Vw Cs M M' := fun F H m => by
  have p : Post M H M' H := Post.sub fun a ha => by
    by_cases e : a = q
    · rw [e]; exact hMq
    · obtain ⟨n, hn⟩ := Option.ne_none_iff_exists'.mp ha
      rw [hsub a n e hn]; exact fun z => nomatch z
  refine ⟨m.go p fun a n e => ?_, p⟩
  by_cases ea : a = q
  · subst ea
    rw [hq] at e
    cases e
    exact .inr (hn F H m p)
  · exact .inl ⟨hsub a n ea e, fun _ z => z, fun dx z => ⟨fun _ z => z, hx a n dx ea e z⟩⟩
end
end DL
/-! ### errors: made, asked -/
namespace DL
open PySem PySem.Spec PyProof.Rows L2
/-- an error class: under ValueError, its __init__ the one at g, told of by the class at B -/
structure ErrC (K : PySem.W.Frag) (C B g : Addr) : Prop where
  oex : OexC K C
  ini : PySem.W.findIn K (.ref C) "__init__" = some (some (.ref g))
  fn : PySem.W.typeIn K (.ref g) = some (.type "function")
  val : PySem.W.findIn K (.ref C) "value" = some none
  sub : PySem.W.mroIn K C (.ref B) = some true
  sup : PySem.W.ks_superIn K C B "__init__" = some (some (.builtin "ValueError.__init__"))
  ve : PySem.W.subIn K (.ref C) (.type "ValueError") = some true
  xf : XfC K C
  ex : ExcC K C
/-- the def at g: super().__init__(value); self.value = value, within the class at B -/
structure SupI (K : PySem.W.Frag) (file : Str) (B g : Addr) : Prop where
  ex : ∃ (name qual : Str) (params : Arguments) (body : List Stmt) (scope : Scope) (dV kV doc pm : Value) (an : Option Addr) (cda : Addr) (ct : Value) (cc : Addr) (oc : Value) (od : Option Addr) (osl : Array (Option Value)),
    K.lookup g = some ⟨oc, od, .func (PySem.W.ksFn name qual params body scope dV kV doc pm an (.ref cda) ct cc), osl⟩ ∧ PySem.W.codeIn K (.ref cda) qual = true ∧
    (∃ ccl cdd vs ccs tf, K.lookup cda = some ⟨ccl, cdd, .fields vs, ccs⟩ ∧ vs[2]? = some (.str file tf)) ∧ (∃ cl cld csl, K.lookup cc = some ⟨cl, cld, .cell (some (.ref B)), csl⟩) ∧
    (∃ p0 p1 p2 p3 p4 p5 p6 p7 p8 p9, body = [.Expr (.Call (.Attribute (.Call (.Name "super" p0) [] [] p1) "__init__" p2) [.Name "value" p3] [] p4) p5, .Assign [.Attribute (.Name "self" p6) "value" p7] (.Name "value" p8) p9] ∧
      ∀ L : Addr, interactive (callEnv (PySem.W.ksFn name qual params body scope dV kV doc pm an (.ref cda) ct cc) L g) = false ∧ swapsWith (.Call (.Attribute (.Call (.Name "super" p0) [] [] p1) "__init__" p2) [.Name "value" p3] [] p4) none p5.line (callEnv (PySem.W.ksFn name qual params body scope dV kV doc pm an (.ref cda) ct cc) L g) = pure false ∧ swapsWith (.Name "value" p8) (some (.Attribute (.Name "self" p6) "value" p7)) p9.line (callEnv (PySem.W.ksFn name qual params body scope dV kV doc pm an (.ref cda) ct cc) L g) = pure false ∧
        ∃ pl : Sem Bool, eval (.Call (.Attribute (.Call (.Name "super" p0) [] [] p1) "__init__" p2) [.Name "value" p3] [] p4) (callEnv (PySem.W.ksFn name qual params body scope dV kV doc pm an (.ref cda) ct cc) L g) = (do
          let ov ← attributeBase (.Call (.Name "super" p0) [] [] p1) "__init__" (callEnv (PySem.W.ksFn name qual params body scope dV kV doc pm an (.ref cda) ct cc) L g) (eval (.Call (.Name "super" p0) [] [] p1) (callEnv (PySem.W.ksFn name qual params body scope dV kV doc pm an (.ref cda) ct cc) L g))
          standAt p2.atName
          let (f, first) ← holding [ov] (getMethod ov "__init__" pl)
          callWith p4 f first (backTo p4 (starEach [.Name "value" p3] (callEnv (PySem.W.ksFn name qual params body scope dV kV doc pm an (.ref cda) ct cc) L g))) [])) ∧
    (∃ ar, (params.posonlyargs ++ params.args).head? = some ar ∧ ar.arg = ("self" : Str)) ∧
    (∀ us : List Value, us.length = 2 → bindArgs (PySem.W.ksFn name qual params body scope dV kV doc pm an (.ref cda) ct cc) ⟨us, []⟩ = pure ([("self" : Str), "value"].zip us)) ∧
    scope.names.lookup ("super" : Str) = some .globalImplicit ∧ scope.names.lookup ("__class__" : Str) = some .free ∧ scope.names.lookup ("self" : Str) = some .local ∧ scope.names.lookup ("value" : Str) = some .local ∧
    (∀ x ∈ scope.names, x.2 ≠ .cell) ∧ scope.isCoroutine = false ∧ scope.isGenerator = false ∧ scope.kind = .function
  cl : ∃ cd, PySem.W.clsIn K B = some cd
  op : PySem.W.nsIn K cStatics "thirdparty.any" = some none
section
variable {P : Program} {w : World} {A : Around} {K : PySem.W.Frag} {h : Heap} {g : Array GenState} {d : Drawn} {t : Nat} {os : OsState} {C B gi e t0 : Addr} {v : Value} {R : Result → Shared → Prop}
theorem exc_init {mg mb : Str → Option Value} (E : ErrC K C B gi) (S : SupI K P.main.file B gi) (X : K.In h) (hg : h.Ns mainGlobals mg) (hmg : mg "super" = none) (hb : h.Ns builtinsNs mb) (hmb : ∀ x : Str, x ≠ "__name__" → mb x = bootBuiltins x) (hlim : h.NoLimit)
    (htop : (P.main.scope.names.lookup ("super" : Str)).isSome = false) (hroom : A.depth < recursionLimit) (hKe : K.lookup e = none) (he : h.get? e = some (PySem.HandSPX.excO C t0))
    (hR : ∀ h' t1 dx tk, (∀ b o, b ≠ e → h.get? b = some o → h'.get? b = some o) → h.objs.size ≤ dx → dx ≠ e → h'.get? e = some { cls := .ref C, dict := some dx, data := .fields #[.ref t1, .none, .none, .none, .bool false, .none] } →
      h'.Ns1 dx (fun y => if y = "value" then some v else none) → R (.ok (.ret .none)) ⟨h', g, d, tk, os⟩) :
    codeAny (model P w) A (.call (.ref gi) ⟨[.ref e, v], []⟩) R ⟨h, g, d, t, os⟩ := by
  obtain ⟨name, qual, params, body, scope, dV, kV, doc, pm, an, cda, ct, cc, oc, od, osl, lk, hcd, ⟨ccl, cdd, vs, ccs, tf, lc, hvs⟩, ⟨cl, cld, csl, lcc⟩, ⟨p0, p1, p2, p3, p4, p5, p6, p7, p8, p9, rfl, hfm⟩, ⟨ar, har, hself⟩, hbind, ks, kc, kself, kval, hcell, hco, hgen, hk⟩ := S.ex
  obtain ⟨cdB, hB⟩ := S.cl
  obtain ⟨nm, q, N, bs, bm, sn, sub, ab, col, dd, k0, k1, k2, k3, k5, hC, hbm⟩ := E.oex.cls
  have hcl : PySem.W.clsIn K C = some { name := nm, bases := bs, mro := .ref C :: bm, ns := N, qualname := q, hasDict := true, slotNames := sn, subclasses := sub, abstract := ab, collection := col, hasDel := false } := by
    unfold PySem.W.clsIn
    rw [hC] <;> rfl
  refine ks_codeAny_call_defAt (binds := [("self", .ref e), ("value", v)]) hroom (X _ _ lk) rfl hlim (PySem.W.codeRec_of X hcd) rfl (.of_eq (hbind _ rfl)) hcell (fun x hx => ?_) (fun h₁ hns hk₁ => ?_) hco hgen hk
  · simp only [List.mem_cons, List.not_mem_nil, or_false] at hx
    rcases hx with rfl | rfl
    · exact kself
    · exact kval
  generalize hL : h.objs.size = L at hns hk₁
  have X1 : K.In h₁ := X.keeps hk₁
  have he1 := hk₁ _ _ he
  have I1 : PySem.W.InstAt h₁ e (PySem.HandSPX.excO C t0) C none := ⟨he1, rfl, rfl, trivial⟩
  obtain ⟨oB, hB1, hB2⟩ : ∃ oB, h₁.get? B = some oB ∧ oB.data = .cls cdB := by
    unfold PySem.W.clsIn at hB
    split at hB
    · rename_i c d' cd' sl ho
      cases hB
      exact ⟨_, X1 _ _ ho, rfl⟩
    · cases hB
  have hz : h₁.Ns L (fun y => [(("self" : Str), Value.ref e), ("value", v)].reverse.lookup y) := hns
  obtain ⟨f1, f2, f3, pl, f4⟩ := hfm L
  refine ks_wpAt_execs_cons (ks_wpAt_Expr_any (ks_wpAt_MethodCall (pl := pl) ?_ f4) f1 f2)
  refine ks_wpAt_super_base ks kc (by decide) rfl (X1 _ _ lk) rfl har rfl (X1 _ _ lc) rfl hvs (beq_self_eq_true _) htop ?_
  refine PySem.W.ks_loadName_global hk ks (PySem.Calls.loadGlobal_builtin (hg.keeps hk₁) hmg (hb.keeps hk₁) ((hmb _ (by decide +kernel)).trans (by decide +kernel)) ⟨rfl, ?_⟩)
  refine wpAny_loadName_free hk kc rfl ⟨_, X1 _ _ lcc, rfl⟩ ?_
  rw [hself]
  refine wpAny_loadName_local hk kself hz (show _ = some (Value.ref e) from rfl) ?_
  refine ks_wpAny_isType_cls hB1 hB2 ⟨rfl, ?_⟩
  refine ks_wpAny_call_super hB1 hB2 he1 rfl (fun c z => nomatch z) (PySem.W.looks_mroIn X1 E.sub) fun h2 e2 kk2 => ?_
  generalize hS : h₁.objs.size = so at e2
  have X2 : K.In h2 := X1.keeps kk2
  have he2 := kk2 _ _ he1
  have I2 : PySem.W.InstAt h2 e (PySem.HandSPX.excO C t0) C none := ⟨he2, rfl, rfl, trivial⟩
  have hal := E.sup
  unfold PySem.W.ks_superIn at hal
  rw [hcl, Option.bind_some] at hal
  refine PySem.W.kxs_getMethod PySem.W.kxs_ValueError (x := e) (C := C) e2 (PySem.W.looks_opaque X2 S.op) ((PySem.W.looks_clsIn X2 hcl).andThen .now) rfl X2 hal (I2.type.andThen (PySem.W.looks_subIn X2 E.ve)) (PySem.W.ks_ne X2 I2 hcl) (by decide) ?_
  generalize hU : h2.objs.size = u
  have hu : (h2.push (PySem.W.kxs_mw "ValueError.__init__" e)).get? u = some (PySem.W.kxs_mw "ValueError.__init__" e) := by rw [← hU]; exact Heap.get?_push_at rfl rfl
  have kk3 : ∀ b o, h2.get? b = some o → (h2.push (PySem.W.kxs_mw "ValueError.__init__" e)).get? b = some o := fun b o z => Heap.get?_push_of_some _ z
  generalize (h2.push (PySem.W.kxs_mw "ValueError.__init__" e)) = h3 at hu kk3
  have he3 := kk3 _ _ he2
  have X3 : K.In h3 := X2.keeps kk3
  have hz3 : h3.Ns L (fun y => [(("self" : Str), Value.ref e), ("value", v)].reverse.lookup y) := (hz.keeps kk2).keeps kk3
  have argI : ∀ (bd : List Stmt) (u : Addr) (Q : Args → Shared → Prop) (E' : Value → Shared → Prop) (s' : Shared) (A' : Around), s'.heap.Ns L (fun y => [(("self" : Str), Value.ref e), ("value", v)].reverse.lookup y) → Q ⟨[v], []⟩ s' →
      wpAny (model P w) A' (evalArgs (.ref u) true (backTo p4 (starEach [Expr.Name "value" p3] (callEnv (PySem.W.ksFn name qual params bd scope dV kV doc pm an (.ref cda) ct cc) L gi))) []) Q E' s' := fun bd u Q E' s' A' hn hq => by
    refine PySem.Calls.evalArgs_plain (PySem.Calls.spliced_cons ?_)
    show wpAny _ _ (eval (.Name "value" p3) _) _ _ _
    exact wpAny_Name (wpAny_loadName_local hk kval hn (show _ = some v from rfl) (PySem.Calls.spliced_nil hq))
  refine PySem.W.kxs_callWith (i := "ValueError.__init__") (x := e) rfl (argI _ u _ _ _ _ hz3 ⟨hu, ?_⟩)
  show wpAny _ _ (call (.ref u) [v]) _ _ _
  have C3 := X3 _ _ hC
  refine wpAny_call (codeAny_of_tree ?_)
  show wpAny _ _ (callAny (.ref u) ⟨[v], []⟩) _ _ _
  unfold callAny
  refine wpAny_bind (wpAny_load hu ?_)
  dsimp only [PySem.W.kxs_mw]
  refine PySem.W.KFB.if_so (by decide) ?_
  refine wpAny_bind (PySem.W.check_bound_init F.excBase_ValueError.toExcCallFacts C3 he3 rfl (wpAny_bind (wpAny_pure (wpAny_pure ?_))))
  refine ⟨plainId_quiet F.excBase_ValueError.init.plain _, codeAny_builtin F.excBase_ValueError.initEntry ?_⟩
  refine PySem.W.exc_init_tree (cls := .ref C) (t0 := t0) (dv := none) (c2 := .none) (c3 := .none) (b4 := .bool false) he3 (by show 1 ≤ sizeLine; rw [sizeLine_eq]; omega) fun h4 kk4 he4 _ => ?_
  have hLe : L ≠ e := fun z => by
    have q := Heap.lt_size he
    rw [← z, ← hL] at q
    exact absurd q (Nat.lt_irrefl _)
  have kE : ∀ b o, b ≠ e → h.get? b = some o → h4.get? b = some o := fun b o hb z => kk4 b o hb (kk3 _ _ (kk2 _ _ (hk₁ _ _ z)))
  have X4 : K.In h4 := fun b o z => by
    by_cases hb : b = e
    · rw [hb, hKe] at z; cases z
    · exact kE b o hb (X _ _ z)
  obtain ⟨oL, es, ep, hoL, rL⟩ := hz3
  have hz4 : h4.Ns L (fun y => [(("self" : Str), Value.ref e), ("value", v)].reverse.lookup y) := ⟨oL, es, ep, kk4 _ _ hLe hoL, rL⟩
  show PySem.wpAt _ _ _ (execs [_] _) _ _ _
  refine ks_wpAt_execs_cons (ks_wpAt_Assign_Attr (PySem.wpAt_of_wpAny (wpAny_Name (wpAny_loadName_local hk kval hz4 (show _ = some v from rfl) (wpAny_Name (wpAny_loadName_local hk kself hz4 (show _ = some (Value.ref e) from rfl) ?_))))) f3)
  refine PySem.W.set_plain X4 (ox := PySem.HandSPX.excO C h3.objs.size) (od := none) ⟨he4, rfl, rfl, trivial⟩ E.oex.sa ?_
  refine PySem.HandSPX.exc_osa X4 he4 hcl (show PySem.HandSPX.refsVE (.ref C :: bm) = true from hbm) rfl E.val fun h5 tk dx kk5 dn dne hx hn => ?_
  refine PySem.wpAt_of_wpAny (wpAny_pure ?_)
  refine hR h5 _ dx tk (fun b o hb z => kk5 b o hb (kE b o hb z)) ?_ dne hx hn
  have q := Heap.lt_size (kk4 _ _ hLe hoL)
  rw [hL]
  exact Nat.le_trans (Nat.le_of_lt q) dn
end
theorem exv_ok {P : Program} {w : World} {H : Hp} {h : Heap} {C dx a t1 : Addr} (he : h.get? a = some { cls := .ref C, dict := some dx, data := .fields #[.ref t1, .none, .none, .none, .bool false, .none] }) : ObjOk P w H h a (ExV C dx a) :=
  ⟨⟨_, _, he, ⟨rfl, rfl⟩, rfl⟩, ⟨_, he⟩, fun h1 h2 z k => by
    obtain ⟨oe, vs, e1, e2, e3⟩ := z
    exact ⟨oe, vs, k _ e1, e2, e3⟩⟩
section
variable {X : Cx} {pins : List (Addr × Obj)} {σ : L2.St} {H : Hp} {s : Shared} {C B gi : Addr} {v : V} {u : Value} {Q : Value → Shared → Prop} {E' : Value → Shared → Prop} {k : Nat}
/-- C(v): a new error -/
theorem call_exc (E : ErrC X.K C B gi) (S : SupI X.K X.prog.main.file B gi) (hsup : X.mg "super" = none) (htop : (X.prog.main.scope.names.lookup ("super" : Str)).isSome = false) (hr : Rm (k + 2) X.A) (I : Inv X pins σ H s) (ru : RelV v u)
    (h : ∀ a dx s', H a = none → H dx = none → dx ≠ a → Inv X pins σ (upd (upd H dx (.xd [("value", v)])) a (ExV C dx a)) s' → Q (.ref a) s') : wpAny (model X.prog X.w) X.A (call (.ref C) [u]) Q E' s := by
  obtain ⟨nm, q, N, bs, bm, sn, sub, ab, col, dd, k0, k1, k2, k3, k5, hC, hbm⟩ := E.oex.cls
  obtain ⟨mb, hb, hmb⟩ := I.ok.mod.blt
  obtain ⟨hp, g, dr, tk, os⟩ := s
  have kb : ∀ b o, X.base.get? b = some o → hp.get? b = some o := fun b o z => (I.env0.bs b o z).1
  have KI := I.kIn
  have kk : ∀ b o, hp.get? b = some o → ((hp.push (PySem.W.kdv_tup [u])).push (PySem.HandSPX.excO C hp.objs.size)).get? b = some o := fun b o z => Heap.get?_push_of_some _ (Heap.get?_push_of_some _ z)
  have hget : ((hp.push (PySem.W.kdv_tup [u])).push (PySem.HandSPX.excO C hp.objs.size)).get? (hp.objs.size + 1) = some (PySem.HandSPX.excO C hp.objs.size) := by heap_get
  have hKe : X.K.lookup (hp.objs.size + 1) = none := by
    cases z : X.K.lookup (hp.objs.size + 1) with
    | none => rfl
    | some o => exact absurd (Heap.lt_size (KI _ _ z)) (Nat.not_lt.mpr (Nat.le_succ _))
  have kk' := kk
  generalize hh2 : (hp.push (PySem.W.kdv_tup [u])).push (PySem.HandSPX.excO C hp.objs.size) = h2 at kk hget
  have hs2 : hp.objs.size ≤ h2.objs.size := by rw [← hh2, Heap.size_push, Heap.size_push]; omega
  refine wpAny_call (PySem.HandSPX.call_own F.excBase_ValueError (fun Y => PySem.HandSPX.refsVE_contains Y bm hbm) (KI _ _ hC) (PySem.W.looks_findIn KI E.ini) (fun self => PySem.W.bind_fn KI self E.fn) (by show 1 ≤ sizeLine; rw [sizeLine_eq]; omega) ?_)
  rw [hh2]
  refine exc_init (v := u) E S (KI.keeps kk) ((I.ok.mod.glob.keeps kb).keeps kk) hsup ((hb.keeps kb).keeps kk) hmb ((I.ok.mod.nolimit.keeps kb).keeps kk) htop (hr.rm.make C [u] []).depth hKe hget fun h' t1 dx tk' k3 dn dne he hn => ?_
  have keep : ∀ b o, hp.get? b = some o → h'.get? b = some o := fun b o z => k3 b o (fun y => by
    have := Heap.lt_size z
    rw [y] at this
    exact absurd this (Nat.not_lt.mpr (Nat.le_succ _))) (kk b o z)
  obtain ⟨G, g1, g2⟩ := restrict h' fun b => decide (b ≠ dx)
  have gk : ∀ b, b ≠ dx → G.get? b = h'.get? b := fun b hb => g1 b (decide_eq_true hb)
  have ge : G.get? dx = none := g2 dx (by simp)
  have hnd : H dx = none := I.hok.fresh (Nat.le_trans hs2 dn)
  have hna : H (hp.objs.size + 1) = none := I.hok.fresh (Nat.le_succ _)
  have hge : G.get? (hp.objs.size + 1) = some _ := (gk _ (Ne.symm dne)).trans he
  have I1 : Inv X pins σ (upd H (hp.objs.size + 1) (ExV C dx (hp.objs.size + 1))) ⟨G, g, dr, tk', os⟩ :=
    I.laid (t' := tk') (a := hp.objs.size + 1) (h' := G) (fun b o z => (gk b (fun y => by
      have q := Heap.lt_size z
      rw [y] at q
      exact absurd q (Nat.not_lt.mpr (Nat.le_trans hs2 dn)))).trans (keep b o z)) (Nat.le_succ _) (exv_ok hge)
  have I2 : Inv X pins σ (upd (upd H (hp.objs.size + 1) (ExV C dx (hp.objs.size + 1))) dx (.xd [("value", v)])) ⟨h', g, dr, tk', os⟩ :=
    I1.laidN (t' := tk') (a := dx) (h' := h') (fun b o z => by
      by_cases hb : b = dx
      · rw [hb, ge] at z; cases z
      · rw [← gk b hb]; exact z) ge (by rw [upd_ne dne]; exact hnd) ⟨_, hn, fun f => relO_put (fs := []) (mA := fun _ => none) ru (fun _ => True.intro) f⟩
  have eq : upd (upd H (hp.objs.size + 1) (ExV C dx (hp.objs.size + 1))) dx (.xd [("value", v)]) = upd (upd H dx (.xd [("value", v)])) (hp.objs.size + 1) (ExV C dx (hp.objs.size + 1)) := by
    funext b
    by_cases h1 : b = dx
    · subst h1; rw [upd_same, upd_ne dne, upd_same]
    · rw [upd_ne h1]
      by_cases h2 : b = hp.objs.size + 1
      · subst h2; rw [upd_same, upd_same]
      · rw [upd_ne h2, upd_ne h2, upd_ne h1]
  rw [eq] at I2
  exact ⟨rfl, h _ dx _ hna hnd dne I2⟩
end
end DL
namespace DL
open PySem PySem.Spec PyProof.Rows L2
/-! isinstance, fields -/
section
variable {P : Program} {w : World} {A : Around} {E' : Value → Shared → Prop} {s : Shared} {K : PySem.W.Frag} {x C : Addr} {ox od : Obj}
theorem exd_class {Q : Option Value → Shared → Prop} (T : ExcC K C) (X : K.In s.heap) (I : PySem.W.InstAt s.heap x ox C (some od)) (h : Q (some (.ref C)) { s with toks := s.toks + 1 }) : wpAny (model P w) A (getAttr? (.ref x) "__class__") Q E' s := by
  have hc : (PySem.W.clsIn K C).isSome = true := by
    obtain ⟨cd, hc, _⟩ := PySem.W.any_some T.hd
    rw [hc]; rfl
  have hf := PySem.W.findObj_data (od := od) hc T.ha T.hn T.ht
  obtain ⟨hp, g, d, t, os⟩ := s
  have Lt := I.type (M := model P w)
  have La := PySem.W.looks_findIn (M := model P w) X T.hg
  have Lb := PySem.W.looks_findIn (M := model P w) X T.hk
  have Lc := PySem.W.looks_find (M := model P w) X I hf
  have ex : PySem.W.Looks (model P w) hp (isInstance (.ref x) (.type "BaseException")) true := Lt.andThen (PySem.W.looks_subIn X T.hs)
  have z2 : (Value.builtin "BaseException.__getattribute__" == Value.builtin "object.__getattribute__") = false := by decide +kernel
  have z1 : (onTheHeap (Value.ref C) && Value.builtin "BaseException.__getattribute__" == Value.builtin "object.__getattribute__") = false := by rw [z2]; rfl
  unfold getAttr? getAttrBy? getAttrBy
  refine wpAny_bind (wpAny_mkText (wpAny_bind (wpAny_attempt (wpAny_holding (wpAny_bind (Lt.at (wpAny_bind (La.at ?_))))))))
  show wpAny _ _ (if (onTheHeap (Value.ref C) && Value.builtin "BaseException.__getattribute__" == Value.builtin "object.__getattribute__") = true then _ else _) _ _ _
  rw [z1, if_neg Bool.false_ne_true]
  unfold getAttrByItsOwn hookBefore
  refine wpAny_bind ?_
  rw [if_pos (show onTheHeap (Value.ref C) = true from rfl)]
  refine Lb.at (wpAny_bind (wpAny_attempt (wpAny_holding ?_)))
  unfold callGetattribute
  rw [if_neg (show ¬ ((false && onTheHeap (Value.builtin "BaseException.__getattribute__")) = true) from Bool.false_ne_true)]
  unfold boundAndCalled
  rw [PySem.F.excAttr_ValueError.ga.bind (.ref x)]
  refine wpAny_bind (wpAny_pure ?_)
  show wpAny _ _ (call (.builtin "BaseException.__getattribute__") [.ref x, .str "__class__" t]) _ _ _
  refine wpAny_call (codeAny_call_builtin PySem.F.excAttr_ValueError.ga.plain PySem.F.entry_bexc_ga ?_)
  refine @PySem.W.check_slot (model P w) _ _ ⟨hp, g, d, t + 1, os⟩ "BaseException.__getattribute__" "BaseException" "__getattribute__" (.ref x) [.str "__class__" t] [] _ (by decide +kernel) (by decide +kernel) ex (PySem.F.args_bexc_ga (.ref x) (.str "__class__" t)) ?_
  unfold Builtin.«object.__getattribute__»
  refine wpAny_bind (wpAny_of_eq (a := ((Value.ref x : Value), [Value.str "__class__" t])) (by first | rfl | (simp only [slotArgs]; rfl)) (wpAny_bind (wpAny_pure (wpAny_bind (Lt.at (wpAny_bind (Lc.at ?_)))))))
  show wpAny _ _ (holding [Value.builtin "object.__class__"] (call (.builtin "getset_descriptor.__get__") [.builtin "object.__class__", .ref x, .ref C]) >>= ret) _ _ _
  refine wpAny_bind (wpAny_holding (wpAny_call (PySem.W.class_get (s := ⟨hp, g, d, t + 1, os⟩) (ox := ox) (od := some od) X I T.hm (wpAny_pure ?_))))
  show wpAny _ _ (handedOut (.ref C)) _ _ _
  rw [PySem.W.handedOut_of (v := .ref C) rfl]
  first
    | exact wpAny_pure (wpAny_pure h)
    | exact wpAny_pure h
    | exact wpAny_pure (wpAny_bind (wpAny_pure (wpAny_pure h)))
/-- what isinstance asks of an error that has its dict -/
theorem kitx_exd (T : ExcC K C) : PySem.W.KitX K (.ref x) (.ref C) (fun h => ∃ ox od, PySem.W.InstAt h x ox C (some od)) where
  ty := fun _ _ _ ⟨_, _, I⟩ => I.type
  it := fun M h X q => by
    obtain ⟨ox, od, I⟩ := q
    obtain ⟨dd, hd, _⟩ := PySem.W.any_some T.hd
    unfold PySem.W.clsIn at hd
    split at hd
    · rename_i c1 c2 c3 c4 lo
      intro A' Q' E' s' kp hq
      unfold isType loadHead
      exact wpAny_bind (wpAny_loadPart (kp _ _ (X _ _ lo)) (wpAny_pure hq))
    · cases hd
  ne := fun h tp dd its n sl X htp => by
    obtain ⟨cd, hd, _⟩ := PySem.W.any_some T.hd
    refine Bool.eq_false_iff.mpr fun q => ?_
    obtain rfl : C = tp := Value.ref.inj (beq_iff_eq.mp q)
    unfold PySem.W.clsIn at hd
    split at hd
    · rename_i c1 c2 c3 c4 lo
      cases (X _ _ lo).symm.trans htp
    · cases hd
  ca := fun X I q => by
    obtain ⟨ox, od, I⟩ := I
    exact exd_class T X I q
end
section
variable {Cs : Nat → Addr} {F : Addr → Prop} {X : Cx} {ρ : Env} {M : Mem} {a b c e : Expr} {es : List Expr} {pos p apos : Pos} {Φ : D → Mem → Prop} {E : DE} {x y z f m : Str} {k n : Nat} {d : D} {C B gi : Addr}
theorem exv_at {P : Program} {w : World} {H : Hp} {h : Heap} {C dx a : Addr} {fs : List (Str × V)} (ok : HOk P w H h) (ha : H a = some (ExV C dx a)) (hd : H dx = some (.xd fs)) : ∃ ox od mA, PySem.W.InstAt h a ox C (some od) ∧ h.get? dx = some od ∧ h.Ns1 dx mA ∧ (∀ f, RelO (fs.lookup f) (mA f)) ∧ ∀ f, PySem.W.lookIn f od = some (mA f) := by
  obtain ⟨⟨oe, vs, e1, e2, e3⟩, _, _⟩ := show ObjOk P w H h a (.ext fun h => ∃ (oe : Obj) (vs : Array Value), h.get? a = some oe ∧ Zc (.ref C) (some dx) oe ∧ oe.data = .fields vs) from ok a _ ha
  obtain ⟨mA, hns, r⟩ := show ObjOk P w H h dx (.xd fs) from ok dx _ hd
  obtain ⟨od, ho, hl⟩ := lookIn_ns hns
  exact ⟨oe, od, mA, ⟨e1, e2.1, by unfold PySem.W.notCls; rw [e3] <;> rfl, by rw [e2.2]; exact ho⟩, ho, hns, r, hl⟩
/-- isinstance(x, T), x an error -/
theorem wc_isiE {y : D} {u : Value} {t : Bool} (hy : (∃ n, y = .ty n ∧ u = .type n) ∨ (∃ C, y = .ref C ∧ u = .ref C)) (T : ExcC X.K (Cs n)) (hk : PySem.W.kitOne X.K (.ref (Cs n)) u = some t) (h : Φ (.bl t) M) : WC Cs X (.builtin "isinstance") [.exc n d, y] M Φ := .mk fun F H vs m rs Q k pins s σ us I r => by
  obtain ⟨v, v', rfl, r1, r2⟩ := reps2 rs
  cases r1 with
  | exc hz hx ha hd rv =>
    cases r with
    | cons q1 r =>
      cases r with
      | @cons _ b2 _ _ q2 r =>
        cases r
        cases q1
        obtain ⟨ox, od, mA, J, _⟩ := exv_at I.hok ha hd
        have eu : b2 = u := by
          rcases hy with ⟨n, rfl, rfl⟩ | ⟨C, rfl, rfl⟩
          · cases r2; exact q2
          · cases r2; exact q2
        subst eu
        exact PySem.W.kia_one (kitx_exd T) I.kIn ⟨ox, od, J⟩ hk (fun z => nomatch z) fun tk => ⟨.bl t, H, I.kept (t' := tk) fun _ _ z => z, rfl, k.here m (.bl _) h⟩
/-- e.value, e an error -/
theorem wat_exc (E : ErrC X.K (Cs n) B gi) (h : Φ d M) : WAt Cs X "value" (.exc n d) M Φ := .mk fun F H vx m r Q k pins s σ v I rv => by
  cases r with
  | exc hz hx ha hd rd =>
    cases rv
    obtain ⟨ox, od, mA, J, _, _, hr, hl⟩ := exv_at I.hok ha hd
    obtain ⟨u, hu, ru⟩ := RelO.some_of (o := mA "value") (hr "value")
    exact HandSPX.exc_get I.kIn J E.xf.ga E.xf.gg E.xf.exC (PySem.W.findObj_own E.xf.hdC E.val rfl (by rw [hl, hu])) (handed_of ru) ⟨_, H, I.tok _, ru, k.here m rd h⟩
/-- C(e): a new error -/
theorem we_exc (E : ErrC X.K (Cs n) B gi) (S : SupI X.K X.prog.main.file B gi) (hsup : X.mg "super" = none) (htop : (X.prog.main.scope.names.lookup ("super" : Str)).isSome = false) (hr : Rm (k + 2) X.A) (hg : Gl X x) (hm : X.mg x = some (.ref (Cs n)))
    (h : WE Cs X e ρ M fun d M1 => Φ (.exc n d) M1)
    (hdb : (x == ("__debug__" : Str)) = false := by decide) (hst : starEach [e] X.env = (false, eval e X.env) :: starEach [] X.env := by rfl) : WE Cs X (.Call (.Name x p) [e] [] pos) ρ M Φ :=
  .mk fun F σ H A Q k pins s I => by
    refine wpAny_Call_Name_kw (ld_glob I hg hm ?_ hdb)
    refine PySem.W.callWith_K (h₀ := X.base) I.ok.mod.kin E.oex.kC (PyProof.Rows.args_cons (thn (h.run _ σ H A (fun v H1 => ∃ d M1, Post M H M1 H1 ∧ MemAt Cs F M1 H1 ∧ Rep Cs (Zf F M1) H1 v d ∧ Φ (.exc n d) M1) (fun v d H1 M1 p1 m1 r1 h1 => ⟨d, M1, p1, m1, r1, h1⟩) pins s I)
      fun u s1 ⟨v, H1, I1, ru, d, M1, p1, m1, r1, h1⟩ => PyProof.Rows.args_nil ⟨I1.kIn, ?_⟩) hst) hst rfl
    show wpAny _ _ (call (.ref (Cs n)) [u]) _ _ _
    refine call_exc E S hsup htop hr I1 ru fun a dx s' hna hnd ne I2 => ⟨.ref a, _, I2, rfl, ?_⟩
    have key : ∀ z o, H1 z = some o → upd (upd H1 dx (.xd [("value", v)])) a (ExV (Cs n) dx a) z = some o := fun z o hz => by rw [upd_ne (ne_of_none hz hna), upd_ne (ne_of_none hz hnd)]; exact hz
    have p2 : Post M1 H1 M1 (upd (upd H1 dx (.xd [("value", v)])) a (ExV (Cs n) dx a)) := ⟨fun b o hb ho => .inl (key b o ho), fun b hb => .inl hb⟩
    have m2 : MemAt Cs F M1 (upd (upd H1 dx (.xd [("value", v)])) a (ExV (Cs n) dx a)) := m1.go p2 fun b nn hb => .inl ⟨hb, key b, fun dx' z => ⟨key dx', ((m1.at_ b _ hb).aux z).2⟩⟩
    have na : ¬ Zf F M1 a := fun z => z.elim (fun z => (m1.ff a z).2 hna) (fun z => z (m1.old hna))
    have nd : ¬ Zf F M1 dx := fun z => z.elim (fun z => (m1.ff dx z).2 hnd) (fun z => z (m1.old hnd))
    exact k _ _ _ M1 (p1.trans p2) m2 (.exc na nd upd_same (by rw [upd_ne ne, upd_same]) (r1.go p2)) h1
end
end DL
/-! ### further facts of the top: errors, classes with dicts -/
namespace DL
open PySem PySem.Spec PyProof.Rows L2
def oexB (K : PySem.W.Frag) (C : Addr) : Bool := match K.lookup C with
  | some ⟨.type t, _, .cls cd, sl⟩ => decide (t = "type") && (match cd.mro, sl.toList with
    | .ref C' :: bm, [_, _, _, _, some (.builtin n), _] => decide (C' = C) && (decide (n = "ValueError.__new__") && (!cd.hasDel && (cd.hasDict && PySem.HandSPX.refsVE bm)))
    | _, _ => false)
  | _ => false
theorem oexB_ok {K : PySem.W.Frag} {C : Addr} (h : oexB K C = true) : ∃ nm q N bs bm sn sub ab col dd k0 k1 k2 k3 k5, K.lookup C = some (excClassObj nm q C N bs bm true sn sub ab col dd k0 k1 k2 k3 k5 "ValueError.__new__") ∧ PySem.HandSPX.refsVE bm = true := by
  unfold oexB at h
  split at h
  · rename_i t dd cd sl lk
    obtain ⟨h1, h⟩ := He.ba h
    split at h
    · rename_i C' bm k0 k1 k2 k3 n k5 hm hs
      obtain ⟨h2, h⟩ := He.ba h
      obtain ⟨h3, h⟩ := He.ba h
      obtain ⟨h4, h⟩ := He.ba h
      obtain ⟨h5, h6⟩ := He.ba h
      obtain ⟨nm, bs, mro, ns, qn, hd, sn, sub, ab, col, del⟩ := cd
      dsimp only at hm h4 h5
      have z1 := of_decide_eq_true h1
      have z2 := of_decide_eq_true h2
      have z3 := of_decide_eq_true h3
      have z4 : del = false := by simpa using h4
      subst z1 z2 z3 z4 hm h5
      have e : sl = #[k0, k1, k2, k3, some (.builtin "ValueError.__new__"), k5] := by
        obtain ⟨l⟩ := sl
        simp only at hs
        rw [hs]
      subst e
      exact ⟨nm, qn, ns, bs, bm, sn, sub, ab, col, dd, k0, k1, k2, k3, k5, lk, h6⟩
    · cases h
  · cases h
inductive Fx where
  | err (x b : Str) | cls (x : Str) | noA (x f : Str) | sup (b q file : Str) | errs (xs : List Str) (b : Str) | kits (xs : List Str) (b : Str) | sysm
def supB (K : PySem.W.Frag) (B g : Addr) (qual file : Str) : Bool := match K.lookup g with
  | some ⟨_, _, .func fd, _⟩ => (match fd.code, fd.closure, fd.defaults with
    | .ref cda, [(n, cc)], .none => PySem.W.codeIn K (.ref cda) qual && (decide (n = "__class__") && ((match K.lookup cda with
        | some ⟨_, _, .fields vs, _⟩ => (match (vs[2]? : Option Value) with | some (.str f _) => decide (f = file) | _ => false)
        | _ => false) && (match K.lookup cc with
        | some ⟨_, _, .cell (some (.ref b)), _⟩ => decide (b = B)
        | _ => false)))
    | _, _, _ => false)
  | _ => false
def errB (K : PySem.W.Frag) (x b : Str) : Bool := oexB K (He.ga K x) && (He.eqO (PySem.W.findIn K (.ref (He.ga K x)) "__setattr__") (some (some (.builtin "object.__setattr__"))) && (decide (PySem.W.subIn K (.ref (He.ga K x)) (.type "BaseException") = some true) &&
      (decide (PySem.W.typeIn K (.ref (He.ga K x)) = some (.type "type")) && (PySem.W.keepIn K (.ref (He.ga K x)) && (He.eqO (PySem.W.findIn K (.ref (He.ga K x)) "__init__") (some (some (.ref (He.ma K (He.ga K b) "__init__")))) &&
      (decide (PySem.W.typeIn K (.ref (He.ma K (He.ga K b) "__init__")) = some (.type "function")) && (He.eqO (PySem.W.findIn K (.ref (He.ga K x)) "value") (some none) && (decide (PySem.W.mroIn K (He.ga K x) (.ref (He.ga K b)) = some true) &&
      (He.eqO (PySem.W.ks_superIn K (He.ga K x) (He.ga K b) "__init__") (some (some (.builtin "ValueError.__init__"))) && (decide (PySem.W.subIn K (.ref (He.ga K x)) (.type "ValueError") = some true) && (xfB K (He.ga K x) &&
      (He.eqO (PySem.W.findIn K (.ref (He.ga K x)) "__class__") (some (some (.builtin "object.__class__"))) && (He.eqO (PySem.W.specialIn K (.builtin "object.__class__") "__get__") (some (some (.builtin "getset_descriptor.__get__"))) &&
      (decide (PySem.W.takesIn K (.builtin "object.__class__") = some true) && decide (PySem.W.mroIn K (He.ga K x) (.type "object") = some true)))))))))))))))
def kitsB (K : PySem.W.Frag) (xs : List Str) (b : Str) : Bool := xs.all fun x => decide (PySem.W.kitOne K (.ref (He.ga K x)) (.type "ValueError") = some true) && xs.all fun y => decide (PySem.W.kitOne K (.ref (He.ga K x)) (.ref (He.ga K y)) = some (decide (x = y) || decide (y = b)))
def sysB (K : PySem.W.Frag) : Bool := match K.lookup sysModules with
  | some o => (match o.cls with | .type n => decide (n = "dict") | _ => false)
  | none => false
def Fx.ok (K : PySem.W.Frag) : Fx → Bool
  | .err x b => errB K x b
  | .errs xs b => xs.all fun x => errB K x b
  | .kits xs b => kitsB K xs b
  | .sysm => sysB K
  | .cls x => PySem.W.plainGet K (He.ga K x) Str.empty && (PySem.W.hasDictIn K (He.ga K x) && (PySem.W.plainOver K (He.ga K x) && He.eqO (PySem.W.findIn K (.ref (He.ga K x)) "__setattr__") (some (some (.builtin "object.__setattr__")))))
  | .noA x f => He.eqO (PySem.W.findIn K (.ref (He.ga K x)) f) (some none)
  | .sup b q file => supB K (He.ga K b) (He.ma K (He.ga K b) "__init__") q file && ((PySem.W.clsIn K (He.ga K b)).isSome && He.eqO (PySem.W.nsIn K cStatics "thirdparty.any") (some none))
section
variable {K : PySem.W.Frag} {x b f q file : Str}
theorem Fx.cls_ok (c : (Fx.cls x).ok K = true) : Cls K (He.ga K x) := by
  obtain ⟨h1, c⟩ := He.ba c
  obtain ⟨h2, c⟩ := He.ba c
  obtain ⟨h3, h4⟩ := He.ba c
  exact ⟨h1, h2, h3, He.eqO_ok h4⟩
theorem Fx.noA_ok (c : (Fx.noA x f).ok K = true) : NoAttr K (He.ga K x) f := He.eqO_ok c
theorem errB_ok (c : errB K x b = true) : ErrC K (He.ga K x) (He.ga K b) (He.ma K (He.ga K b) "__init__") := by
  obtain ⟨h1, c⟩ := He.ba c
  obtain ⟨h2, c⟩ := He.ba c
  obtain ⟨h3, c⟩ := He.ba c
  obtain ⟨h4, c⟩ := He.ba c
  obtain ⟨h5, c⟩ := He.ba c
  obtain ⟨h6, c⟩ := He.ba c
  obtain ⟨h7, c⟩ := He.ba c
  obtain ⟨h8, c⟩ := He.ba c
  obtain ⟨h9, c⟩ := He.ba c
  obtain ⟨h10, c⟩ := He.ba c
  obtain ⟨h11, c⟩ := He.ba c
  obtain ⟨h12, c⟩ := He.ba c
  obtain ⟨h13, c⟩ := He.ba c
  obtain ⟨h14, c⟩ := He.ba c
  obtain ⟨h15, h16⟩ := He.ba c
  have xf := xfB_ok h12
  exact ⟨⟨oexB_ok h1, He.eqO_ok h2, of_decide_eq_true h3, of_decide_eq_true h4, h5⟩, He.eqO_ok h6, of_decide_eq_true h7, He.eqO_ok h8, of_decide_eq_true h9, He.eqO_ok h10, of_decide_eq_true h11, xf,
    ⟨xf.ga, xf.gg, xf.exC, xf.hdC, He.eqO_ok h13, He.eqO_ok h14, of_decide_eq_true h15, of_decide_eq_true h16⟩⟩
end
theorem Fx.errs_ok {K : PySem.W.Frag} {b : Str} {xs : List Str} (c : (Fx.errs xs b).ok K = true) (x : Str) (hx : x ∈ xs) : ErrC K (He.ga K x) (He.ga K b) (He.ma K (He.ga K b) "__init__") := errB_ok (List.all_eq_true.mp c x hx)
theorem Fx.kits_ok {K : PySem.W.Frag} {b : Str} {xs : List Str} (c : (Fx.kits xs b).ok K = true) (x : Str) (hx : x ∈ xs) : PySem.W.kitOne K (.ref (He.ga K x)) (.type "ValueError") = some true ∧ ∀ y ∈ xs, PySem.W.kitOne K (.ref (He.ga K x)) (.ref (He.ga K y)) = some (decide (x = y) || decide (y = b)) := by
  obtain ⟨h1, h2⟩ := He.ba (List.all_eq_true.mp c x hx)
  exact ⟨of_decide_eq_true h1, fun y hy => of_decide_eq_true (List.all_eq_true.mp h2 y hy)⟩
theorem Fx.sysm_ok {K : PySem.W.Frag} (c : Fx.sysm.ok K = true) : ∃ o, K.lookup sysModules = some o ∧ o.cls = .type "dict" := by
  have c' : sysB K = true := c
  unfold sysB at c'
  split at c'
  · rename_i o lk
    split at c'
    · rename_i n e
      have z := of_decide_eq_true c'
      subst z
      exact ⟨o, lk, e⟩
    · cases c'
  · cases c'
/-- the def at a, what it closes over left out -/
def fnE (K : PySem.W.Frag) (a : Addr) : He5.FnW := (He5.fnA K a).map fun (n, q, p, b, s, g, _, bn) => (n, q, p, b, s, g, [], bn)
/-- what the text of such an __init__ must say -/
structure InitS (qual : Str) (params : Arguments) (body : List Stmt) (scope : Scope) : Prop where
  tx : ∃ p0 p1 p2 p3 p4 p5 p6 p7 p8 p9, body = [.Expr (.Call (.Attribute (.Call (.Name "super" p0) [] [] p1) "__init__" p2) [.Name "value" p3] [] p4) p5, .Assign [.Attribute (.Name "self" p6) "value" p7] (.Name "value" p8) p9] ∧
      ∀ (kV doc pm : Value) (an : Option Addr) (cda : Addr) (ct : Value) (cc g : Addr) (L : Addr), interactive (callEnv (PySem.W.ksFn "__init__" qual params body scope .none kV doc pm an (.ref cda) ct cc) L g) = false ∧
        swapsWith (.Call (.Attribute (.Call (.Name "super" p0) [] [] p1) "__init__" p2) [.Name "value" p3] [] p4) none p5.line (callEnv (PySem.W.ksFn "__init__" qual params body scope .none kV doc pm an (.ref cda) ct cc) L g) = pure false ∧
        swapsWith (.Name "value" p8) (some (.Attribute (.Name "self" p6) "value" p7)) p9.line (callEnv (PySem.W.ksFn "__init__" qual params body scope .none kV doc pm an (.ref cda) ct cc) L g) = pure false ∧
        ∃ pl : Sem Bool, eval (.Call (.Attribute (.Call (.Name "super" p0) [] [] p1) "__init__" p2) [.Name "value" p3] [] p4) (callEnv (PySem.W.ksFn "__init__" qual params body scope .none kV doc pm an (.ref cda) ct cc) L g) = (do
          let ov ← attributeBase (.Call (.Name "super" p0) [] [] p1) "__init__" (callEnv (PySem.W.ksFn "__init__" qual params body scope .none kV doc pm an (.ref cda) ct cc) L g) (eval (.Call (.Name "super" p0) [] [] p1) (callEnv (PySem.W.ksFn "__init__" qual params body scope .none kV doc pm an (.ref cda) ct cc) L g))
          standAt p2.atName
          let (f, first) ← holding [ov] (getMethod ov "__init__" pl)
          callWith p4 f first (backTo p4 (starEach [.Name "value" p3] (callEnv (PySem.W.ksFn "__init__" qual params body scope .none kV doc pm an (.ref cda) ct cc) L g))) [])
  ar : ∃ ar, (params.posonlyargs ++ params.args).head? = some ar ∧ ar.arg = ("self" : Str)
  bd : ∀ (kV doc pm : Value) (an : Option Addr) (cda : Addr) (ct : Value) (cc : Addr) (u v : Value), bindArgs (PySem.W.ksFn "__init__" qual params body scope .none kV doc pm an (.ref cda) ct cc) ⟨[u, v], []⟩ = pure ([("self" : Str), "value"].zip [u, v])
  sc : scope.names.lookup ("super" : Str) = some .globalImplicit ∧ scope.names.lookup ("__class__" : Str) = some .free ∧ scope.names.lookup ("self" : Str) = some .local ∧ scope.names.lookup ("value" : Str) = some .local ∧
    (∀ x ∈ scope.names, x.2 ≠ .cell) ∧ scope.isCoroutine = false ∧ scope.isGenerator = false ∧ scope.kind = .function
theorem supI_of {K : PySem.W.Frag} {b qual file : Str} {params : Arguments} {body : List Stmt} {scope : Scope} (e : fnE K (He.ma K (He.ga K b) "__init__") = (some (("__init__" : Str), qual, params, FuncBody.stmts body, scope, mainGlobals, ([] : List (Str × Addr)), builtinsNs) : He5.FnW))
    (c : (Fx.sup b qual file).ok K = true) (S : InitS qual params body scope) : SupI K file (He.ga K b) (He.ma K (He.ga K b) "__init__") := by
  obtain ⟨c1, c⟩ := He.ba c
  obtain ⟨c2, c3⟩ := He.ba c
  generalize He.ma K (He.ga K b) "__init__" = g at e c1
  generalize He.ga K b = B at c1 c2 c3
  obtain ⟨p0, p1, p2, p3, p4, p5, p6, p7, p8, p9, hbd, hfm⟩ := S.tx
  unfold supB at c1
  split at c1
  · rename_i oc od fd osl lk
    split at c1
    · rename_i cda n cc hcode hclo hdef
      obtain ⟨k1, c1⟩ := He.ba c1
      obtain ⟨k2, c1⟩ := He.ba c1
      obtain ⟨k3, k4⟩ := He.ba c1
      have k2' := of_decide_eq_true k2
      unfold fnE He5.fnA at e
      rw [lk] at e
      obtain ⟨n1, n2, n3, n4, n5, n6, n7, n8, n9, n10, n11, n12, n13, n14, n15⟩ := fd
      dsimp only at hcode hclo hdef
      have e2 : (some (n1, n2, n3, n4, n5, n6, ([] : List (Str × Addr)), n15) : He5.FnW) = (some (("__init__" : Str), qual, params, FuncBody.stmts body, scope, mainGlobals, ([] : List (Str × Addr)), builtinsNs) : He5.FnW) := e
      simp only [Option.some.injEq, Prod.mk.injEq] at e2
      obtain ⟨h1, h2, h3, h4, h5, h6, _, h8⟩ := e2
      subst h1 h2 h3 h4 h5 h6 h8 hcode hclo hdef k2'
      refine ⟨⟨_, _, _, body, _, .none, n9, n10, n11, n12, cda, n14, cc, oc, od, osl, lk, k1, ?_, ?_, ⟨p0, p1, p2, p3, p4, p5, p6, p7, p8, p9, hbd, fun L => hfm n9 n10 n11 n12 cda n14 cc g L⟩, S.ar, ?_, S.sc⟩, Option.isSome_iff_exists.mp c2, He.eqO_ok c3⟩
      · split at k3
        · rename_i a1 a2 vs a4 l2
          split at k3
          · rename_i f2 tf hv
            have z := of_decide_eq_true k3
            subst z
            exact ⟨_, _, vs, _, tf, l2, hv⟩
          · cases k3
        · cases k3
      · split at k4
        · rename_i a1 a2 b2 a4 l2
          have z := of_decide_eq_true k4
          subst z
          exact ⟨_, _, _, l2⟩
        · cases k4
      · intro us hl
        match us, hl with
        | [u, v], _ => exact S.bd n9 n10 n11 n12 cda n14 cc u v
    · cases c1
  · cases c1
/-! the Hook -/
def obsX (fa : List Fc) (fx : List Fx) (fn fs : List He5.DefA) (K : PySem.W.Frag) : He.AlD := ((fx.all fun f => f.ok K) && (obsN fa fn K).1, (obsN fa fn K).2 ++ fs.map fun d => fnE K (d.at_ K))
def valX (fn fs : List He5.DefA) : He.AlD := (true, (valC fn).2 ++ fs.map He5.DefA.val)
def SaysX (fa : List Fc) (fx : List Fx) (fn fs : List He5.DefA) (K : PySem.W.Frag) : Prop := obsX fa fx fn fs K = valX fn fs
def obsXG (n : Nat) (fa : List Fc) (fx : List Fx) (fn fs : List He5.DefA) (g : Addr → Option Obj) : He.AlD := obsX fa fx fn fs (He.frG g (sysModules :: He5.asA g n))
def hookX (n : Nat) (fa : List Fc) (fx : List Fx) (fn fs : List He5.DefA) : PySem.W.Hook where
  α := He.AlD
  obs := fun s => obsXG n fa fx fn fs s.heap.get?
  val := fun _ => valX fn fs
  says := fun _ h => ∃ K : PySem.W.Frag, K.In h ∧ SaysX fa fx fn fs K
  of := fun _ _ e => ⟨_, He.frG_in, e⟩
  keeps := fun _ _ _ ⟨K, hK, c⟩ k => ⟨K, PySem.W.Frag.In.keeps hK k, c⟩
section
variable {fa : List Fc} {fx : List Fx} {fn fs : List He5.DefA} {K : PySem.W.Frag}
theorem obsXG_eq {n : Nat} {g : Addr → Option Obj} {s : Shared} (h : ∀ a, g a = s.heap.get? a) : obsXG n fa fx fn fs g = (hookX n fa fx fn fs).obs s := by
  have e : g = s.heap.get? := funext h
  rw [e] <;> rfl
theorem SaysX.says (c : SaysX fa fx fn fs K) : SaysN fa fn K ∧ (fx.all fun f => f.ok K) = true ∧ (fs.map fun d => fnE K (d.at_ K)) = fs.map He5.DefA.val := by
  have c1 := He.ba (show ((fx.all fun f => f.ok K) && (obsN fa fn K).1) = true from congrArg (fun z : He.AlD => z.1) c)
  have c2 : (obsN fa fn K).2 ++ (fs.map fun d => fnE K (d.at_ K)) = (valC fn).2 ++ fs.map He5.DefA.val := congrArg (fun z : He.AlD => z.2) c
  have hl : (obsN fa fn K).2.length = (valC fn).2.length := by
    show (fn.map fun d => He5.fnA K (d.at_ K)).length = (fn.map He5.DefA.val).length
    rw [List.length_map, List.length_map]
  obtain ⟨e1, e2⟩ := List.append_inj c2 hl
  exact ⟨Prod.ext c1.2 e1, c1.1, e2⟩
theorem SaysX.factX (c : SaysX fa fx fn fs K) (i : Nat) {f : Fx} (h : fx[i]? = some f := by rfl) : f.ok K = true := List.all_eq_true.mp c.says.2.1 f (List.mem_of_getElem? h)
theorem SaysX.defX (c : SaysX fa fx fn fs K) (i : Nat) {d : He5.DefA} (h : fs[i]? = some d := by rfl) : fnE K (d.at_ K) = d.val := by
  have e2 : (fs.map fun d => fnE K (d.at_ K))[i]? = (fs.map He5.DefA.val)[i]? := by rw [c.says.2.2]
  rw [List.getElem?_map, List.getElem?_map, h] at e2
  exact Option.some.inj e2
theorem SaysX.c (c : SaysX fa fx fn fs K) : SaysC fa fn K := c.says.1.says.2.2
end
/-- what a head leaves, by the law's promise on data -/
theorem walk_X {l : PySem.W.OpenLaw} {n k : Nat} {q : Program} {loose : List Str} {XP : (Str → Option Value) → Heap → Prop} {fas : List Fc} {fxs : List Fx} {fns fss : List He5.DefA} {d : DefRec} {S : FS} {Cs : PySem.W.Frag → Nat → Addr}
    (hn : l.most = some n) (hn2 : n ≤ sizeLine) (hdf : d.params.defaults = []) (hname : d.name = ("law" : Str)) (hr : Rm k callerA)
    (F : ∀ (w : World) (K : PySem.W.Frag) (mg : Str → Option Value) (h base : Heap), K.In h → h.Ns mainGlobals mg → SaysX fas fxs fns fss K → FnG l.prog w K mg base CX0 k (He.ga K "law") (spD (Cs K) S))
    (hsp : ∀ ns : List Int, ns.length ≤ n → S [.lst (ns.map D.int)] (fun _ => none) fun d _ => d = .bl true) :
    PySem.W.WalkO q loose XP (fun _ h => ∃ K : PySem.W.Frag, K.In h ∧ SaysX fas fxs fns fss K) l.row.toRowW d [] (fun f vs => PySem.call f vs) := by
  refine Att.attach_call hn hdf fun w s₀ s₁ mg mb fa o pm cd doc a vs ns G Y ho hd hcd hmg hobj hints hlen hg => ?_
  obtain ⟨K, KX, c⟩ := Y
  obtain ⟨c1, c3, _⟩ := c.says.1.says
  have e := (Fc.glo_ok KX G.T.g c3).1
  rw [hname] at hmg
  rw [hmg] at e
  obtain rfl : fa = He.ga K "law" := by cases e; rfl
  exact law_D KX c1 G.T.g G.T.b G.T.builtins G.T.nolimit hg hobj hints (Nat.le_trans hlen hn2) hr (fun base => F w K mg _ base KX G.T.g c) (hsp ns hlen)
end DL
/-! ### repr of data with dicts -/
namespace DL
open PySem PySem.Spec PyProof.Rows L2
def keyPy : Key → PyData
  | .inl i => .int i
  | .inr x => .str x
def keyC : Key → Nat
  | .inl _ => 1921
  | .inr x => (reprText x).length
def zipPy : List Key → List PyData → List (PyData × PyData)
  | k :: ks, d :: ds => (keyPy k, d) :: zipPy ks ds
  | _, _ => []
mutual
def _root_.DL.D.pz : D → PyData
  | .non => .none
  | .bl b => .bool b
  | .int i => .int i
  | .str x => .str x
  | .tup ds => .tuple (pzs ds)
  | .lst ds => .list (pzs ds)
  | .dct ks ds => .dict (zipPy ks (pzs ds))
  | _ => .none
def pzs : List D → List PyData
  | [] => []
  | d :: ds => d.pz :: pzs ds
end
/-- all that repr asks: n deep, c long at most -/
inductive Shz : Nat → Nat → D → Prop
  | non {n c : Nat} (h : 5 ≤ c) : Shz n c .non
  | bl {n c : Nat} (b : Bool) (h : 5 ≤ c) : Shz n c (.bl b)
  | int {n c : Nat} (i : Int) (hi : i.natAbs < 2 ^ 1900) (h : 1921 ≤ c) : Shz n c (.int i)
  | str {n c : Nat} (x : Str) (h : (reprText x).length ≤ c) : Shz n c (.str x)
  | tup {n c k : Nat} {ds : List D} (h : ∀ d ∈ ds, Shz n k d) (hc : 3 + ds.length * (k + 2) ≤ c) : Shz (n + 1) c (.tup ds)
  | lst {n c k : Nat} {ds : List D} (h : ∀ d ∈ ds, Shz n k d) (hc : 3 + ds.length * (k + 2) ≤ c) : Shz (n + 1) c (.lst ds)
  | dct {n c k : Nat} {ks : List Key} {ds : List D} (h : ∀ d ∈ ds, Shz n k d) (hk : ∀ q ∈ ks, keyC q ≤ k ∧ ∀ i, q = .inl i → i.natAbs < 2 ^ 1900) (hl : ks.length = ds.length) (hc : 3 + ds.length * (2 * k + 4) ≤ c) : Shz (n + 1) c (.dct ks ds)
theorem Shz.mono {n c : Nat} {d : D} (s : Shz n c d) : ∀ {n' c' : Nat}, n ≤ n' → c ≤ c' → Shz n' c' d := by
  induction s with
  | non h => intro n' c' h1 h2; exact .non (by omega)
  | bl b h => intro n' c' h1 h2; exact .bl b (by omega)
  | int i hi h => intro n' c' h1 h2; exact .int i hi (by omega)
  | str x h => intro n' c' h1 h2; exact .str x (by omega)
  | tup h hc ih =>
    intro n' c' h1 h2
    obtain ⟨m, rfl⟩ : ∃ m, n' = m + 1 := ⟨n' - 1, by omega⟩
    exact .tup (fun d hd => ih d hd (by omega) (Nat.le_refl _)) (by omega)
  | lst h hc ih =>
    intro n' c' h1 h2
    obtain ⟨m, rfl⟩ : ∃ m, n' = m + 1 := ⟨n' - 1, by omega⟩
    exact .lst (fun d hd => ih d hd (by omega) (Nat.le_refl _)) (by omega)
  | dct h hk hl hc ih =>
    intro n' c' h1 h2
    obtain ⟨m, rfl⟩ : ∃ m, n' = m + 1 := ⟨n' - 1, by omega⟩
    exact .dct (fun d hd => ih d hd (by omega) (Nat.le_refl _)) hk hl (by omega)
theorem pzs_all {p : PyData → Prop} : ∀ {ds : List D}, (∀ d ∈ ds, p d.pz) → ∀ x ∈ pzs ds, p x
  | [], _, x, hx => by rw [pzs] at hx; cases hx
  | d :: ds, h, x, hx => by
    rw [pzs] at hx
    rcases List.mem_cons.mp hx with rfl | hx
    · exact h d List.mem_cons_self
    · exact pzs_all (fun y hy => h y (List.mem_cons_of_mem _ hy)) x hx
theorem pzs_length : ∀ (ds : List D), (pzs ds).length = ds.length
  | [] => by rw [pzs]; rfl
  | d :: ds => by rw [pzs, List.length_cons, List.length_cons, pzs_length ds]
structure ShP (n c : Nat) (x : PyData) : Prop where
  sh : x.showable = true
  dp : x.depth ≤ n
  le : x.shown.length ≤ c
theorem shp_all {n k : Nat} : ∀ {xs : List PyData}, (∀ x ∈ xs, ShP n k x) → PyData.showableAll xs = true ∧ PyData.depthAll xs ≤ n ∧ piled (PyData.shownAll xs) ≤ xs.length * (k + 2)
  | [], _ => ⟨by rw [PyData.showableAll], by rw [PyData.depthAll]; exact Nat.zero_le _, by rw [PyData.shownAll]; exact Nat.zero_le _⟩
  | x :: xs, h => by
    obtain ⟨h1, h2, h3⟩ := shp_all (xs := xs) fun y hy => h y (List.mem_cons_of_mem _ hy)
    have hx := h x List.mem_cons_self
    refine ⟨by rw [PyData.showableAll, hx.sh, h1]; rfl, ?_, ?_⟩
    · rw [PyData.depthAll]
      have := hx.dp
      omega
    · rw [PyData.shownAll, piled_cons, List.length_cons, Nat.succ_mul]
      have := hx.le
      omega
theorem int_le {i : Int} (h : i.natAbs < 2 ^ 1900) : ShP 0 1921 (.int i) := by
  have l := log_lt h (by decide)
  refine ⟨by rw [PyData.showable]; exact decide_eq_true l, by rw [PyData.depth]; exact Nat.zero_le _, ?_⟩
  rw [PyData.shown]
  have := int_text_length_le (k := 1920) (by decide) l
  rw [PySem.ofString_length]
  omega
theorem key_le {q : Key} {k : Nat} (h : keyC q ≤ k) (hi : ∀ i, q = .inl i → i.natAbs < 2 ^ 1900) : ShP 0 k (keyPy q) := by
  cases q with
  | inl i =>
    have z := int_le (hi i rfl)
    exact ⟨z.sh, z.dp, Nat.le_trans z.le h⟩
  | inr x => exact ⟨by show PyData.showable (.str x) = true; rw [PyData.showable], by show PyData.depth (.str x) ≤ 0; rw [PyData.depth]; exact Nat.zero_le _, by show (PyData.shown (.str x)).length ≤ k; rw [PyData.shown]; exact h⟩
theorem shp_kv {n k : Nat} : ∀ {ks : List Key} {xs : List PyData}, (∀ x ∈ xs, ShP n k x) → (∀ q ∈ ks, keyC q ≤ k ∧ ∀ i, q = .inl i → i.natAbs < 2 ^ 1900) → PyData.showableKv (zipPy ks xs) = true ∧ PyData.depthKv (zipPy ks xs) ≤ n ∧ piled (PyData.shownKv (zipPy ks xs)) ≤ xs.length * (2 * k + 4)
  | [], _, _, _ => by unfold zipPy; exact ⟨by rw [PyData.showableKv], by rw [PyData.depthKv]; exact Nat.zero_le _, by rw [PyData.shownKv]; exact Nat.zero_le _⟩
  | _ :: _, [], _, _ => by unfold zipPy; exact ⟨by rw [PyData.showableKv], by rw [PyData.depthKv]; exact Nat.zero_le _, by rw [PyData.shownKv]; exact Nat.zero_le _⟩
  | q :: ks, x :: xs, h, hk => by
    obtain ⟨h1, h2, h3⟩ := shp_kv (ks := ks) (xs := xs) (fun y hy => h y (List.mem_cons_of_mem _ hy)) (fun y hy => hk y (List.mem_cons_of_mem _ hy))
    have hx := h x List.mem_cons_self
    obtain ⟨k1, k2⟩ := hk q List.mem_cons_self
    have hq := key_le k1 k2
    unfold zipPy
    refine ⟨by rw [PyData.showableKv, hq.sh, hx.sh, h1]; rfl, ?_, ?_⟩
    · rw [PyData.depthKv]
      have := hx.dp
      have := hq.dp
      omega
    · rw [PyData.shownKv, piled_cons, List.length_cons, Nat.succ_mul, strLen_append, strLen_append]
      have := hx.le
      have := hq.le
      have e : ((": " : String) : Str).length = 2 := rfl
      omega
theorem dictText_le (ps : List Str) : (dictText ps).length ≤ 2 + piled ps := by
  have e : (dictText ps).length = 1 + (Str.join ", " ps).length + 1 := by
    unfold dictText
    rw [strLen_append, strLen_append]; rfl
  by_cases h : ps = []
  · subst h
    have : (Str.join ", " ([] : List Str)).length = 0 := rfl
    omega
  · have := join_length_add ps h
    omega
theorem Shz.p {n c : Nat} {d : D} (s : Shz n c d) : ShP n c d.pz := by
  induction s with
  | non h => rw [D.pz]; exact ⟨by rw [PyData.showable], by rw [PyData.depth]; exact Nat.zero_le _, by rw [PyData.shown]; exact Nat.le_trans (by decide) h⟩
  | bl b h => rw [D.pz]; exact ⟨by rw [PyData.showable], by rw [PyData.depth]; exact Nat.zero_le _, by rw [PyData.shown]; exact Nat.le_trans (by cases b <;> decide) h⟩
  | int i hi h =>
    have z := int_le hi
    rw [D.pz]
    exact ⟨z.sh, Nat.le_trans z.dp (Nat.zero_le _), Nat.le_trans z.le h⟩
  | str x h => rw [D.pz]; exact ⟨by rw [PyData.showable], by rw [PyData.depth]; exact Nat.zero_le _, by rw [PyData.shown]; exact h⟩
  | tup h hc ih =>
    obtain ⟨h1, h2, h3⟩ := shp_all (pzs_all ih)
    rw [pzs_length] at h3
    rw [D.pz]
    refine ⟨by rw [PyData.showable]; exact h1, by rw [PyData.depth]; omega, ?_⟩
    rw [PyData.shown]
    exact Nat.le_trans (tupleText_le _) (by omega)
  | lst h hc ih =>
    obtain ⟨h1, h2, h3⟩ := shp_all (pzs_all ih)
    rw [pzs_length] at h3
    rw [D.pz]
    refine ⟨by rw [PyData.showable]; exact h1, by rw [PyData.depth]; omega, ?_⟩
    rw [PyData.shown]
    exact Nat.le_trans (listText_le _) (by omega)
  | dct h hk hl hc ih =>
    obtain ⟨h1, h2, h3⟩ := shp_kv (pzs_all ih) hk
    rw [pzs_length] at h3
    rw [D.pz]
    refine ⟨by rw [PyData.showable]; exact h1, by rw [PyData.depth]; omega, ?_⟩
    rw [PyData.shown]
    exact Nat.le_trans (dictText_le _) (by omega)

section
variable {Cs : Nat → Addr} {X : Cx} {pins : List (Addr × Obj)} {σ : L2.St} {H : Hp} {s : Shared} {Z : Addr → Prop}
theorem keys_read {P : Program} {w : World} {h : Heap} : ∀ {es : List DictEntry} {kvs : List (Key × Value)} {xs : List PyData}, Pairs (mixKind P w) es kvs → xs.length = kvs.length → ReadsAll h (es.map (·.key)) ((zipPy (kvs.map (·.1)) xs).map (·.1)) [] ∧ (zipPy (kvs.map (·.1)) xs).map (·.2) = xs ∧ es.map (·.val) = kvs.map (·.2)
  | _, _, xs, .nil, h => by
    have e : xs = [] := by simpa using h
    subst e
    exact ⟨.nil, rfl, rfl⟩
  | _, _, [], .cons _ _ _, h => by simp at h
  | e :: es, kv :: kvs, x :: xs, .cons hk hv r, h => by
    obtain ⟨h1, h2, h3⟩ := keys_read (h := _) (xs := xs) r (by simpa using h)
    refine ⟨?_, ?_, ?_⟩
    · show ReadsAll _ (e.key :: _) (keyPy kv.1 :: _) ([] ++ [])
      refine .cons ?_ h1
      rcases keyIs_shape hk with ⟨i, t, e1, e2⟩ | ⟨y, t, e1, e2⟩
      · rw [e1, e2]; exact .int i t
      · rw [e1, e2]; exact .str y t
    · show x :: _ = x :: xs
      exact congrArg _ h2
    · show e.val :: _ = kv.2 :: _
      rw [hv, h3]
theorem kv_split : ∀ {ks : List Key} {vs : List V} {kvs : List (Key × Value)}, KV (ks.zip vs) kvs → ks.length = vs.length → kvs.map (·.1) = ks ∧ Vals vs (kvs.map (·.2))
  | [], [], _, h, _ => by cases h; exact ⟨rfl, .nil⟩
  | [], _ :: _, _, _, h => by simp at h
  | _ :: _, [], _, _, h => by simp at h
  | k :: ks, v :: vs, _, h, hl => by
    rw [List.zip_cons_cons] at h
    cases h with
    | cons h1 h2 =>
      obtain ⟨e1, e2⟩ := kv_split (ks := ks) (vs := vs) h2 (by simpa using hl)
      obtain ⟨z1, z2⟩ := h1
      refine ⟨?_, .cons z2 e2⟩
      rw [List.map_cons, e1, ← z1]
mutual
theorem Rep.readz (I : Inv X pins σ H s) (hs : ∃ o, X.K.lookup sysModules = some o ∧ o.cls = .type "dict") : ∀ {v : V} {d : D} {n c : Nat}, Rep Cs Z H v d → Shz n c d → ∀ {u : Value}, RelV v u → ∃ as, Reads s.heap u d.pz as ∧ sysModules ∉ as
  | _, _, _, _, .non, _, u, ru => by cases ru; rw [D.pz]; exact ⟨_, .none, by simp⟩
  | _, _, _, _, .bl b, _, u, ru => by cases ru; rw [D.pz]; exact ⟨_, .bool b, by simp⟩
  | _, _, _, _, .int i, _, u, ru => by obtain ⟨t, rfl⟩ := ru; rw [D.pz]; exact ⟨_, .int i t, by simp⟩
  | _, _, _, _, .str x, _, u, ru => by obtain ⟨t, rfl⟩ := ru; rw [D.pz]; exact ⟨_, .str x t, by simp⟩
  | _, _, _, _, .ty n, h, _, _ => by cases h
  | _, _, _, _, .ref a, h, _, _ => by cases h
  | _, _, _, _, .tup hz hr rs, h, u, ru => by
    cases ru
    cases h with
    | tup h hc =>
      obtain ⟨_, its, rv, o, ho, hcl, n, hd⟩ := hr.ok I.hok
      obtain ⟨as, q1, q2⟩ := Reps.readz I hs rs h rv
      rw [D.pz]
      exact ⟨as, .tuple ho hcl hd q1, q2⟩
  | _, _, _, _, .lst hz hr rs, h, u, ru => by
    cases ru
    cases h with
    | lst h hc =>
      obtain ⟨_, its, n, rv, ho⟩ := hr.ok I.hok
      obtain ⟨as, q1, q2⟩ := Reps.readz I hs rs h rv
      rw [D.pz]
      refine ⟨_, .list ho rfl rfl q1, fun z => ?_⟩
      rcases List.mem_cons.mp z with z | z
      · obtain ⟨o, lo, hc⟩ := hs
        have e := I.kIn _ _ lo
        rw [z, ho] at e
        cases e
        exact absurd (Value.type.inj hc) (by decide)
      · exact q2 z
  | _, _, _, _, .obj _ _ _ _ _, h, _, _ => by cases h
  | _, _, _, _, .dct (ks := ks) (ds := ds) hz hr hl rs, h, u, ru => by
    cases ru
    cases h with
    | dct h hk hl2 hc =>
      obtain ⟨_, hsm, kvs, hkv, o, es, ep, ho, hex, hd, _, hp, _⟩ := hr.ok I.hok
      obtain ⟨e1, e2⟩ := kv_split hkv hl
      obtain ⟨as, q1, q2⟩ := Reps.readz I hs rs h e2
      have hlen : (pzs ds).length = kvs.length := by
        rw [pzs_length, ← hl2, ← e1, List.length_map]
      obtain ⟨k1, k2, k3⟩ := keys_read (h := s.heap) (xs := pzs ds) hp hlen
      rw [e1] at k1 k2
      rw [D.pz]
      refine ⟨_, .dict ho hex.1 hd k1 (by rw [k2, k3]; exact q1), fun z => ?_⟩
      rcases List.mem_append.mp z with z | z
      · rcases List.mem_cons.mp z with z | z
        · rw [← z] at hsm
          exact absurd hsm (by simp)
        · cases z
      · exact q2 z
  | _, _, _, _, .exc _ _ _ _ _, h, _, _ => by cases h
theorem Reps.readz (I : Inv X pins σ H s) (hs : ∃ o, X.K.lookup sysModules = some o ∧ o.cls = .type "dict") : ∀ {vs : List V} {ds : List D} {n c : Nat}, Reps Cs Z H vs ds → (∀ d ∈ ds, Shz n c d) → ∀ {us : List Value}, Vals vs us → ∃ as, ReadsAll s.heap us (pzs ds) as ∧ sysModules ∉ as
  | _, _, _, _, .nil, _, us, ru => by cases ru; rw [pzs]; exact ⟨_, .nil, by simp⟩
  | _, _, _, _, .cons h r, hd, us, ru => by
    cases ru with
    | cons r1 r2 =>
      obtain ⟨as, q1, q2⟩ := Rep.readz I hs h (hd _ List.mem_cons_self) r1
      obtain ⟨bs, q3, q4⟩ := Reps.readz I hs r (fun d h => hd d (List.mem_cons_of_mem _ h)) r2
      rw [pzs]
      exact ⟨_, .cons q1 q3, fun z => (List.mem_append.mp z).elim q2 q4⟩
end
end
section
variable {Cs : Nat → Addr} {X : Cx} {ρ : Env} {M : Mem} {Φ : D → Mem → Prop}
theorem wc_reprZ {d : D} {k n c : Nat} (hs : ∃ o, X.K.lookup sysModules = some o ∧ o.cls = .type "dict") (hr : Rm k X.A) (z : Shz n c d) (hn : n ≤ 60) (hc : c ≤ 16000000) (h : Φ (.str d.pz.shown) M) : WC Cs X (.builtin "repr") [d] M Φ := .mk fun F H vs m rs Q k pins s σ us I rv => by
  obtain ⟨v, rfl, r⟩ := reps1 rs
  obtain ⟨u, rfl, ru⟩ := rv.one
  obtain ⟨as, rd, hna⟩ := Rep.readz I hs r z ru
  have sp := z.p
  have h5 : d.pz.shown.length ≤ sizeLine := by rw [sizeLine_eq]; have := sp.le; omega
  have h4 : d.pz.depth ≤ 60 := Nat.le_trans sp.dp hn
  have hu := hr.rm.units
  cases r with
  | non =>
    cases ru
    exact P.repr_of_none ⟨.str "None", H, I.tok _, ⟨_, rfl⟩, k.here m (.str _) (by simpa [D.pz, PyData.shown] using h)⟩
  | bl b =>
    cases ru
    exact P.repr_of_bool ⟨.str (if b then "True" else "False"), H, I.tok _, ⟨_, rfl⟩, k.here m (.str _) (by simpa [D.pz, PyData.shown] using h)⟩
  | int i =>
    obtain ⟨t, rfl⟩ := ru
    exact P.repr_of_int (by simpa [D.pz, PyData.showable] using sp.sh) ⟨.str (toString i), H, I.tok _, ⟨_, rfl⟩, k.here m (.str _) (by simpa [D.pz, PyData.shown] using h)⟩
  | str x =>
    obtain ⟨t, rfl⟩ := ru
    exact P.repr_of_str ⟨.str (reprText x), H, I.tok _, ⟨_, rfl⟩, k.here m (.str _) (by simpa [D.pz, PyData.shown] using h)⟩ (by simpa [D.pz, PyData.shown] using h5)
  | ty n => cases z
  | ref a => cases z
  | obj => cases z
  | exc => cases z
  | tup hz hr' rs =>
    cases ru
    exact repr_of_reads' rd sp.sh (fun _ => hna) hr.gd (by omega) (fun _ _ z => z) (fun h' u tk hk => ⟨.str _, H, I.kept hk, ⟨u, rfl⟩, k.here m (.str _) h⟩) h5
  | lst hz hr' rs =>
    cases ru
    exact repr_of_reads' rd sp.sh (fun _ => hna) hr.gd (by omega) (fun _ _ z => z) (fun h' u tk hk => ⟨.str _, H, I.kept hk, ⟨u, rfl⟩, k.here m (.str _) h⟩) h5
  | dct hz hr' hl rs =>
    cases ru
    exact repr_of_reads' rd sp.sh (fun _ => hna) hr.gd (by omega) (fun _ _ z => z) (fun h' u tk hk => ⟨.str _, H, I.kept hk, ⟨u, rfl⟩, k.here m (.str _) h⟩) h5
end
end DL
namespace DL
open PySem PySem.Spec PyProof.Rows L2
section
variable {Cs : Nat → Addr} {F : Addr → Prop} {X : Cx} {ρ : Env} {M : Mem} {a b c e ke ve : Expr} {es : List Expr} {pos p apos : Pos} {Φ : D → Mem → Prop} {E : DE}
theorem era_over {q : Addr} {n : MO} : era (put M q n) q = era M q := by
  funext b
  by_cases h : b = q
  · subst h; rw [era_same, era_same]
  · rw [era_ne h, era_ne h, put_ne h]
theorem keyD_inv {Z : Addr → Prop} {H : Hp} {v : V} {key : Key} (r : Rep Cs Z H v (keyD key)) : v = kV key := by
  cases key with
  | inl i => cases r; rfl
  | inr x => cases r; rfl
/-- {k: v} -/
theorem we_disp1 (h : ∀ q, M q = none → WE Cs X ke ρ (put M q (.dct [] [])) fun kd M1 => WE Cs X ve ρ M1 fun vd M2 => ∃ key, kd = keyD key ∧ M2 q = some (.dct [] []) ∧ Φ (.dct [key] [vd]) (era M2 q)) : WE Cs X (.Dict [some ke] [ve] pos) ρ M Φ :=
  .mk fun F σ H A Q k => (pe_disp (pps_cons pe_sem pe_sem pps_nil) rfl rfl (by simp) (by simp)).sem fun q hq => by
    have m0 := A.mem.own (n := .dct [] []) (o := .dK []) hq ⟨[], upd_same, rfl, .nil⟩
    refine (h q (A.mem.old hq)).run F σ _ (A.go (post_own hq) m0) _ fun x kd H1 M1 p1 m1 r1 h1 => h1.run F σ H1 ((A.go (post_own hq) m0).go p1 m1) _ fun y vd H2 M2 p2 m2 r2 h2 => ?_
    obtain ⟨key, rfl, hM, hΦ⟩ := h2
    obtain ⟨vs, e1, hl, _⟩ := m2.at_ q _ hM
    have ev : vs = [] := by simpa using hl.symm
    subst ev
    obtain rfl := keyD_inv r1
    obtain ⟨pp, mm⟩ := dct_new (ks' := [key]) (ds' := [vd]) (vs' := [y]) m2 hM rfl (.cons r2 .nil)
    obtain ⟨p3, m3, r3⟩ := frzD mm put_same
    rw [era_over] at p3 m3 r3
    exact ⟨e1, [(key, y)], rfl, by simp, k _ _ _ _ (((((post_own hq).trans p1).trans p2).trans pp).trans p3) m3 r3 hΦ⟩
end
end DL
namespace Lw
open PySem PySem.Spec PyProof.Rows L2 DL
/-! ### places -/
def top (i : Nat) : Stmt := PySem.Challenge.pw_rangehunt_k08_errors_and_what_they_keep.main.body.getD i (.Pass ⟨0, 0, 0, 0⟩)
abbrev s_law_pot : Stmt := top 28
abbrev s_law_take : Stmt := top 29
abbrev s_law_of : Stmt := top 30
abbrev s_law_cells : Stmt := top 31
abbrev s_law_value : Stmt := top 32
abbrev s_law_made : Stmt := top 33
abbrev s_law_marks : Stmt := top 34
abbrev s_law_right : Stmt := top 35
abbrev s_law : Stmt := top 36
def clsN : Nat → Str
  | 0 => "MeterError"
  | 1 => "BadRatio"
  | 2 => "Short"
  | 3 => "BadMany"
  | 4 => "BadBench"
  | 5 => "NoMeter"
  | 6 => "NoLoad"
  | 7 => "LastMeter"
  | 8 => "BadSpread"
  | 9 => "BadSetting"
  | 10 => "BadStep"
  | 11 => "BadSteps"
  | 12 => "TooMany"
  | 13 => "BadLog"
  | 14 => "NoFit"
  | 15 => "Unlike"
  | 16 => "BadOffers"
  | 17 => "BadHopes"
  | 18 => "NotNow"
  | 19 => "Hunting"
  | 20 => "BadSource"
  | 21 => "NothingToUndo"
  | 22 => "NothingToRedo"
  | 23 => "NoTrial"
  | 24 => "BadJournal"
  | _ => "BadLine"
def Cs (K : PySem.W.Frag) (n : Nat) : Addr := He.ga K (clsN n)
/-! ### scopes -/
theorem sc_law_pot : FnScope ["_law_script", "_law_place", "_law_cell", "_law_own", "_law_small"] ["_law_script", "_law_place"] (defScope s_law_pot) := ⟨rfl, rfl, rfl, by decide +kernel, rfl, by decide +kernel, by decide +kernel⟩
theorem sc_law_take : FnScope ["_law_pot_here", "_law_upto", "_law_digit", "_law_prime", "_law_mixed"] ["_law_pot_here", "_law_upto"] (defScope s_law_take) := ⟨rfl, rfl, rfl, by decide +kernel, rfl, by decide +kernel, by decide +kernel⟩
theorem sc_law_of : FnScope ["_law_pot_here", "_law_some"] ["_law_pot_here", "_law_some"] (defScope s_law_of) := ⟨rfl, rfl, rfl, by decide +kernel, rfl, by decide +kernel, by decide +kernel⟩
theorem sc_law_cells : FnScope ["_law_script", "_law_most"] ["_law_script", "_law_most"] (defScope s_law_cells) := ⟨rfl, rfl, rfl, by decide +kernel, rfl, by decide +kernel, by decide +kernel⟩
theorem sc_law_value : FnScope ["_law_pot_here", "_law_deep", "_law_way", "_law_lap"] ["_law_pot_here", "_law_deep"] (defScope s_law_value) := ⟨rfl, rfl, rfl, by decide +kernel, rfl, by decide +kernel, by decide +kernel⟩
theorem sc_law_made : FnScope ["_law_value_here", "_law_found"] ["_law_value_here"] (defScope s_law_made) := ⟨rfl, rfl, rfl, by decide +kernel, rfl, by decide +kernel, by decide +kernel⟩
theorem sc_law_marks : FnScope ["_law_error", "_law_found"] ["_law_error"] (defScope s_law_marks) := ⟨rfl, rfl, rfl, by decide +kernel, rfl, by decide +kernel, by decide +kernel⟩
theorem sc_law_right : FnScope ["_law_pot_here", "_law_value_here", "_law_made_here", "_law_base", "_law_at", "_law_error", "_law_spot"] ["_law_pot_here"] (defScope s_law_right) := ⟨rfl, rfl, rfl, by decide +kernel, rfl, by decide +kernel, by decide +kernel⟩
theorem sc_law : FnScope ["_law_script", "_law_place", "_law_pot_here", "_law_lap"] ["_law_script"] (defScope s_law) := ⟨rfl, rfl, rfl, by decide +kernel, rfl, by decide +kernel, by decide +kernel⟩
/-! ### facts -/
def P : Program := PySem.Challenge.pw_rangehunt_k08_errors_and_what_they_keep
def errs : List Str := ["MeterError", "BadRatio", "Short", "BadMany", "BadBench", "NoMeter", "NoLoad", "LastMeter", "BadSpread", "BadSetting", "BadStep", "BadSteps", "TooMany", "BadLog", "NoFit", "Unlike", "BadOffers", "BadHopes", "NotNow", "Hunting", "BadSource", "NothingToUndo", "NothingToRedo", "NoTrial", "BadJournal", "BadLine"]
abbrev s_err_init : Stmt := inClass (top 1) 0
theorem init_ok : InitS "MeterError.__init__" (defArgs s_err_init) (defBody s_err_init) (defScope s_err_init) := ⟨⟨_, _, _, _, _, _, _, _, _, _, rfl, fun _ _ _ _ _ _ _ _ _ => ⟨rfl, rfl, rfl, _, rfl⟩⟩, ⟨_, rfl, rfl⟩, fun _ _ _ _ _ _ _ _ _ => rfl, ⟨rfl, rfl, rfl, rfl, by decide +kernel, rfl, rfl, rfl⟩⟩
def d_err_init : He5.DefA := ⟨fun K => He.ma K (He.ga K "MeterError") "__init__", "__init__", "MeterError.__init__", defArgs s_err_init, defBody s_err_init, defScope s_err_init, [], []⟩
theorem top_super : (P.main.scope.names.lookup ("super" : Str)).isSome = false := by decide +kernel
def d_law_pot : He5.DefA := ⟨fun K => He.ga K "_law_pot", "_law_pot", "_law_pot", defArgs s_law_pot, defBody s_law_pot, defScope s_law_pot, [], []⟩
def d_law_take : He5.DefA := ⟨fun K => He.ga K "_law_take", "_law_take", "_law_take", defArgs s_law_take, defBody s_law_take, defScope s_law_take, [], []⟩
def d_law_of : He5.DefA := ⟨fun K => He.ga K "_law_of", "_law_of", "_law_of", defArgs s_law_of, defBody s_law_of, defScope s_law_of, [], []⟩
def d_law_cells : He5.DefA := ⟨fun K => He.ga K "_law_cells", "_law_cells", "_law_cells", defArgs s_law_cells, defBody s_law_cells, defScope s_law_cells, [], []⟩
def d_law_value : He5.DefA := ⟨fun K => He.ga K "_law_value", "_law_value", "_law_value", defArgs s_law_value, defBody s_law_value, defScope s_law_value, [], []⟩
def d_law_made : He5.DefA := ⟨fun K => He.ga K "_law_made", "_law_made", "_law_made", defArgs s_law_made, defBody s_law_made, defScope s_law_made, [], []⟩
def d_law_marks : He5.DefA := ⟨fun K => He.ga K "_law_marks", "_law_marks", "_law_marks", defArgs s_law_marks, defBody s_law_marks, defScope s_law_marks, [], []⟩
def d_law_right : He5.DefA := ⟨fun K => He.ga K "_law_right", "_law_right", "_law_right", defArgs s_law_right, defBody s_law_right, defScope s_law_right, [], []⟩
def d_law : He5.DefA := ⟨fun K => He.ga K "law", "law", "law", defArgs s_law, defBody s_law, defScope s_law, [], []⟩
def fn : List He5.DefA := [d_law_pot, d_law_take, d_law_of, d_law_cells, d_law_value, d_law_made, d_law_marks, d_law_right, d_law]
def fa0 : List Fc := [.glo "_law_pot", .glo "_law_take", .glo "_law_of", .glo "_law_cells", .glo "_law_value", .glo "_law_made", .glo "_law_marks", .glo "_law_right", .free "ValueError", .free "abs", .free "all", .free "any", .free "enumerate", .free "int", .free "isinstance", .free "len", .free "list", .free "max", .free "min", .free "range", .free "repr", .free "super", .free "tuple", .glo "MeterError", .glo "BadRatio", .glo "Short", .glo "BadMany", .glo "BadBench", .glo "NoMeter", .glo "NoLoad"]
def fa1 : List Fc := [.glo "LastMeter", .glo "BadSpread", .glo "BadSetting", .glo "BadStep", .glo "BadSteps", .glo "TooMany", .glo "BadLog", .glo "NoFit", .glo "Unlike", .glo "BadOffers", .glo "BadHopes", .glo "NotNow", .glo "Hunting", .glo "BadSource", .glo "NothingToUndo", .glo "NothingToRedo", .glo "NoTrial", .glo "BadJournal", .glo "BadLine", .kit (.t "int") (.t "int") true, .kit (.t "int") (.t "bool") false, .kit (.t "int") (.t "tuple") false, .kit (.t "int") (.t "str") false, .kit (.t "bool") (.t "int") true, .kit (.t "bool") (.t "bool") true, .kit (.t "bool") (.t "tuple") false, .kit (.t "bool") (.t "str") false, .kit (.t "tuple") (.t "int") false, .kit (.t "tuple") (.t "bool") false, .kit (.t "tuple") (.t "tuple") true]
def fa2 : List Fc := [.kit (.t "tuple") (.t "str") false, .kit (.t "str") (.t "int") false, .kit (.t "str") (.t "bool") false, .kit (.t "str") (.t "tuple") false, .kit (.t "str") (.t "str") true, .kit (.t "list") (.t "int") false, .kit (.t "list") (.t "bool") false, .kit (.t "list") (.t "tuple") false, .kit (.t "list") (.t "str") false, .kit (.t "NoneType") (.t "int") false, .kit (.t "NoneType") (.t "bool") false, .kit (.t "NoneType") (.t "tuple") false, .kit (.t "NoneType") (.t "str") false, .kit (.t "dict") (.t "int") false, .kit (.t "dict") (.t "bool") false, .kit (.t "dict") (.t "tuple") false, .kit (.t "dict") (.t "str") false]
def fa : List Fc := fa0 ++ fa1 ++ fa2
def fx : List Fx := [.errs errs "MeterError", .kits errs "MeterError", .sysm, .sup "MeterError" "MeterError.__init__" P.main.file]
def fs : List He5.DefA := [d_err_init]
structure Tx (K : PySem.W.Frag) (mg : Str → Option Value) : Prop where
  g_law_pot : mg "_law_pot" = some (.ref (He.ga K "_law_pot")) ∧ PySem.W.keepIn K (.ref (He.ga K "_law_pot")) = true
  g_law_take : mg "_law_take" = some (.ref (He.ga K "_law_take")) ∧ PySem.W.keepIn K (.ref (He.ga K "_law_take")) = true
  g_law_of : mg "_law_of" = some (.ref (He.ga K "_law_of")) ∧ PySem.W.keepIn K (.ref (He.ga K "_law_of")) = true
  g_law_cells : mg "_law_cells" = some (.ref (He.ga K "_law_cells")) ∧ PySem.W.keepIn K (.ref (He.ga K "_law_cells")) = true
  g_law_value : mg "_law_value" = some (.ref (He.ga K "_law_value")) ∧ PySem.W.keepIn K (.ref (He.ga K "_law_value")) = true
  g_law_made : mg "_law_made" = some (.ref (He.ga K "_law_made")) ∧ PySem.W.keepIn K (.ref (He.ga K "_law_made")) = true
  g_law_marks : mg "_law_marks" = some (.ref (He.ga K "_law_marks")) ∧ PySem.W.keepIn K (.ref (He.ga K "_law_marks")) = true
  g_law_right : mg "_law_right" = some (.ref (He.ga K "_law_right")) ∧ PySem.W.keepIn K (.ref (He.ga K "_law_right")) = true
  f_ValueError : mg "ValueError" = none
  f_abs : mg "abs" = none
  f_all : mg "all" = none
  f_any : mg "any" = none
  f_enumerate : mg "enumerate" = none
  f_int : mg "int" = none
  f_isinstance : mg "isinstance" = none
  f_len : mg "len" = none
  f_list : mg "list" = none
  f_max : mg "max" = none
  f_min : mg "min" = none
  f_range : mg "range" = none
  f_repr : mg "repr" = none
  f_super : mg "super" = none
  f_tuple : mg "tuple" = none
  g_MeterError : mg "MeterError" = some (.ref (He.ga K "MeterError")) ∧ PySem.W.keepIn K (.ref (He.ga K "MeterError")) = true
  g_BadRatio : mg "BadRatio" = some (.ref (He.ga K "BadRatio")) ∧ PySem.W.keepIn K (.ref (He.ga K "BadRatio")) = true
  g_Short : mg "Short" = some (.ref (He.ga K "Short")) ∧ PySem.W.keepIn K (.ref (He.ga K "Short")) = true
  g_BadMany : mg "BadMany" = some (.ref (He.ga K "BadMany")) ∧ PySem.W.keepIn K (.ref (He.ga K "BadMany")) = true
  g_BadBench : mg "BadBench" = some (.ref (He.ga K "BadBench")) ∧ PySem.W.keepIn K (.ref (He.ga K "BadBench")) = true
  g_NoMeter : mg "NoMeter" = some (.ref (He.ga K "NoMeter")) ∧ PySem.W.keepIn K (.ref (He.ga K "NoMeter")) = true
  g_NoLoad : mg "NoLoad" = some (.ref (He.ga K "NoLoad")) ∧ PySem.W.keepIn K (.ref (He.ga K "NoLoad")) = true
  g_LastMeter : mg "LastMeter" = some (.ref (He.ga K "LastMeter")) ∧ PySem.W.keepIn K (.ref (He.ga K "LastMeter")) = true
  g_BadSpread : mg "BadSpread" = some (.ref (He.ga K "BadSpread")) ∧ PySem.W.keepIn K (.ref (He.ga K "BadSpread")) = true
  g_BadSetting : mg "BadSetting" = some (.ref (He.ga K "BadSetting")) ∧ PySem.W.keepIn K (.ref (He.ga K "BadSetting")) = true
  g_BadStep : mg "BadStep" = some (.ref (He.ga K "BadStep")) ∧ PySem.W.keepIn K (.ref (He.ga K "BadStep")) = true
  g_BadSteps : mg "BadSteps" = some (.ref (He.ga K "BadSteps")) ∧ PySem.W.keepIn K (.ref (He.ga K "BadSteps")) = true
  g_TooMany : mg "TooMany" = some (.ref (He.ga K "TooMany")) ∧ PySem.W.keepIn K (.ref (He.ga K "TooMany")) = true
  g_BadLog : mg "BadLog" = some (.ref (He.ga K "BadLog")) ∧ PySem.W.keepIn K (.ref (He.ga K "BadLog")) = true
  g_NoFit : mg "NoFit" = some (.ref (He.ga K "NoFit")) ∧ PySem.W.keepIn K (.ref (He.ga K "NoFit")) = true
  g_Unlike : mg "Unlike" = some (.ref (He.ga K "Unlike")) ∧ PySem.W.keepIn K (.ref (He.ga K "Unlike")) = true
  g_BadOffers : mg "BadOffers" = some (.ref (He.ga K "BadOffers")) ∧ PySem.W.keepIn K (.ref (He.ga K "BadOffers")) = true
  g_BadHopes : mg "BadHopes" = some (.ref (He.ga K "BadHopes")) ∧ PySem.W.keepIn K (.ref (He.ga K "BadHopes")) = true
  g_NotNow : mg "NotNow" = some (.ref (He.ga K "NotNow")) ∧ PySem.W.keepIn K (.ref (He.ga K "NotNow")) = true
  g_Hunting : mg "Hunting" = some (.ref (He.ga K "Hunting")) ∧ PySem.W.keepIn K (.ref (He.ga K "Hunting")) = true
  g_BadSource : mg "BadSource" = some (.ref (He.ga K "BadSource")) ∧ PySem.W.keepIn K (.ref (He.ga K "BadSource")) = true
  g_NothingToUndo : mg "NothingToUndo" = some (.ref (He.ga K "NothingToUndo")) ∧ PySem.W.keepIn K (.ref (He.ga K "NothingToUndo")) = true
  g_NothingToRedo : mg "NothingToRedo" = some (.ref (He.ga K "NothingToRedo")) ∧ PySem.W.keepIn K (.ref (He.ga K "NothingToRedo")) = true
  g_NoTrial : mg "NoTrial" = some (.ref (He.ga K "NoTrial")) ∧ PySem.W.keepIn K (.ref (He.ga K "NoTrial")) = true
  g_BadJournal : mg "BadJournal" = some (.ref (He.ga K "BadJournal")) ∧ PySem.W.keepIn K (.ref (He.ga K "BadJournal")) = true
  g_BadLine : mg "BadLine" = some (.ref (He.ga K "BadLine")) ∧ PySem.W.keepIn K (.ref (He.ga K "BadLine")) = true
  kt_int_int : PySem.W.kitOne K (.type "int") (.type "int") = some true
  kt_int_bool : PySem.W.kitOne K (.type "int") (.type "bool") = some false
  kt_int_tuple : PySem.W.kitOne K (.type "int") (.type "tuple") = some false
  kt_int_str : PySem.W.kitOne K (.type "int") (.type "str") = some false
  kt_bool_int : PySem.W.kitOne K (.type "bool") (.type "int") = some true
  kt_bool_bool : PySem.W.kitOne K (.type "bool") (.type "bool") = some true
  kt_bool_tuple : PySem.W.kitOne K (.type "bool") (.type "tuple") = some false
  kt_bool_str : PySem.W.kitOne K (.type "bool") (.type "str") = some false
  kt_tuple_int : PySem.W.kitOne K (.type "tuple") (.type "int") = some false
  kt_tuple_bool : PySem.W.kitOne K (.type "tuple") (.type "bool") = some false
  kt_tuple_tuple : PySem.W.kitOne K (.type "tuple") (.type "tuple") = some true
  kt_tuple_str : PySem.W.kitOne K (.type "tuple") (.type "str") = some false
  kt_str_int : PySem.W.kitOne K (.type "str") (.type "int") = some false
  kt_str_bool : PySem.W.kitOne K (.type "str") (.type "bool") = some false
  kt_str_tuple : PySem.W.kitOne K (.type "str") (.type "tuple") = some false
  kt_str_str : PySem.W.kitOne K (.type "str") (.type "str") = some true
  kt_list_int : PySem.W.kitOne K (.type "list") (.type "int") = some false
  kt_list_bool : PySem.W.kitOne K (.type "list") (.type "bool") = some false
  kt_list_tuple : PySem.W.kitOne K (.type "list") (.type "tuple") = some false
  kt_list_str : PySem.W.kitOne K (.type "list") (.type "str") = some false
  kt_NoneType_int : PySem.W.kitOne K (.type "NoneType") (.type "int") = some false
  kt_NoneType_bool : PySem.W.kitOne K (.type "NoneType") (.type "bool") = some false
  kt_NoneType_tuple : PySem.W.kitOne K (.type "NoneType") (.type "tuple") = some false
  kt_NoneType_str : PySem.W.kitOne K (.type "NoneType") (.type "str") = some false
  kt_dict_int : PySem.W.kitOne K (.type "dict") (.type "int") = some false
  kt_dict_bool : PySem.W.kitOne K (.type "dict") (.type "bool") = some false
  kt_dict_tuple : PySem.W.kitOne K (.type "dict") (.type "tuple") = some false
  kt_dict_str : PySem.W.kitOne K (.type "dict") (.type "str") = some false
  er : ∀ x ∈ errs, ErrC K (He.ga K x) (He.ga K "MeterError") (He.ma K (He.ga K "MeterError") "__init__")
  kx : ∀ x ∈ errs, PySem.W.kitOne K (.ref (He.ga K x)) (.type "ValueError") = some true ∧ ∀ y ∈ errs, PySem.W.kitOne K (.ref (He.ga K x)) (.ref (He.ga K y)) = some (decide (x = y) || decide (y = "MeterError"))
  sm : ∃ o, K.lookup sysModules = some o ∧ o.cls = .type "dict"
  si : SupI K P.main.file (He.ga K "MeterError") (He.ma K (He.ga K "MeterError") "__init__")
  e_law_pot : ∃ fd, FunD K "_law_pot" "_law_pot" (defArgs s_law_pot) (defBody s_law_pot) (defScope s_law_pot) [] [] (He.ga K "_law_pot") fd
  e_law_take : ∃ fd, FunD K "_law_take" "_law_take" (defArgs s_law_take) (defBody s_law_take) (defScope s_law_take) [] [] (He.ga K "_law_take") fd
  e_law_of : ∃ fd, FunD K "_law_of" "_law_of" (defArgs s_law_of) (defBody s_law_of) (defScope s_law_of) [] [] (He.ga K "_law_of") fd
  e_law_cells : ∃ fd, FunD K "_law_cells" "_law_cells" (defArgs s_law_cells) (defBody s_law_cells) (defScope s_law_cells) [] [] (He.ga K "_law_cells") fd
  e_law_value : ∃ fd, FunD K "_law_value" "_law_value" (defArgs s_law_value) (defBody s_law_value) (defScope s_law_value) [] [] (He.ga K "_law_value") fd
  e_law_made : ∃ fd, FunD K "_law_made" "_law_made" (defArgs s_law_made) (defBody s_law_made) (defScope s_law_made) [] [] (He.ga K "_law_made") fd
  e_law_marks : ∃ fd, FunD K "_law_marks" "_law_marks" (defArgs s_law_marks) (defBody s_law_marks) (defScope s_law_marks) [] [] (He.ga K "_law_marks") fd
  e_law_right : ∃ fd, FunD K "_law_right" "_law_right" (defArgs s_law_right) (defBody s_law_right) (defScope s_law_right) [] [] (He.ga K "_law_right") fd
  e_law : ∃ fd, FunD K "law" "law" (defArgs s_law) (defBody s_law) (defScope s_law) [] [] (He.ga K "law") fd
theorem tx_mk {K : PySem.W.Frag} {h : Heap} {mg : Str → Option Value} (X : K.In h) (G : h.Ns mainGlobals mg) (c : SaysX fa fx fn fs K) : Tx K mg where
  g_law_pot := Fc.glo_ok X G (c.c.fact 0 rfl)
  g_law_take := Fc.glo_ok X G (c.c.fact 1 rfl)
  g_law_of := Fc.glo_ok X G (c.c.fact 2 rfl)
  g_law_cells := Fc.glo_ok X G (c.c.fact 3 rfl)
  g_law_value := Fc.glo_ok X G (c.c.fact 4 rfl)
  g_law_made := Fc.glo_ok X G (c.c.fact 5 rfl)
  g_law_marks := Fc.glo_ok X G (c.c.fact 6 rfl)
  g_law_right := Fc.glo_ok X G (c.c.fact 7 rfl)
  f_ValueError := Fc.free_ok X G (c.c.fact 8 rfl)
  f_abs := Fc.free_ok X G (c.c.fact 9 rfl)
  f_all := Fc.free_ok X G (c.c.fact 10 rfl)
  f_any := Fc.free_ok X G (c.c.fact 11 rfl)
  f_enumerate := Fc.free_ok X G (c.c.fact 12 rfl)
  f_int := Fc.free_ok X G (c.c.fact 13 rfl)
  f_isinstance := Fc.free_ok X G (c.c.fact 14 rfl)
  f_len := Fc.free_ok X G (c.c.fact 15 rfl)
  f_list := Fc.free_ok X G (c.c.fact 16 rfl)
  f_max := Fc.free_ok X G (c.c.fact 17 rfl)
  f_min := Fc.free_ok X G (c.c.fact 18 rfl)
  f_range := Fc.free_ok X G (c.c.fact 19 rfl)
  f_repr := Fc.free_ok X G (c.c.fact 20 rfl)
  f_super := Fc.free_ok X G (c.c.fact 21 rfl)
  f_tuple := Fc.free_ok X G (c.c.fact 22 rfl)
  g_MeterError := Fc.glo_ok X G (c.c.fact 23 rfl)
  g_BadRatio := Fc.glo_ok X G (c.c.fact 24 rfl)
  g_Short := Fc.glo_ok X G (c.c.fact 25 rfl)
  g_BadMany := Fc.glo_ok X G (c.c.fact 26 rfl)
  g_BadBench := Fc.glo_ok X G (c.c.fact 27 rfl)
  g_NoMeter := Fc.glo_ok X G (c.c.fact 28 rfl)
  g_NoLoad := Fc.glo_ok X G (c.c.fact 29 rfl)
  g_LastMeter := Fc.glo_ok X G (c.c.fact 30 rfl)
  g_BadSpread := Fc.glo_ok X G (c.c.fact 31 rfl)
  g_BadSetting := Fc.glo_ok X G (c.c.fact 32 rfl)
  g_BadStep := Fc.glo_ok X G (c.c.fact 33 rfl)
  g_BadSteps := Fc.glo_ok X G (c.c.fact 34 rfl)
  g_TooMany := Fc.glo_ok X G (c.c.fact 35 rfl)
  g_BadLog := Fc.glo_ok X G (c.c.fact 36 rfl)
  g_NoFit := Fc.glo_ok X G (c.c.fact 37 rfl)
  g_Unlike := Fc.glo_ok X G (c.c.fact 38 rfl)
  g_BadOffers := Fc.glo_ok X G (c.c.fact 39 rfl)
  g_BadHopes := Fc.glo_ok X G (c.c.fact 40 rfl)
  g_NotNow := Fc.glo_ok X G (c.c.fact 41 rfl)
  g_Hunting := Fc.glo_ok X G (c.c.fact 42 rfl)
  g_BadSource := Fc.glo_ok X G (c.c.fact 43 rfl)
  g_NothingToUndo := Fc.glo_ok X G (c.c.fact 44 rfl)
  g_NothingToRedo := Fc.glo_ok X G (c.c.fact 45 rfl)
  g_NoTrial := Fc.glo_ok X G (c.c.fact 46 rfl)
  g_BadJournal := Fc.glo_ok X G (c.c.fact 47 rfl)
  g_BadLine := Fc.glo_ok X G (c.c.fact 48 rfl)
  kt_int_int := Fc.kit_ok (c.c.fact 49 rfl)
  kt_int_bool := Fc.kit_ok (c.c.fact 50 rfl)
  kt_int_tuple := Fc.kit_ok (c.c.fact 51 rfl)
  kt_int_str := Fc.kit_ok (c.c.fact 52 rfl)
  kt_bool_int := Fc.kit_ok (c.c.fact 53 rfl)
  kt_bool_bool := Fc.kit_ok (c.c.fact 54 rfl)
  kt_bool_tuple := Fc.kit_ok (c.c.fact 55 rfl)
  kt_bool_str := Fc.kit_ok (c.c.fact 56 rfl)
  kt_tuple_int := Fc.kit_ok (c.c.fact 57 rfl)
  kt_tuple_bool := Fc.kit_ok (c.c.fact 58 rfl)
  kt_tuple_tuple := Fc.kit_ok (c.c.fact 59 rfl)
  kt_tuple_str := Fc.kit_ok (c.c.fact 60 rfl)
  kt_str_int := Fc.kit_ok (c.c.fact 61 rfl)
  kt_str_bool := Fc.kit_ok (c.c.fact 62 rfl)
  kt_str_tuple := Fc.kit_ok (c.c.fact 63 rfl)
  kt_str_str := Fc.kit_ok (c.c.fact 64 rfl)
  kt_list_int := Fc.kit_ok (c.c.fact 65 rfl)
  kt_list_bool := Fc.kit_ok (c.c.fact 66 rfl)
  kt_list_tuple := Fc.kit_ok (c.c.fact 67 rfl)
  kt_list_str := Fc.kit_ok (c.c.fact 68 rfl)
  kt_NoneType_int := Fc.kit_ok (c.c.fact 69 rfl)
  kt_NoneType_bool := Fc.kit_ok (c.c.fact 70 rfl)
  kt_NoneType_tuple := Fc.kit_ok (c.c.fact 71 rfl)
  kt_NoneType_str := Fc.kit_ok (c.c.fact 72 rfl)
  kt_dict_int := Fc.kit_ok (c.c.fact 73 rfl)
  kt_dict_bool := Fc.kit_ok (c.c.fact 74 rfl)
  kt_dict_tuple := Fc.kit_ok (c.c.fact 75 rfl)
  kt_dict_str := Fc.kit_ok (c.c.fact 76 rfl)
  er := Fx.errs_ok (c.factX 0 rfl)
  kx := Fx.kits_ok (c.factX 1 rfl)
  sm := Fx.sysm_ok (c.factX 2 rfl)
  si := supI_of (c.defX 0 (d := d_err_init) rfl) (c.factX 3 rfl) init_ok
  e_law_pot := c.c.def_ 0 (d := d_law_pot) rfl
  e_law_take := c.c.def_ 1 (d := d_law_take) rfl
  e_law_of := c.c.def_ 2 (d := d_law_of) rfl
  e_law_cells := c.c.def_ 3 (d := d_law_cells) rfl
  e_law_value := c.c.def_ 4 (d := d_law_value) rfl
  e_law_made := c.c.def_ 5 (d := d_law_made) rfl
  e_law_marks := c.c.def_ 6 (d := d_law_marks) rfl
  e_law_right := c.c.def_ 7 (d := d_law_right) rfl
  e_law := c.c.def_ 8 (d := d_law) rfl
/-! ### the run of the top -/
abbrev R : PySem.W.OpenRow := PySem.W.OpenLaw.row PySem.Challenge.rw_rangehunt_k08_errors_and_what_they_keep
def ln0 : List PySem.Str := ["MeterError", "BadRatio", "Short", "BadMany", "BadBench", "NoMeter", "NoLoad", "LastMeter", "BadSpread", "BadSetting", "BadStep", "BadSteps", "TooMany", "BadLog", "NoFit", "Unlike", "BadOffers", "BadHopes", "NotNow", "Hunting", "BadSource", "NothingToUndo", "NothingToRedo", "NoTrial", "BadJournal", "BadLine", "_law_pot", "_law_take", "_law_of", "_law_cells"]
def ln1 : List PySem.Str := ["_law_value", "_law_made", "_law_marks", "_law_right"]
def loose : List PySem.Str := ln0 ++ ln1
def lawAt : Nat := 36
end Lw
namespace Lw
open PySem PySem.Spec PyProof.Rows L2 DL
local macro_rules | `(tactic| fail "vis") => `(tactic| first | exact Or.inl rfl | exact Or.inr (Or.inl rfl) | exact Or.inr (Or.inr rfl))
local macro_rules | `(tactic| fail "c") => `(tactic| first
  | ((with_reducible refine at_call "abs" ?_); refine we_callB rfl (Tx.f_abs (by assumption)) bb_abs ?_)
  | ((with_reducible refine at_call "len" ?_); refine we_callB rfl (Tx.f_len (by assumption)) bb_len ?_)
  | ((with_reducible refine at_call "int" ?_); refine we_callTy rfl (Tx.f_int (by assumption)) bt_int ?_)
  | ((with_reducible refine at_call "isinstance" ?_); refine we_callB rfl (Tx.f_isinstance (by assumption)) bb_isinstance ?_)
  | ((with_reducible refine at_call "repr" ?_); refine we_callB rfl (Tx.f_repr (by assumption)) bb_repr ?_)
  | ((with_reducible refine at_call "all" ?_); refine we_callB rfl (Tx.f_all (by assumption)) bb_all ?_)
  | ((with_reducible refine at_call "any" ?_); refine we_callB rfl (Tx.f_any (by assumption)) bb_any ?_)
  | ((with_reducible refine at_call "max" ?_); refine we_callB rfl (Tx.f_max (by assumption)) bb_max ?_)
  | ((with_reducible refine at_call "min" ?_); refine we_callB rfl (Tx.f_min (by assumption)) bb_min ?_))
local macro_rules | `(tactic| fail "g") => `(tactic| first
  | ((with_reducible refine at_name "int" ?_); refine we_gty rfl (Tx.f_int (by assumption)) bt_int ?_)
  | ((with_reducible refine at_name "bool" ?_); refine we_gty rfl (Tx.f_bool (by assumption)) bt_bool ?_)
  | ((with_reducible refine at_name "tuple" ?_); refine we_gty rfl (Tx.f_tuple (by assumption)) bt_tuple ?_)
  | ((with_reducible refine at_name "PAIR" ?_); refine we_gintE (Tx.v_PAIR (by assumption)) rfl ?_)
  | ((with_reducible refine at_name "Amount" ?_); refine we_gref rfl (Tx.g_Amount (by assumption)).1 ?_)
  | ((with_reducible refine at_name "Source" ?_); refine we_gref rfl (Tx.g_Source (by assumption)).1 ?_))
local macro_rules | `(tactic| fail "a") => `(tactic| first
  | ((with_reducible refine at_wat "top" ?_); refine wat_slot (c := 0) (Tx.c_Amount (by assumption)) (Tx.sl_Amount_top (by assumption)) rfl ?_)
  | ((with_reducible refine at_wat "bottom" ?_); refine wat_slot (c := 0) (Tx.c_Amount (by assumption)) (Tx.sl_Amount_bottom (by assumption)) rfl ?_)
  | ((with_reducible refine at_wat "own_volts" ?_); refine wat_slot (c := 1) (Tx.c_Source (by assumption)) (Tx.sl_Source_own_volts (by assumption)) rfl ?_)
  | ((with_reducible refine at_wat "own_ohms" ?_); refine wat_slot (c := 1) (Tx.c_Source (by assumption)) (Tx.sl_Source_own_ohms (by assumption)) rfl ?_))
local macro_rules | `(tactic| fail "o") => `(tactic| first
  | ((with_reducible refine at_bin .Add ?_); refine wo_add ?_) | ((with_reducible refine at_bin .Sub ?_); refine wo_sub ?_)
  | ((with_reducible refine at_cmp .Lt ?_); refine wo_lt ?_) | ((with_reducible refine at_cmp .LtE ?_); refine wo_le ?_) | ((with_reducible refine at_cmp .Gt ?_); refine wo_gt ?_) | ((with_reducible refine at_cmp .GtE ?_); refine wo_ge ?_)
  | ((with_reducible refine at_cmp .Eq ?_); first | refine wo_eqI ?_ | refine wo_eqB ?_ | refine wo_eqS ?_)
  | ((with_reducible refine at_cmp .NotEq ?_); first | refine wo_neI ?_ | refine wo_neB ?_ | refine wo_neS ?_)
  | ((with_reducible refine at_cmp .Is ?_); refine wo_isN ?_) | ((with_reducible refine at_cmp .IsNot ?_); refine wo_notN ?_))
local macro_rules | `(tactic| fail "w") => `(tactic| first
  | ((with_reducible refine e_name ?_); first | fail "v" | fail "g")
  | ((with_reducible refine e_attr ?_); refine we_attr ?_)
  | ((with_reducible refine e_call ?_); fail "c")
  | ((with_reducible refine e_const ?_); first | refine we_int ?_ | refine we_bl ?_ | refine we_non ?_ | refine we_str ?_)
  | ((with_reducible refine e_bin ?_); refine we_bin ?_)
  | ((with_reducible refine e_sub ?_); refine we_ix ?_)
  | ((with_reducible refine e_callm ?_); fail "m")
  | ((with_reducible refine e_cmp ?_); refine we_cmp ?_)
  | ((with_reducible refine e_tup ?_); refine we_tup ?_))
local macro_rules | `(tactic| fail "x") => `(tactic| first
  | ((with_reducible refine j_we ?_); fail "w")
  | ((with_reducible refine j_wa ?_); first | refine wa_cons ?_ | refine wa_nil ?_)
  | ((with_reducible refine j_wat ?_); fail "a")
  | ((with_reducible refine j_wo ?_); fail "o")
  | ((with_reducible refine j_wix ?_); refine wix_tup rfl ?_)
  | (with_reducible refine a_len ?_ rfl)
  | ((with_reducible refine a_obj ?_); refine ⟨_, rfl, ?_⟩)
  | ((with_reducible refine t_cmp ?_); refine wt_cmp ?_))
local macro_rules | `(tactic| fail "e") => `(tactic| first | fail "x" | ((with_reducible refine j_ret ?_); refine ws_ret ?_) | ((with_reducible refine j_wss ?_); first | refine wss_one ?_ | refine wss_cons ?_))
variable {w : World} {K : PySem.W.Frag} {mg : Str → Option Value} {base : Heap}

/-! ### the law's own draws -/
structure PotV (o sd n : Int) (c : Nat) : Prop where
  o0 : 0 ≤ o
  o1 : o < 2 ^ 1000
  s0 : 0 ≤ sd
  s1 : sd < 2 ^ 61
  n0 : 0 ≤ n
  n1 : n ≤ c
def Pot (M : Mem) (p : Addr) (c : Nat) : Prop := ∃ o sd n : Int, M p = some (.lst [.int o, .int sd, .int n]) ∧ PotV o sd n c
structure PotTo (M : Mem) (p : Addr) (M' : Mem) (c : Nat) : Prop where
  old : ∀ a, a ≠ p → M' a = M a
  pot : Pot M' p c
theorem PotTo.trans {M M1 M2 : Mem} {p : Addr} {c d : Nat} (a : PotTo M p M1 c) (b : PotTo M1 p M2 d) : PotTo M p M2 d := ⟨fun x h => (b.old x h).trans (a.old x h), b.pot⟩
theorem Pot.mono {M : Mem} {p : Addr} {c d : Nat} (h : Pot M p c) (l : c ≤ d) : Pot M p d := by
  obtain ⟨o, sd, n, e, v⟩ := h
  exact ⟨o, sd, n, e, v.o0, v.o1, v.s0, v.s1, v.n0, by have := v.n1; omega⟩
theorem PotTo.mono {M M' : Mem} {p : Addr} {c d : Nat} (h : PotTo M p M' c) (l : c ≤ d) : PotTo M p M' d := ⟨h.old, h.pot.mono l⟩
theorem PotTo.refl {M : Mem} {p : Addr} {c : Nat} (h : Pot M p c) : PotTo M p M c := ⟨fun _ _ => rfl, h⟩
theorem sq_lt {k n : Int} (h0 : 0 ≤ k) (h1 : k ≤ 200000) (h2 : 0 ≤ n) (h3 : n ≤ 1000001) : 0 ≤ k * n * n ∧ k * n * n < 2 ^ 60 := by
  have a1 : 0 ≤ k * n := Int.mul_nonneg h0 h2
  have a2 : k * n ≤ 200000 * 1000001 := Int.mul_le_mul h1 h3 h2 (by decide)
  have a3 : k * n * n ≤ 200000 * 1000001 * 1000001 := Int.mul_le_mul a2 h3 h2 (by decide)
  exact ⟨Int.mul_nonneg a1 h2, by omega⟩
theorem ok_mul {i j : Int} (h : i.natAbs < 2 ^ 64) (h' : j.natAbs < 2 ^ 1000) : CMulW i j := wide_mul h h' (by decide) (by decide) (by decide)
theorem ok_mul' {i j : Int} (h : i.natAbs < 2 ^ 1000) (h' : j.natAbs < 2 ^ 64) : CMulW i j := wide_mul h h' (by decide) (by decide) (by decide)
theorem lt1000 {i : Int} (h : i.natAbs < 2 ^ 64) : i.natAbs < 2 ^ 1000 := Nat.lt_of_lt_of_le h (Nat.pow_le_pow_right (by decide) (by decide))
theorem bits_le {x : Int} (h0 : 0 ≤ x) (h1 : x < 2 ^ 64) : (Builtin.Int.intBits x : Int) * 3 ≤ 2 ^ 27 := by
  have b : Builtin.Int.intBits x ≤ x.natAbs.log2 + 1 := by
    unfold Builtin.Int.intBits
    split <;> omega
  have l : x.natAbs.log2 < 64 := PySem.Flt.log2_lt_of (by decide) (by omega)
  omega
def S_law_pot : FS := fun ds M Φ => ∃ (ns : List Int) (k : Nat), ds = [.lst (ns.map D.int), .int k] ∧ k ≤ 100 ∧ ns.length ≤ 1000 ∧ ∀ p o sd, M p = none → PotV o sd 0 0 → Φ (.ref p) (put M p (.lst [.int o, .int sd, .int 0]))
section
local macro_rules | `(tactic| fail "v") => `(tactic| first
  | ((with_reducible refine at_name "_law_script" ?_); refine we_var 0 rfl (by fail "vis") rfl ?_)
  | ((with_reducible refine at_name "_law_place" ?_); refine we_var 1 rfl (by fail "vis") rfl ?_)
  | ((with_reducible refine at_name "_law_cell" ?_); refine we_var 2 rfl (by fail "vis") rfl ?_)
  | ((with_reducible refine at_name "_law_own" ?_); refine we_var 3 rfl (by fail "vis") rfl ?_)
  | ((with_reducible refine at_name "_law_small" ?_); refine we_var 4 rfl (by fail "vis") rfl ?_))
theorem ok_law_pot (T : Tx K mg) : FnG P w K mg base CX0 (2 + 1) (He.ga K "_law_pot") (spD (Cs K) S_law_pot) := by
  obtain ⟨fd, Fd⟩ := T.e_law_pot
  have b := Fd.bindsN (ps := ["_law_script", "_law_place"]) fun _ _ _ _ _ _ us hl => match us, hl with | [_, _], _ => rfl
  refine fn_D [] Fd sc_law_pot b .nil (fun _ _ => .nil) (fun ds M Φ h => by obtain ⟨ns, k, rfl, hk, hl, h⟩ := h; rfl) ?_
  rintro cdv A outer s H as M Φ hr ⟨ns, k, rfl, hk, hl, h⟩
  have key : ∀ cell : Int, WSs (Cs K) (cxOf CX0 P w K mg base ["_law_script", "_law_place", "_law_cell", "_law_own", "_law_small"] "_law_pot" (defScope s_law_pot) (He.ga K "_law_pot") cdv A outer s H E0).nox
      ((defBody s_law_pot).drop 1) [some (.lst (ns.map D.int)), some (.int k), some (.int cell), none, none] M { nx := fun _ M' => Φ .non M', rt := Φ } := by
    intro cell
    refine wss_cons (ws_set 3 sc_law_pot.nd rfl (.inl rfl) ?_)
    repeat fail "e"
    refine wc_abs ?_
    refine wa_nil (wc_int ?_)
    repeat fail "e"
    refine wo_pow (by decide +kernel) ?_
    repeat fail "e"
    refine wo_pow (by decide +kernel) ?_
    refine wo_mod (by decide +kernel) ?_
    generalize hA : (if cell < 0 then -cell else cell) % ((10 : Int) ^ (60 : Int).toNat) ^ (5 : Int).toNat = A1
    have hA0 : 0 ≤ A1 := by rw [← hA]; exact Int.emod_nonneg _ (by decide +kernel)
    have hA1 : A1 < 2 ^ 1000 := by
      rw [← hA]
      exact Int.lt_of_lt_of_le (Int.emod_lt_of_pos _ (by decide +kernel)) (by decide +kernel)
    repeat fail "e"
    refine wc_abs ?_
    repeat fail "e"
    refine wo_pow (by decide +kernel) ?_
    repeat fail "e"
    generalize decide ((10 : Int) ^ (18 : Int).toNat ≤ if cell < 0 then -cell else cell) = tb
    refine wc_intB ?_
    have hn : A1.natAbs < 2 ^ 1000 := by omega
    refine wo_mul (ok_mul' hn (by cases tb <;> decide)) ?_
    generalize hO : A1 * (if tb = true then (1 : Int) else 0) = O1
    have hO0 : 0 ≤ O1 := by rw [← hO]; cases tb <;> simp <;> omega
    have hO1 : O1 < 2 ^ 1000 := by rw [← hO]; cases tb <;> simp <;> omega
    refine wss_cons (ws_set 4 sc_law_pot.nd rfl (.inl rfl) ?_)
    repeat fail "e"
    refine wc_int ?_
    repeat fail "e"
    refine wo_mod (by decide) ?_
    generalize hB : cell % 2305843009213693951 = B1
    have hB0 : 0 ≤ B1 := by rw [← hB]; exact Int.emod_nonneg _ (by decide)
    have hB1 : B1 < 2305843009213693951 := by rw [← hB]; exact Int.emod_lt_of_pos _ (by decide)
    refine wss_one (ws_ret (we_lstO ?_))
    repeat fail "e"
    refine wo_mul (ok_mul (by omega) (lt1000 (by omega))) ?_
    repeat fail "e"
    refine wo_mul (ok_mul (by omega) (lt1000 (by omega))) ?_
    repeat fail "e"
    refine wo_mul (ok_mul (by omega) (lt1000 (by omega))) ?_
    repeat fail "e"
    refine wc_int ?_
    repeat fail "e"
    refine wo_mod (by decide) ?_
    repeat fail "e"
    generalize hC : (B1 * 61593 + 8715 * (k : Int) * (k : Int) + 113) % 2305843009213693921 = C1
    have hC0 : 0 ≤ C1 := by rw [← hC]; exact Int.emod_nonneg _ (by decide)
    have hC1 : C1 < 2305843009213693921 := by rw [← hC]; exact Int.emod_lt_of_pos _ (by decide)
    exact fun p hp => h p O1 C1 hp ⟨hO0, hO1, hC0, by omega, by decide, by decide⟩
  refine wss_cons (ws_set 2 sc_law_pot.nd rfl (.inl rfl) (we_if (wt_cmp ?_)))
  repeat fail "e"
  refine wc_lenL ?_
  repeat fail "e"
  refine ⟨_, rfl, fun hc => ?_, fun hc => ?_⟩
  · have hc' : k < ns.length := by
      have z := of_decide_eq_true hc
      rw [List.length_map] at z
      omega
    repeat fail "e"
    have hg : (ns.map D.int)[k]? = some (.int ns[k]) := by rw [List.getElem?_map, List.getElem?_eq_getElem hc']; rfl
    refine wix_lst (atI_nat hg) ?_
    exact key _
  · repeat fail "e"
    refine wo_mul (ok_mul (by decide) (lt1000 (by omega))) ?_
    repeat fail "x"
    exact key _
end
local macro_rules | `(tactic| fail "c") => `(tactic| ((with_reducible refine at_call "_law_pot" ?_); refine we_call (ok_law_pot (by assumption)) (Rm.mono (by assumption) (by decide)) rfl (Tx.g_law_pot (by assumption)).1 (Tx.g_law_pot (by assumption)).2 ?_))
def S_law_take : FS := fun ds M Φ => ∃ (p : Addr) (n : Int) (c : Nat), ds = [.ref p, .int n] ∧ 0 < n ∧ n < 2 ^ 60 ∧ c ≤ 1000000 ∧ Pot M p c ∧ ∀ r M', 0 ≤ r → r < n → PotTo M p M' (c + 1) → Φ (.int r) M'
theorem pr_at {i : Int} (h0 : 0 ≤ i) (h1 : i < 5) : ∃ pr : Int, atI [D.int 2147483647, .int 2147483629, .int 2147483587, .int 2147483579, .int 2147483563] i = some (.int pr) ∧ 0 < pr ∧ pr ≤ 2147483647 := by
  have : i = 0 ∨ i = 1 ∨ i = 2 ∨ i = 3 ∨ i = 4 := by omega
  rcases this with rfl | rfl | rfl | rfl | rfl
  · exact ⟨_, rfl, by decide, by decide⟩
  · exact ⟨_, rfl, by decide, by decide⟩
  · exact ⟨_, rfl, by decide, by decide⟩
  · exact ⟨_, rfl, by decide, by decide⟩
  · exact ⟨_, rfl, by decide, by decide⟩
section
local macro_rules | `(tactic| fail "v") => `(tactic| first
  | ((with_reducible refine at_name "_law_pot_here" ?_); refine we_var 0 rfl (by fail "vis") rfl ?_)
  | ((with_reducible refine at_name "_law_upto" ?_); refine we_var 1 rfl (by fail "vis") rfl ?_)
  | ((with_reducible refine at_name "_law_digit" ?_); refine we_var 2 rfl (by fail "vis") rfl ?_)
  | ((with_reducible refine at_name "_law_prime" ?_); refine we_var 3 rfl (by fail "vis") rfl ?_)
  | ((with_reducible refine at_name "_law_mixed" ?_); refine we_var 4 rfl (by fail "vis") rfl ?_))
theorem ok_law_take (T : Tx K mg) : FnG P w K mg base CX0 (2 + 1) (He.ga K "_law_take") (spD (Cs K) S_law_take) := by
  obtain ⟨fd, Fd⟩ := T.e_law_take
  have b := Fd.bindsN (ps := ["_law_pot_here", "_law_upto"]) fun _ _ _ _ _ _ us hl => match us, hl with | [_, _], _ => rfl
  refine fn_D [] Fd sc_law_take b .nil (fun _ _ => .nil) (fun ds M Φ h => by obtain ⟨p, n, c, rfl, hn, hn2, hc, ⟨o, sd, cn, hM, V⟩, h⟩ := h; rfl) ?_
  rintro cdv A outer s H as M Φ hr ⟨p, n, c, rfl, hn, hn2, hc, ⟨o, sd, cn, hM, V⟩, h⟩
  have o0 := V.o0
  have o1 := V.o1
  have s0 := V.s0
  have s1 := V.s1
  have n0 := V.n0
  have n1 := V.n1
  refine wss_cons (ws_if (wt_cmp ?_))
  repeat fail "x"
  refine wix_own hM rfl ?_
  repeat fail "x"
  refine ⟨_, rfl, fun hc => ?_, fun hc => wss_nil ?_⟩
  · refine wss_cons (ws_set 2 sc_law_take.nd rfl (.inl rfl) ?_)
    repeat fail "x"
    refine wix_own hM rfl ?_
    refine wa_nil (wc_int ?_)
    repeat fail "x"
    refine wo_mod hn ?_
    refine wss_cons (ws_asg ?_)
    repeat fail "x"
    refine wix_own hM rfl ?_
    repeat fail "x"
    refine wo_fdiv (wide_div (b := 60) hn (by omega) (by decide) (by decide)) ?_
    refine wg_sub ?_
    repeat fail "x"
    refine ⟨p, _, 0, 0, rfl, rfl, hM, rfl, ?_⟩
    repeat fail "e"
    have q0 : 0 ≤ o / n := Int.ediv_nonneg o0 (by omega)
    have q1 : o / n ≤ o := Int.ediv_le_self _ o0
    refine h _ _ (Int.emod_nonneg _ (by omega)) (Int.emod_lt_of_pos _ hn) ⟨fun a ha => put_ne ha, o / n, sd, cn, put_same, q0, by omega, s0, s1, n0, by omega⟩
  · refine wss_cons (ws_asg ?_)
    repeat fail "x"
    refine wix_own hM rfl ?_
    repeat fail "x"
    refine wg_sub ?_
    repeat fail "x"
    refine ⟨p, _, 2, 2, rfl, rfl, hM, rfl, ?_⟩
    generalize hM2 : put M p (.lst (List.set [D.int o, .int sd, .int cn] 2 (.int (cn + 1)))) = M2
    have hP : M2 p = some (.lst [.int o, .int sd, .int (cn + 1)]) := by rw [← hM2]; exact put_same
    have hO : ∀ a, a ≠ p → M2 a = M a := fun a ha => by rw [← hM2]; exact put_ne ha
    generalize hcn : cn + 1 = cm at hP
    have m0 : 0 ≤ cm := by omega
    have m1 : cm ≤ c + 1 := by omega
    have m2 : cm ≤ 1000001 := by omega
    refine wss_cons (ws_set 3 sc_law_take.nd rfl (.inl rfl) ?_)
    refine we_ix (we_lst ?_)
    repeat fail "x"
    refine wix_own hP rfl ?_
    refine wa_nil (wc_int ?_)
    repeat fail "x"
    refine wo_mod (by decide) ?_
    obtain ⟨pr, hpr, pr0, pr1⟩ := pr_at (Int.emod_nonneg cm (by decide : (5 : Int) ≠ 0)) (Int.emod_lt_of_pos cm (by decide : (0 : Int) < 5))
    refine wix_lst hpr ?_
    refine wss_cons (ws_set 4 sc_law_take.nd rfl (.inl rfl) ?_)
    repeat fail "x"
    refine wix_own hP rfl ?_
    repeat fail "x"
    refine wix_own hP rfl ?_
    refine wo_mul (ok_mul (by decide) (lt1000 (by omega))) ?_
    repeat fail "x"
    refine wix_own hP rfl ?_
    refine wo_mul (ok_mul (by omega) (lt1000 (by omega))) ?_
    have sq := sq_lt (k := 100499) (by decide) (by decide) m0 m2
    generalize 100499 * cm * cm = w1 at sq
    obtain ⟨w0, w2⟩ := sq
    repeat fail "x"
    refine wc_int ?_
    repeat fail "x"
    refine wo_pow ⟨by decide, bits_le (by omega) (by omega)⟩ ?_
    refine wa_nil (wc_int ?_)
    repeat fail "x"
    refine wo_mod pr0 ?_
    generalize hx : (sd + w1 + 57) ^ (3 : Int).toNat % pr = mx
    have x0 : 0 ≤ mx := by rw [← hx]; exact Int.emod_nonneg _ (by omega)
    have x1 : mx < pr := by rw [← hx]; exact Int.emod_lt_of_pos _ pr0
    refine wss_cons (ws_set 4 sc_law_take.nd rfl (.inl rfl) ?_)
    repeat fail "x"
    refine wc_int ?_
    repeat fail "x"
    refine wo_mod (by decide) ?_
    have y0 : 0 ≤ mx % 10039 := Int.emod_nonneg _ (by decide)
    have y1 : mx % 10039 < 10039 := Int.emod_lt_of_pos _ (by decide)
    repeat fail "x"
    refine wix_own hP rfl ?_
    refine wo_mul (ok_mul (by decide) (lt1000 (by omega))) ?_
    repeat fail "x"
    refine wo_mul (ok_mul (by omega) (lt1000 (by omega))) ?_
    refine wa_nil (wc_int ?_)
    repeat fail "x"
    refine wo_mod (by decide) ?_
    generalize mx * (mx % 10039 + 87 * cm) % 2305843009213693907 = my
    repeat fail "e"
    refine wo_fdiv (wide_div (b := 60) (by decide) (by decide) (by decide) (by decide)) ?_
    refine wa_nil (wc_int ?_)
    repeat fail "x"
    refine wo_mod hn ?_
    refine h _ _ (Int.emod_nonneg _ (by omega)) (Int.emod_lt_of_pos _ hn) ⟨hO, o, sd, cm, hP, o0, o1, s0, s1, m0, by omega⟩
end
local macro_rules | `(tactic| fail "c") => `(tactic| ((with_reducible refine at_call "_law_take" ?_); refine we_call (ok_law_take (by assumption)) (Rm.mono (by assumption) (by decide)) rfl (Tx.g_law_take (by assumption)).1 (Tx.g_law_take (by assumption)).2 ?_))
def S_law_of : FS := fun ds M Φ => ∃ (p : Addr) (es : List D) (c : Nat), ds = [.ref p, .lst es] ∧ es ≠ [] ∧ es.length ≤ 1000 ∧ c ≤ 1000000 ∧ Pot M p c ∧ ∀ d M', d ∈ es → PotTo M p M' (c + 1) → Φ d M'
section
local macro_rules | `(tactic| fail "v") => `(tactic| first
  | ((with_reducible refine at_name "_law_pot_here" ?_); refine we_var 0 rfl (by fail "vis") rfl ?_)
  | ((with_reducible refine at_name "_law_some" ?_); refine we_var 1 rfl (by fail "vis") rfl ?_))
theorem ok_law_of (T : Tx K mg) : FnG P w K mg base CX0 (3 + 1) (He.ga K "_law_of") (spD (Cs K) S_law_of) := by
  obtain ⟨fd, Fd⟩ := T.e_law_of
  have b := Fd.bindsN (ps := ["_law_pot_here", "_law_some"]) fun _ _ _ _ _ _ us hl => match us, hl with | [_, _], _ => rfl
  refine fn_D [] Fd sc_law_of b .nil (fun _ _ => .nil) (fun ds M Φ h => by obtain ⟨p, es, c, rfl, hne, hl, hc, hp, h⟩ := h; rfl) ?_
  rintro cdv A outer s H as M Φ hr ⟨p, es, c, rfl, hne, hl, hc, hp, h⟩
  refine wss_one (ws_ret (we_ix ?_))
  repeat fail "x"
  refine wc_lenL ?_
  repeat fail "x"
  have l0 : 0 < es.length := List.length_pos_iff.mpr hne
  refine ⟨p, es.length, c, rfl, by omega, by omega, hc, hp, fun r M' r0 r1 ht => ?_⟩
  obtain ⟨j, rfl⟩ := Int.eq_ofNat_of_zero_le r0
  have hj : j < es.length := by omega
  refine wix_lst (atI_nat (List.getElem?_eq_getElem hj)) ?_
  exact h _ M' (List.getElem_mem hj) ht
end
local macro_rules | `(tactic| fail "c") => `(tactic| ((with_reducible refine at_call "_law_of" ?_); refine we_call (ok_law_of (by assumption)) (Rm.mono (by assumption) (by decide)) rfl (Tx.g_law_of (by assumption)).1 (Tx.g_law_of (by assumption)).2 ?_))
def S_law_cells : FS := fun ds M Φ => ∃ (ns : List Int) (m : Nat), ds = [.lst (ns.map D.int), .int m] ∧ m ≤ 100 ∧ ∀ k : Nat, k ≤ 101 → Φ (.lst (upTo k)) M
section
local macro_rules | `(tactic| fail "v") => `(tactic| first
  | ((with_reducible refine at_name "_law_script" ?_); refine we_var 0 rfl (by fail "vis") rfl ?_)
  | ((with_reducible refine at_name "_law_most" ?_); refine we_var 1 rfl (by fail "vis") rfl ?_))
theorem ok_law_cells (T : Tx K mg) : FnG P w K mg base CX0 (2 + 1) (He.ga K "_law_cells") (spD (Cs K) S_law_cells) := by
  obtain ⟨fd, Fd⟩ := T.e_law_cells
  have b := Fd.bindsN (ps := ["_law_script", "_law_most"]) fun _ _ _ _ _ _ us hl => match us, hl with | [_, _], _ => rfl
  refine fn_D [] Fd sc_law_cells b .nil (fun _ _ => .nil) (fun ds M Φ h => by obtain ⟨ns, m, rfl, hm, h⟩ := h; rfl) ?_
  rintro cdv A outer s H as M Φ hr ⟨ns, m, rfl, hm, h⟩
  refine wss_one (ws_ret (we_listR rfl rfl T.f_list rfl T.f_range ?_))
  repeat fail "x"
  refine wc_lenL ?_
  refine wa_nil (wc_min rfl ?_)
  refine wa_nil (wc_max rfl ?_)
  rw [List.length_map]
  generalize hk : (if (if (ns.length : Int) < (m : Int) then (ns.length : Int) else (m : Int)) > 1 then (if (ns.length : Int) < (m : Int) then (ns.length : Int) else (m : Int)) else (1 : Int)) = k
  have k0 : 0 ≤ k := by rw [← hk]; split <;> split <;> omega
  have k1 : k ≤ 101 := by rw [← hk]; split <;> split <;> omega
  obtain ⟨j, rfl⟩ := Int.eq_ofNat_of_zero_le k0
  exact ⟨j, rfl, by omega, h j (by omega)⟩
end
local macro_rules | `(tactic| fail "c") => `(tactic| ((with_reducible refine at_call "_law_cells" ?_); refine we_call (ok_law_cells (by assumption)) (Rm.mono (by assumption) (by decide)) rfl (Tx.g_law_cells (by assumption)).1 (Tx.g_law_cells (by assumption)).2 ?_))

theorem bt_ValueError : bootBuiltins "ValueError" = some (.type "ValueError") := by decide +kernel
local macro_rules | `(tactic| fail "c") => `(tactic| first
  | ((with_reducible refine at_call "MeterError" ?_); refine we_exc (n := 0) (B := He.ga K "MeterError") (gi := He.ma K (He.ga K "MeterError") "__init__") (k := 0) (Tx.er (by assumption) "MeterError" (by decide)) (Tx.si (by assumption)) (Tx.f_super (by assumption)) top_super (Rm.mono (by assumption) (by decide)) rfl (Tx.g_MeterError (by assumption)).1 ?_)
  | ((with_reducible refine at_call "BadRatio" ?_); refine we_exc (n := 1) (B := He.ga K "MeterError") (gi := He.ma K (He.ga K "MeterError") "__init__") (k := 0) (Tx.er (by assumption) "BadRatio" (by decide)) (Tx.si (by assumption)) (Tx.f_super (by assumption)) top_super (Rm.mono (by assumption) (by decide)) rfl (Tx.g_BadRatio (by assumption)).1 ?_)
  | ((with_reducible refine at_call "Short" ?_); refine we_exc (n := 2) (B := He.ga K "MeterError") (gi := He.ma K (He.ga K "MeterError") "__init__") (k := 0) (Tx.er (by assumption) "Short" (by decide)) (Tx.si (by assumption)) (Tx.f_super (by assumption)) top_super (Rm.mono (by assumption) (by decide)) rfl (Tx.g_Short (by assumption)).1 ?_)
  | ((with_reducible refine at_call "BadMany" ?_); refine we_exc (n := 3) (B := He.ga K "MeterError") (gi := He.ma K (He.ga K "MeterError") "__init__") (k := 0) (Tx.er (by assumption) "BadMany" (by decide)) (Tx.si (by assumption)) (Tx.f_super (by assumption)) top_super (Rm.mono (by assumption) (by decide)) rfl (Tx.g_BadMany (by assumption)).1 ?_)
  | ((with_reducible refine at_call "BadBench" ?_); refine we_exc (n := 4) (B := He.ga K "MeterError") (gi := He.ma K (He.ga K "MeterError") "__init__") (k := 0) (Tx.er (by assumption) "BadBench" (by decide)) (Tx.si (by assumption)) (Tx.f_super (by assumption)) top_super (Rm.mono (by assumption) (by decide)) rfl (Tx.g_BadBench (by assumption)).1 ?_)
  | ((with_reducible refine at_call "NoMeter" ?_); refine we_exc (n := 5) (B := He.ga K "MeterError") (gi := He.ma K (He.ga K "MeterError") "__init__") (k := 0) (Tx.er (by assumption) "NoMeter" (by decide)) (Tx.si (by assumption)) (Tx.f_super (by assumption)) top_super (Rm.mono (by assumption) (by decide)) rfl (Tx.g_NoMeter (by assumption)).1 ?_)
  | ((with_reducible refine at_call "NoLoad" ?_); refine we_exc (n := 6) (B := He.ga K "MeterError") (gi := He.ma K (He.ga K "MeterError") "__init__") (k := 0) (Tx.er (by assumption) "NoLoad" (by decide)) (Tx.si (by assumption)) (Tx.f_super (by assumption)) top_super (Rm.mono (by assumption) (by decide)) rfl (Tx.g_NoLoad (by assumption)).1 ?_)
  | ((with_reducible refine at_call "LastMeter" ?_); refine we_exc (n := 7) (B := He.ga K "MeterError") (gi := He.ma K (He.ga K "MeterError") "__init__") (k := 0) (Tx.er (by assumption) "LastMeter" (by decide)) (Tx.si (by assumption)) (Tx.f_super (by assumption)) top_super (Rm.mono (by assumption) (by decide)) rfl (Tx.g_LastMeter (by assumption)).1 ?_)
  | ((with_reducible refine at_call "BadSpread" ?_); refine we_exc (n := 8) (B := He.ga K "MeterError") (gi := He.ma K (He.ga K "MeterError") "__init__") (k := 0) (Tx.er (by assumption) "BadSpread" (by decide)) (Tx.si (by assumption)) (Tx.f_super (by assumption)) top_super (Rm.mono (by assumption) (by decide)) rfl (Tx.g_BadSpread (by assumption)).1 ?_)
  | ((with_reducible refine at_call "BadSetting" ?_); refine we_exc (n := 9) (B := He.ga K "MeterError") (gi := He.ma K (He.ga K "MeterError") "__init__") (k := 0) (Tx.er (by assumption) "BadSetting" (by decide)) (Tx.si (by assumption)) (Tx.f_super (by assumption)) top_super (Rm.mono (by assumption) (by decide)) rfl (Tx.g_BadSetting (by assumption)).1 ?_)
  | ((with_reducible refine at_call "BadStep" ?_); refine we_exc (n := 10) (B := He.ga K "MeterError") (gi := He.ma K (He.ga K "MeterError") "__init__") (k := 0) (Tx.er (by assumption) "BadStep" (by decide)) (Tx.si (by assumption)) (Tx.f_super (by assumption)) top_super (Rm.mono (by assumption) (by decide)) rfl (Tx.g_BadStep (by assumption)).1 ?_)
  | ((with_reducible refine at_call "BadSteps" ?_); refine we_exc (n := 11) (B := He.ga K "MeterError") (gi := He.ma K (He.ga K "MeterError") "__init__") (k := 0) (Tx.er (by assumption) "BadSteps" (by decide)) (Tx.si (by assumption)) (Tx.f_super (by assumption)) top_super (Rm.mono (by assumption) (by decide)) rfl (Tx.g_BadSteps (by assumption)).1 ?_)
  | ((with_reducible refine at_call "TooMany" ?_); refine we_exc (n := 12) (B := He.ga K "MeterError") (gi := He.ma K (He.ga K "MeterError") "__init__") (k := 0) (Tx.er (by assumption) "TooMany" (by decide)) (Tx.si (by assumption)) (Tx.f_super (by assumption)) top_super (Rm.mono (by assumption) (by decide)) rfl (Tx.g_TooMany (by assumption)).1 ?_)
  | ((with_reducible refine at_call "BadLog" ?_); refine we_exc (n := 13) (B := He.ga K "MeterError") (gi := He.ma K (He.ga K "MeterError") "__init__") (k := 0) (Tx.er (by assumption) "BadLog" (by decide)) (Tx.si (by assumption)) (Tx.f_super (by assumption)) top_super (Rm.mono (by assumption) (by decide)) rfl (Tx.g_BadLog (by assumption)).1 ?_)
  | ((with_reducible refine at_call "NoFit" ?_); refine we_exc (n := 14) (B := He.ga K "MeterError") (gi := He.ma K (He.ga K "MeterError") "__init__") (k := 0) (Tx.er (by assumption) "NoFit" (by decide)) (Tx.si (by assumption)) (Tx.f_super (by assumption)) top_super (Rm.mono (by assumption) (by decide)) rfl (Tx.g_NoFit (by assumption)).1 ?_)
  | ((with_reducible refine at_call "Unlike" ?_); refine we_exc (n := 15) (B := He.ga K "MeterError") (gi := He.ma K (He.ga K "MeterError") "__init__") (k := 0) (Tx.er (by assumption) "Unlike" (by decide)) (Tx.si (by assumption)) (Tx.f_super (by assumption)) top_super (Rm.mono (by assumption) (by decide)) rfl (Tx.g_Unlike (by assumption)).1 ?_)
  | ((with_reducible refine at_call "BadOffers" ?_); refine we_exc (n := 16) (B := He.ga K "MeterError") (gi := He.ma K (He.ga K "MeterError") "__init__") (k := 0) (Tx.er (by assumption) "BadOffers" (by decide)) (Tx.si (by assumption)) (Tx.f_super (by assumption)) top_super (Rm.mono (by assumption) (by decide)) rfl (Tx.g_BadOffers (by assumption)).1 ?_)
  | ((with_reducible refine at_call "BadHopes" ?_); refine we_exc (n := 17) (B := He.ga K "MeterError") (gi := He.ma K (He.ga K "MeterError") "__init__") (k := 0) (Tx.er (by assumption) "BadHopes" (by decide)) (Tx.si (by assumption)) (Tx.f_super (by assumption)) top_super (Rm.mono (by assumption) (by decide)) rfl (Tx.g_BadHopes (by assumption)).1 ?_)
  | ((with_reducible refine at_call "NotNow" ?_); refine we_exc (n := 18) (B := He.ga K "MeterError") (gi := He.ma K (He.ga K "MeterError") "__init__") (k := 0) (Tx.er (by assumption) "NotNow" (by decide)) (Tx.si (by assumption)) (Tx.f_super (by assumption)) top_super (Rm.mono (by assumption) (by decide)) rfl (Tx.g_NotNow (by assumption)).1 ?_)
  | ((with_reducible refine at_call "Hunting" ?_); refine we_exc (n := 19) (B := He.ga K "MeterError") (gi := He.ma K (He.ga K "MeterError") "__init__") (k := 0) (Tx.er (by assumption) "Hunting" (by decide)) (Tx.si (by assumption)) (Tx.f_super (by assumption)) top_super (Rm.mono (by assumption) (by decide)) rfl (Tx.g_Hunting (by assumption)).1 ?_)
  | ((with_reducible refine at_call "BadSource" ?_); refine we_exc (n := 20) (B := He.ga K "MeterError") (gi := He.ma K (He.ga K "MeterError") "__init__") (k := 0) (Tx.er (by assumption) "BadSource" (by decide)) (Tx.si (by assumption)) (Tx.f_super (by assumption)) top_super (Rm.mono (by assumption) (by decide)) rfl (Tx.g_BadSource (by assumption)).1 ?_)
  | ((with_reducible refine at_call "NothingToUndo" ?_); refine we_exc (n := 21) (B := He.ga K "MeterError") (gi := He.ma K (He.ga K "MeterError") "__init__") (k := 0) (Tx.er (by assumption) "NothingToUndo" (by decide)) (Tx.si (by assumption)) (Tx.f_super (by assumption)) top_super (Rm.mono (by assumption) (by decide)) rfl (Tx.g_NothingToUndo (by assumption)).1 ?_)
  | ((with_reducible refine at_call "NothingToRedo" ?_); refine we_exc (n := 22) (B := He.ga K "MeterError") (gi := He.ma K (He.ga K "MeterError") "__init__") (k := 0) (Tx.er (by assumption) "NothingToRedo" (by decide)) (Tx.si (by assumption)) (Tx.f_super (by assumption)) top_super (Rm.mono (by assumption) (by decide)) rfl (Tx.g_NothingToRedo (by assumption)).1 ?_)
  | ((with_reducible refine at_call "NoTrial" ?_); refine we_exc (n := 23) (B := He.ga K "MeterError") (gi := He.ma K (He.ga K "MeterError") "__init__") (k := 0) (Tx.er (by assumption) "NoTrial" (by decide)) (Tx.si (by assumption)) (Tx.f_super (by assumption)) top_super (Rm.mono (by assumption) (by decide)) rfl (Tx.g_NoTrial (by assumption)).1 ?_)
  | ((with_reducible refine at_call "BadJournal" ?_); refine we_exc (n := 24) (B := He.ga K "MeterError") (gi := He.ma K (He.ga K "MeterError") "__init__") (k := 0) (Tx.er (by assumption) "BadJournal" (by decide)) (Tx.si (by assumption)) (Tx.f_super (by assumption)) top_super (Rm.mono (by assumption) (by decide)) rfl (Tx.g_BadJournal (by assumption)).1 ?_)
  | ((with_reducible refine at_call "BadLine" ?_); refine we_exc (n := 25) (B := He.ga K "MeterError") (gi := He.ma K (He.ga K "MeterError") "__init__") (k := 0) (Tx.er (by assumption) "BadLine" (by decide)) (Tx.si (by assumption)) (Tx.f_super (by assumption)) top_super (Rm.mono (by assumption) (by decide)) rfl (Tx.g_BadLine (by assumption)).1 ?_))
local macro_rules | `(tactic| fail "g") => `(tactic| first
  | ((with_reducible refine at_name "MeterError" ?_); refine we_gref rfl (Tx.g_MeterError (by assumption)).1 ?_)
  | ((with_reducible refine at_name "BadRatio" ?_); refine we_gref rfl (Tx.g_BadRatio (by assumption)).1 ?_)
  | ((with_reducible refine at_name "Short" ?_); refine we_gref rfl (Tx.g_Short (by assumption)).1 ?_)
  | ((with_reducible refine at_name "BadMany" ?_); refine we_gref rfl (Tx.g_BadMany (by assumption)).1 ?_)
  | ((with_reducible refine at_name "BadBench" ?_); refine we_gref rfl (Tx.g_BadBench (by assumption)).1 ?_)
  | ((with_reducible refine at_name "NoMeter" ?_); refine we_gref rfl (Tx.g_NoMeter (by assumption)).1 ?_)
  | ((with_reducible refine at_name "NoLoad" ?_); refine we_gref rfl (Tx.g_NoLoad (by assumption)).1 ?_)
  | ((with_reducible refine at_name "LastMeter" ?_); refine we_gref rfl (Tx.g_LastMeter (by assumption)).1 ?_)
  | ((with_reducible refine at_name "BadSpread" ?_); refine we_gref rfl (Tx.g_BadSpread (by assumption)).1 ?_)
  | ((with_reducible refine at_name "BadSetting" ?_); refine we_gref rfl (Tx.g_BadSetting (by assumption)).1 ?_)
  | ((with_reducible refine at_name "BadStep" ?_); refine we_gref rfl (Tx.g_BadStep (by assumption)).1 ?_)
  | ((with_reducible refine at_name "BadSteps" ?_); refine we_gref rfl (Tx.g_BadSteps (by assumption)).1 ?_)
  | ((with_reducible refine at_name "TooMany" ?_); refine we_gref rfl (Tx.g_TooMany (by assumption)).1 ?_)
  | ((with_reducible refine at_name "BadLog" ?_); refine we_gref rfl (Tx.g_BadLog (by assumption)).1 ?_)
  | ((with_reducible refine at_name "NoFit" ?_); refine we_gref rfl (Tx.g_NoFit (by assumption)).1 ?_)
  | ((with_reducible refine at_name "Unlike" ?_); refine we_gref rfl (Tx.g_Unlike (by assumption)).1 ?_)
  | ((with_reducible refine at_name "BadOffers" ?_); refine we_gref rfl (Tx.g_BadOffers (by assumption)).1 ?_)
  | ((with_reducible refine at_name "BadHopes" ?_); refine we_gref rfl (Tx.g_BadHopes (by assumption)).1 ?_)
  | ((with_reducible refine at_name "NotNow" ?_); refine we_gref rfl (Tx.g_NotNow (by assumption)).1 ?_)
  | ((with_reducible refine at_name "Hunting" ?_); refine we_gref rfl (Tx.g_Hunting (by assumption)).1 ?_)
  | ((with_reducible refine at_name "BadSource" ?_); refine we_gref rfl (Tx.g_BadSource (by assumption)).1 ?_)
  | ((with_reducible refine at_name "NothingToUndo" ?_); refine we_gref rfl (Tx.g_NothingToUndo (by assumption)).1 ?_)
  | ((with_reducible refine at_name "NothingToRedo" ?_); refine we_gref rfl (Tx.g_NothingToRedo (by assumption)).1 ?_)
  | ((with_reducible refine at_name "NoTrial" ?_); refine we_gref rfl (Tx.g_NoTrial (by assumption)).1 ?_)
  | ((with_reducible refine at_name "BadJournal" ?_); refine we_gref rfl (Tx.g_BadJournal (by assumption)).1 ?_)
  | ((with_reducible refine at_name "BadLine" ?_); refine we_gref rfl (Tx.g_BadLine (by assumption)).1 ?_)
  | ((with_reducible refine at_name "ValueError" ?_); refine we_gty rfl (Tx.f_ValueError (by assumption)) bt_ValueError ?_))
local macro_rules | `(tactic| fail "c") => `(tactic| ((with_reducible refine at_call "tuple" ?_); refine we_callTy rfl (Tx.f_tuple (by assumption)) bt_tuple ?_))
def tkv : Nat → Nat
  | 0 => 1
  | n + 1 => 2 + 3 * tkv n
def czv : Nat → Nat
  | 0 => 4000
  | n + 1 => 3 * czv n + 100
theorem tkv_le {n : Nat} (h : n ≤ 3) : 1 ≤ tkv n ∧ tkv n ≤ 53 := by
  have : n = 0 ∨ n = 1 ∨ n = 2 ∨ n = 3 := by omega
  rcases this with rfl | rfl | rfl | rfl <;> decide
theorem czv_le {n : Nat} (h : n ≤ 3) : 4000 ≤ czv n ∧ czv n ≤ 200000 := by
  have : n = 0 ∨ n = 1 ∨ n = 2 ∨ n = 3 := by omega
  rcases this with rfl | rfl | rfl | rfl <;> decide
def n_law_value : List Str := ["_law_pot_here", "_law_deep", "_law_way", "_law_lap"]
def S_law_value (n : Nat) : FS := fun ds M Φ => ∃ (p : Addr) (c : Nat), ds = [.ref p, .int n] ∧ c + 1000 * n ≤ 900000 ∧ n ≤ 3 ∧ Pot M p c ∧ ∀ v M', Shz (n + 1) (czv n) v → PotTo M p M' (c + tkv n) → Φ v M'
section
local macro_rules | `(tactic| fail "v") => `(tactic| first
  | ((with_reducible refine at_name "_law_pot_here" ?_); refine we_var 0 rfl (by fail "vis") rfl ?_)
  | ((with_reducible refine at_name "_law_deep" ?_); refine we_var 1 rfl (by fail "vis") rfl ?_)
  | ((with_reducible refine at_name "_law_way" ?_); refine we_var 2 rfl (by fail "vis") rfl ?_)
  | ((with_reducible refine at_name "_law_lap" ?_); refine we_var 3 rfl (by fail "vis") rfl ?_))
theorem law_value_step (T : Tx K mg) (n : Nat) (ih : ∀ m, n = m + 1 → FnG P w K mg base CX0 (4 + m + 1) (He.ga K "_law_value") (spD (Cs K) (S_law_value m))) : FnG P w K mg base CX0 (4 + n + 1) (He.ga K "_law_value") (spD (Cs K) (S_law_value n)) := by
  obtain ⟨fd, Fd⟩ := T.e_law_value
  have b := Fd.bindsN (ps := ["_law_pot_here", "_law_deep"]) fun _ _ _ _ _ _ us hl => match us, hl with | [_, _], _ => rfl
  refine fn_D [] Fd sc_law_value b .nil (fun _ _ => .nil) (fun ds M Φ h => by obtain ⟨p, c, rfl, hc, hn, hp, h⟩ := h; rfl) ?_
  rintro cdv A outer s H as M Φ hr ⟨p, c, rfl, hc, hn, hp, h⟩
  have hr4 : Rm 4 (cxOf CX0 P w K mg base n_law_value "_law_value" (defScope s_law_value) (He.ga K "_law_value") cdv A outer s H E0).nox.A := hr.mono (by omega)
  have leaf : ∀ (y : D) (M1 : Mem) (c1 : Nat), c1 ≤ 950000 → PotTo M p M1 c1 → c1 + 1 ≤ c + tkv n → WSs (Cs K) (cxOf CX0 P w K mg base n_law_value "_law_value" (defScope s_law_value) (He.ga K "_law_value") cdv A outer s H E0).nox
      ((defBody s_law_value).drop 4) [some (.ref p), some (.int n), some y, none] M1 { nx := fun _ M' => Φ .non M', rt := Φ } := by
    intro y M1 c1 hc1 t1 hle
    refine wss_one (ws_ret ?_)
    fail "c"
    refine wa_cons ?_
    fail "v"
    refine wa_cons (we_lst ?_)
    repeat fail "x"
    refine we_un (we_int (wu_neg ?_))
    repeat fail "x"
    refine wo_pow (by decide +kernel) ?_
    repeat fail "x"
    refine we_lst (wa_nil ⟨by simp, ?_⟩)
    repeat fail "x"
    refine we_dnew ?_
    repeat fail "x"
    refine ⟨p, _, c1, rfl, by simp, by simp, by omega, t1.pot, fun d M2 hd t2 => h d M2 ?_ ((t1.trans t2).mono hle)⟩
    have e5 : (10 : Int) ^ (8 : Int).toNat = 100000000 := by decide +kernel
    rw [e5] at hd
    have cz := (czv_le hn).1
    have key : Shz 1 4000 d := by
      simp only [List.mem_cons, List.not_mem_nil, or_false] at hd
      have i1 : ∀ i : Int, i.natAbs < 1000000000 → Shz 0 1921 (.int i) := fun i hi => .int i (Nat.lt_of_lt_of_le hi (by decide)) (by decide)
      rcases hd with rfl | rfl | rfl | rfl | rfl | rfl | rfl | rfl | rfl | rfl | rfl | rfl | rfl | rfl | rfl
      · exact .non (by decide)
      · exact .bl _ (by decide)
      · exact .bl _ (by decide)
      · exact (i1 0 (by decide)).mono (by decide) (by decide)
      · exact (i1 1 (by decide)).mono (by decide) (by decide)
      · exact (i1 _ (by decide)).mono (by decide) (by decide)
      · exact (i1 _ (by decide)).mono (by decide) (by decide)
      · exact .str _ (by decide +kernel)
      · exact .str _ (by decide +kernel)
      · exact .str _ (by decide +kernel)
      · exact .tup (k := 0) (fun d hd => by cases hd) (by decide)
      · exact .lst (k := 0) (fun d hd => by cases hd) (by decide)
      · exact .dct (k := 0) (fun d hd => by cases hd) (fun d hd => by cases hd) rfl (by decide)
      · refine .tup (k := 1921) (fun d hd => ?_) (by decide)
        simp only [List.mem_cons, List.not_mem_nil, or_false] at hd
        rcases hd with rfl | rfl
        · exact i1 1 (by decide)
        · exact i1 2 (by decide)
      · refine .tup (k := 100) (fun d hd => ?_) (by decide)
        simp only [List.mem_cons, List.not_mem_nil, or_false] at hd
        rcases hd with rfl | rfl
        · exact .str _ (by decide +kernel)
        · exact .str _ (by decide +kernel)
    exact key.mono (by omega) cz
  refine wss_cons (ws_set 2 sc_law_value.nd rfl (.inl rfl) (we_if (wt_cmp ?_)))
  repeat fail "x"
  refine ⟨_, rfl, fun hz => ?_, fun hz => ?_⟩
  rotate_left
  · repeat fail "x"
    refine wss_cons (ws_if (wt_cmp ?_))
    repeat fail "x"
    refine ⟨_, rfl, nofun, fun _ => wss_nil ?_⟩
    refine wss_cons (ws_if (wt_cmp ?_))
    repeat fail "x"
    refine ⟨_, rfl, nofun, fun _ => wss_nil ?_⟩
    refine wss_cons (ws_if (wt_cmp ?_))
    repeat fail "x"
    refine ⟨_, rfl, nofun, fun _ => wss_nil ?_⟩
    exact leaf _ M c (by omega) (.refl hp) (by have := (tkv_le hn).1; omega)
  obtain ⟨m, rfl⟩ : ∃ m, n = m + 1 := ⟨n - 1, by have := of_decide_eq_true hz; omega⟩
  have hI := ih m rfl
  have tk := tkv_le (n := m) (by omega)
  have cz := czv_le (n := m) (by omega)
  have etk : tkv (m + 1) = 2 + 3 * tkv m := rfl
  have ecz : czv (m + 1) = 3 * czv m + 100 := rfl
  have eint : ((m + 1 : Nat) : Int) - 1 = (m : Int) := by omega
  have hrm : Rm (4 + m + 1) (cxOf CX0 P w K mg base n_law_value "_law_value" (defScope s_law_value) (He.ga K "_law_value") cdv A outer s H E0).nox.A := hr.mono (by omega)
  have hr4' := hr4
  repeat fail "x"
  refine ⟨p, 5, c, rfl, by decide, by decide, by omega, hp, fun r M1 r0 r1 t1 => ?_⟩
  refine wss_cons (ws_if (wt_cmp ?_))
  repeat fail "x"
  refine ⟨_, rfl, fun _ => ?_, fun _ => wss_nil ?_⟩
  · refine wss_one (ws_ret ?_)
    fail "c"
    refine wa_cons (we_lcR rfl sc_law_value.nd rfl (Tx.f_range (by assumption)) (blkOk_by (N := n_law_value) (sc := defScope s_law_value) (own := [("_law_lap", 3)]) (by decide +kernel)) (fun _ _ _ _ _ => pg_name (i := 3) sc_law_value.nd rfl (.inl rfl)) (tg_name (j := 3) (by decide)) ?_)
    repeat fail "x"
    refine ⟨p, 4, c + 1, rfl, by decide, by decide, by omega, t1.pot, fun x M2 x0 x1 t2 => ?_⟩
    obtain ⟨j, rfl⟩ := Int.eq_ofNat_of_zero_le x0
    refine ⟨j, rfl, by rw [upTo_len]; omega, fun i acc M3 => PotTo M p M3 (c + 2 + i * tkv m) ∧ ∀ d ∈ acc, Shz (m + 1) (czv m) d, ⟨(t1.trans t2).mono (by omega), fun _ z => by cases z⟩, ?_, ?_⟩
    · rintro i d acc M3 hd hl ⟨t3, ha⟩ s0 H0 C cl fp
      have hi : i < j := by
        have := (List.getElem?_eq_some_iff.mp hd).1
        rwa [upTo_len] at this
      have him : i * tkv m ≤ 2 * tkv m := Nat.mul_le_mul_right _ (by omega)
      refine we_call hI hrm rfl (Tx.g_law_value T).1 (Tx.g_law_value T).2 ?_
      repeat fail "x"
      refine ⟨p, c + 2 + i * tkv m, by rw [eint], by omega, by omega, t3.pot, fun v M4 hv t4 => ⟨(t3.trans t4).mono (by rw [Nat.succ_mul]; omega), fun d hd => ?_⟩⟩
      rcases List.mem_append.mp hd with hd | hd
      · exact ha d hd
      · cases List.mem_singleton.mp hd; exact hv
    · rintro acc M3 hl ⟨t3, ha⟩
      rw [upTo_len] at hl
      rw [upTo_len] at t3
      have hjm : j * tkv m ≤ 3 * tkv m := Nat.mul_le_mul_right _ (by omega)
      refine wa_nil (wc_tupL (h _ M3 (.tup ha ?_) (t3.mono (by rw [etk]; omega))))
      have : acc.length * (czv m + 2) ≤ 3 * (czv m + 2) := Nat.mul_le_mul_right _ (by omega)
      rw [ecz]; omega
  refine wss_cons (ws_if (wt_cmp ?_))
  repeat fail "x"
  refine ⟨_, rfl, fun _ => ?_, fun _ => wss_nil ?_⟩
  · refine wss_one (ws_ret ?_)
    refine we_lcR rfl sc_law_value.nd rfl (Tx.f_range (by assumption)) (blkOk_by (N := n_law_value) (sc := defScope s_law_value) (own := [("_law_lap", 3)]) (by decide +kernel)) (fun _ _ _ _ _ => pg_name (i := 3) sc_law_value.nd rfl (.inl rfl)) (tg_name (j := 3) (by decide)) ?_
    repeat fail "x"
    refine ⟨p, 3, c + 1, rfl, by decide, by decide, by omega, t1.pot, fun x M2 x0 x1 t2 => ?_⟩
    obtain ⟨j, rfl⟩ := Int.eq_ofNat_of_zero_le x0
    refine ⟨j, rfl, by rw [upTo_len]; omega, fun i acc M3 => PotTo M p M3 (c + 2 + i * tkv m) ∧ ∀ d ∈ acc, Shz (m + 1) (czv m) d, ⟨(t1.trans t2).mono (by omega), fun _ z => by cases z⟩, ?_, ?_⟩
    · rintro i d acc M3 hd hl ⟨t3, ha⟩ s0 H0 C cl fp
      have hi : i < j := by
        have := (List.getElem?_eq_some_iff.mp hd).1
        rwa [upTo_len] at this
      have him : i * tkv m ≤ 2 * tkv m := Nat.mul_le_mul_right _ (by omega)
      refine we_call hI hrm rfl (Tx.g_law_value T).1 (Tx.g_law_value T).2 ?_
      repeat fail "x"
      refine ⟨p, c + 2 + i * tkv m, by rw [eint], by omega, by omega, t3.pot, fun v M4 hv t4 => ⟨(t3.trans t4).mono (by rw [Nat.succ_mul]; omega), fun d hd => ?_⟩⟩
      rcases List.mem_append.mp hd with hd | hd
      · exact ha d hd
      · cases List.mem_singleton.mp hd; exact hv
    · rintro acc M3 hl ⟨t3, ha⟩
      rw [upTo_len] at hl
      rw [upTo_len] at t3
      have hjm : j * tkv m ≤ 3 * tkv m := Nat.mul_le_mul_right _ (by omega)
      refine h _ M3 (.lst ha ?_) (t3.mono (by rw [etk]; omega))
      have : acc.length * (czv m + 2) ≤ 3 * (czv m + 2) := Nat.mul_le_mul_right _ (by omega)
      rw [ecz]; omega
  refine wss_cons (ws_if (wt_cmp ?_))
  repeat fail "x"
  refine ⟨_, rfl, fun _ => ?_, fun _ => wss_nil ?_⟩
  · refine wss_one (ws_ret (we_disp1 fun q hq => we_str ?_))
    have hpq : q ≠ p := fun z => by
      obtain ⟨o, sd, cn, e, _⟩ := t1.pot
      rw [z, e] at hq; cases hq
    refine we_call hI hrm rfl (Tx.g_law_value T).1 (Tx.g_law_value T).2 ?_
    repeat fail "x"
    have pq : Pot (put M1 q (.dct [] [])) p (c + 1) := by
      obtain ⟨o, sd, cn, e, v⟩ := t1.pot
      exact ⟨o, sd, cn, by rw [put_ne (Ne.symm hpq)]; exact e, v⟩
    refine ⟨p, c + 1, by rw [eint], by omega, by omega, pq, fun v M4 hv t4 => ⟨.inr "a", rfl, by rw [t4.old q hpq, put_same], h _ _ (.dct (k := czv m) (fun d hd => ?_) (fun k hk => ?_) rfl ?_) ⟨fun a ha => ?_, ?_⟩⟩⟩
    · cases List.mem_singleton.mp hd; exact hv
    · cases List.mem_singleton.mp hk
      exact ⟨Nat.le_trans (by decide +kernel) cz.1, fun i z => by cases z⟩
    · rw [ecz]; show 3 + 1 * (2 * czv m + 4) ≤ _; omega
    · by_cases e : a = q
      · subst e
        rw [era_same, ← t1.old a hpq]
        exact hq.symm
      · rw [era_ne e, t4.old a ha, put_ne e, t1.old a ha]
    · obtain ⟨o, sd, cn, e, v⟩ := t4.pot
      exact Pot.mono ⟨o, sd, cn, by rw [era_ne (Ne.symm hpq)]; exact e, v⟩ (by rw [etk]; omega)
  exact leaf _ M1 (c + 1) (by omega) t1 (by rw [etk]; omega)
theorem ok_law_value (T : Tx K mg) : ∀ n : Nat, FnG P w K mg base CX0 (4 + n + 1) (He.ga K "_law_value") (spD (Cs K) (S_law_value n))
  | 0 => law_value_step T 0 fun m h => by omega
  | n + 1 => law_value_step T (n + 1) fun m h => by
    obtain rfl : n = m := by omega
    exact ok_law_value T n
end

/-! ### errors -/
def marks (i : Nat) : List Bool := (errs.drop 1).map fun y => decide (clsN i = y) || decide (y = "MeterError")
theorem mem_errs : ∀ i, i < 26 → clsN i ∈ errs := by decide +kernel
theorem marks_up : ∀ i, i < 25 → marks (i + 1) = (List.range 25).map fun k => decide (i = k) := by decide +kernel
theorem marks_no : (marks 0).any id = false := by decide +kernel
theorem era_keeps {M : Mem} {q : Addr} (hq : M q = none) (a : Addr) (ha : M a ≠ none) : era M q a = M a := era_ne fun z => ha (by rw [z]; exact hq)
def S_law_made : FS := fun ds M Φ => ∃ v, ds = [v] ∧ ∀ M', (∀ a, M a ≠ none → M' a = M a) → Φ (.lst ((List.range 25).map fun i => .exc (i + 1) v)) M'
section
local macro_rules | `(tactic| fail "v") => `(tactic| first
  | ((with_reducible refine at_name "_law_value_here" ?_); refine we_var 0 rfl (by fail "vis") rfl ?_)
  | ((with_reducible refine at_name "_law_found" ?_); refine we_var 1 rfl (by fail "vis") rfl ?_))
theorem ok_law_made (T : Tx K mg) : FnG P w K mg base CX0 (4 + 1) (He.ga K "_law_made") (spD (Cs K) S_law_made) := by
  obtain ⟨fd, Fd⟩ := T.e_law_made
  have b := Fd.bindsN (ps := ["_law_value_here"]) fun _ _ _ _ _ _ us hl => match us, hl with | [_], _ => rfl
  refine fn_D [] Fd sc_law_made b .nil (fun _ _ => .nil) (fun ds M Φ h => by obtain ⟨v, rfl, h⟩ := h; rfl) ?_
  rintro cdv A outer s H as M Φ hr ⟨v, rfl, h⟩
  refine wss_cons (ws_set 1 sc_law_made.nd rfl (.inl rfl) (we_lstO ?_))
  repeat fail "x"
  intro q hq
  refine wss_cons (ws_expr (we_extend ?_))
  fail "v"
  refine ⟨q, _, rfl, put_same, we_lst ?_⟩
  repeat fail "x"
  refine ⟨_, _, rfl, put_same, by simp, ?_⟩
  refine wss_cons (ws_expr (we_extend ?_))
  fail "v"
  refine ⟨q, _, rfl, put_same, we_lst ?_⟩
  repeat fail "x"
  refine ⟨_, _, rfl, put_same, by simp, ?_⟩
  refine wss_cons (ws_expr (we_extend ?_))
  fail "v"
  refine ⟨q, _, rfl, put_same, we_lst ?_⟩
  repeat fail "x"
  refine ⟨_, _, rfl, put_same, by simp, ?_⟩
  refine wss_frz 1 rfl put_same ?_
  refine wss_one (ws_ret (we_bin ?_))
  repeat fail "x"
  refine we_lst ?_
  repeat fail "x"
  refine wo_catL (by simp) ?_
  rw [era_over, era_over, era_over, era_over]
  exact h _ (era_keeps hq)
end
local macro_rules | `(tactic| fail "c") => `(tactic| ((with_reducible refine at_call "_law_made" ?_); refine we_call (ok_law_made (by assumption)) (Rm.mono (by assumption) (by decide)) rfl (Tx.g_law_made (by assumption)).1 (Tx.g_law_made (by assumption)).2 ?_))
def S_law_marks : FS := fun ds M Φ => ∃ i v, ds = [.exc i v] ∧ i < 26 ∧ ∀ M', (∀ a, M a ≠ none → M' a = M a) → Φ (.lst ((marks i).map D.bl)) M'
section
local macro_rules | `(tactic| fail "v") => `(tactic| first
  | ((with_reducible refine at_name "_law_error" ?_); refine we_var 0 rfl (by fail "vis") rfl ?_)
  | ((with_reducible refine at_name "_law_found" ?_); refine we_var 1 rfl (by fail "vis") rfl ?_))
theorem ok_law_marks (T : Tx K mg) : FnG P w K mg base CX0 (4 + 1) (He.ga K "_law_marks") (spD (Cs K) S_law_marks) := by
  obtain ⟨fd, Fd⟩ := T.e_law_marks
  have b := Fd.bindsN (ps := ["_law_error"]) fun _ _ _ _ _ _ us hl => match us, hl with | [_], _ => rfl
  refine fn_D [] Fd sc_law_marks b .nil (fun _ _ => .nil) (fun ds M Φ h => by obtain ⟨i, v, rfl, hi, h⟩ := h; rfl) ?_
  rintro cdv A outer s H as M Φ hr ⟨i, v, rfl, hi, h⟩
  have hm := mem_errs i hi
  refine wss_cons (ws_set 1 sc_law_marks.nd rfl (.inl rfl) (we_lstO ?_))
  repeat (first | fail "x" | refine wc_isiE (.inr ⟨_, rfl, rfl⟩) (T.er (clsN i) hm).ex ((T.kx (clsN i) hm).2 _ (by decide)) ?_)
  intro q hq
  refine wss_cons (ws_expr (we_extend ?_))
  fail "v"
  refine ⟨q, _, rfl, put_same, we_lst ?_⟩
  repeat (first | fail "x" | refine wc_isiE (.inr ⟨_, rfl, rfl⟩) (T.er (clsN i) hm).ex ((T.kx (clsN i) hm).2 _ (by decide)) ?_)
  refine ⟨_, _, rfl, put_same, by simp, ?_⟩
  refine wss_cons (ws_expr (we_extend ?_))
  fail "v"
  refine ⟨q, _, rfl, put_same, we_lst ?_⟩
  repeat (first | fail "x" | refine wc_isiE (.inr ⟨_, rfl, rfl⟩) (T.er (clsN i) hm).ex ((T.kx (clsN i) hm).2 _ (by decide)) ?_)
  refine ⟨_, _, rfl, put_same, by simp, ?_⟩
  refine wss_cons (ws_expr (we_extend ?_))
  fail "v"
  refine ⟨q, _, rfl, put_same, we_lst ?_⟩
  repeat (first | fail "x" | refine wc_isiE (.inr ⟨_, rfl, rfl⟩) (T.er (clsN i) hm).ex ((T.kx (clsN i) hm).2 _ (by decide)) ?_)
  refine ⟨_, _, rfl, put_same, by simp, ?_⟩
  refine wss_cons (ws_expr (we_extend ?_))
  fail "v"
  refine ⟨q, _, rfl, put_same, we_lst ?_⟩
  repeat (first | fail "x" | refine wc_isiE (.inr ⟨_, rfl, rfl⟩) (T.er (clsN i) hm).ex ((T.kx (clsN i) hm).2 _ (by decide)) ?_)
  refine ⟨_, _, rfl, put_same, by simp, ?_⟩
  refine wss_cons (ws_expr (we_extend ?_))
  fail "v"
  refine ⟨q, _, rfl, put_same, we_lst ?_⟩
  repeat (first | fail "x" | refine wc_isiE (.inr ⟨_, rfl, rfl⟩) (T.er (clsN i) hm).ex ((T.kx (clsN i) hm).2 _ (by decide)) ?_)
  refine ⟨_, _, rfl, put_same, by simp, ?_⟩
  refine wss_cons (ws_expr (we_extend ?_))
  fail "v"
  refine ⟨q, _, rfl, put_same, we_lst ?_⟩
  repeat (first | fail "x" | refine wc_isiE (.inr ⟨_, rfl, rfl⟩) (T.er (clsN i) hm).ex ((T.kx (clsN i) hm).2 _ (by decide)) ?_)
  refine ⟨_, _, rfl, put_same, by simp, ?_⟩
  refine wss_cons (ws_expr (we_extend ?_))
  fail "v"
  refine ⟨q, _, rfl, put_same, we_lst ?_⟩
  repeat (first | fail "x" | refine wc_isiE (.inr ⟨_, rfl, rfl⟩) (T.er (clsN i) hm).ex ((T.kx (clsN i) hm).2 _ (by decide)) ?_)
  refine ⟨_, _, rfl, put_same, by simp, ?_⟩
  refine wss_frz 1 rfl put_same ?_
  refine wss_one (ws_ret (we_bin ?_))
  repeat fail "x"
  refine we_lst ?_
  repeat (first | fail "x" | refine wc_isiE (.inr ⟨_, rfl, rfl⟩) (T.er (clsN i) hm).ex ((T.kx (clsN i) hm).2 _ (by decide)) ?_)
  refine wo_catL (by simp) ?_
  repeat rw [era_over]
  exact h _ (era_keeps hq)
end
local macro_rules | `(tactic| fail "c") => `(tactic| ((with_reducible refine at_call "_law_marks" ?_); refine we_call (ok_law_marks (by assumption)) (Rm.mono (by assumption) (by decide)) rfl (Tx.g_law_marks (by assumption)).1 (Tx.g_law_marks (by assumption)).2 ?_))

local macro_rules | `(tactic| fail "c") => `(tactic| ((with_reducible refine at_call "_law_made" ?_); refine we_call (ok_law_made (by assumption)) (Rm.mono (by assumption) (by decide)) rfl (Tx.g_law_made (by assumption)).1 (Tx.g_law_made (by assumption)).2 ?_))
local macro_rules | `(tactic| fail "c") => `(tactic| ((with_reducible refine at_call "_law_marks" ?_); refine we_call (ok_law_marks (by assumption)) (Rm.mono (by assumption) (by decide)) rfl (Tx.g_law_marks (by assumption)).1 (Tx.g_law_marks (by assumption)).2 ?_))
theorem bls_py : ∀ bs : List Bool, arePy (bs.map D.bl) = true ∧ PyData.canLayAll0 (pys (bs.map D.bl)) = true ∧ PyData.depthAll (pys (bs.map D.bl)) = 0 ∧ PyData.eqvAll (pys (bs.map D.bl)) (pys (bs.map D.bl)) = true
  | [] => by simp [arePy, pys, PyData.canLayAll0, PyData.depthAll, PyData.eqvAll]
  | b :: bs => by
    obtain ⟨h1, h2, h3, h4⟩ := bls_py bs
    simp [arePy, pys, D.isPy, D.py, PyData.canLayAll0, PyData.canLay0, PyData.depthAll, PyData.depth, PyData.eqvAll, PyData.eqv, h1, h2, h3, h4]
theorem bls_isPy (bs : List Bool) : (D.lst (bs.map D.bl)).isPy = true := by rw [D.isPy]; exact (bls_py bs).1
theorem bls_shaped (bs : List Bool) : SeqAt.shaped (D.lst (bs.map D.bl)).py = true := by
  unfold SeqAt.shaped
  obtain ⟨h1, h2, h3, h4⟩ := bls_py bs
  rw [D.py, PyData.canLay0, PyData.depth, h2, h3]
  decide
theorem bls_eqv (bs : List Bool) : PyData.eqv (D.lst (bs.map D.bl)).py (D.lst (bs.map D.bl)).py = true := by
  rw [D.py, PyData.eqv]; exact (bls_py bs).2.2.2
theorem marks_upI : ∀ i, i < 25 → marks (i + 1) = (List.range 25).map fun k : Nat => decide ((i : Int) = (k : Int)) := by decide +kernel
def n_law_right : List Str := ["_law_pot_here", "_law_value_here", "_law_made_here", "_law_base", "_law_at", "_law_error", "_law_spot"]
def S_law_right : FS := fun ds M Φ => ∃ (p : Addr) (c : Nat), ds = [.ref p] ∧ c ≤ 800000 ∧ Pot M p c ∧ ∀ M', Pot M' p (c + 100) → Φ (.bl true) M'
theorem Pot.keeps {M M' : Mem} {p : Addr} {c : Nat} (h : Pot M p c) (k : ∀ a, M a ≠ none → M' a = M a) : Pot M' p c := by
  obtain ⟨o, sd, n, e, v⟩ := h
  exact ⟨o, sd, n, by rw [k p (by rw [e]; exact fun z => nomatch z)]; exact e, v⟩
section
local macro_rules | `(tactic| fail "v") => `(tactic| first
  | ((with_reducible refine at_name "_law_pot_here" ?_); refine we_var 0 rfl (by fail "vis") rfl ?_)
  | ((with_reducible refine at_name "_law_value_here" ?_); refine we_var 1 rfl (by fail "vis") rfl ?_)
  | ((with_reducible refine at_name "_law_made_here" ?_); refine we_var 2 rfl (by fail "vis") rfl ?_)
  | ((with_reducible refine at_name "_law_base" ?_); refine we_var 3 rfl (by fail "vis") rfl ?_)
  | ((with_reducible refine at_name "_law_at" ?_); refine we_var 4 rfl (by fail "vis") rfl ?_)
  | ((with_reducible refine at_name "_law_error" ?_); refine we_var 5 rfl (by fail "vis") rfl ?_)
  | ((with_reducible refine at_name "_law_spot" ?_); refine we_var 6 rfl (by fail "vis") rfl ?_))
theorem ok_law_right (T : Tx K mg) : FnG P w K mg base CX0 (8 + 1) (He.ga K "_law_right") (spD (Cs K) S_law_right) := by
  obtain ⟨fd, Fd⟩ := T.e_law_right
  have b := Fd.bindsN (ps := ["_law_pot_here"]) fun _ _ _ _ _ _ us hl => match us, hl with | [_], _ => rfl
  refine fn_D [] Fd sc_law_right b .nil (fun _ _ => .nil) (fun ds M Φ h => by obtain ⟨p, c, rfl, hc, hp, h⟩ := h; rfl) ?_
  rintro cdv A outer s H as M Φ hr ⟨p, c, rfl, hc, hp, h⟩
  refine wss_cons (ws_set 1 sc_law_right.nd rfl (.inl rfl) ?_)
  refine we_call (ok_law_value T 3) (hr.mono (by decide)) rfl (Tx.g_law_value T).1 (Tx.g_law_value T).2 ?_
  repeat fail "x"
  refine ⟨p, c, rfl, by omega, by decide, hp, fun v M1 hv t1 => ?_⟩
  refine wss_cons (ws_par 2 3 rfl sc_law_right.nd rfl rfl (by decide) rfl rfl rfl ?_)
  repeat fail "x"
  refine ⟨v, rfl, fun M2 k2 => ?_⟩
  repeat fail "x"
  refine ⟨_, _, rfl, ?_⟩
  have p2 : Pot M2 p (c + 53) := t1.pot.keeps k2
  refine wss_cons (ws_for PassesOwn.never rfl (wi_enum rfl T.f_enumerate ?_))
  fail "x"
  refine ⟨_, rfl, fun i ρ' M' => (∃ x y, ρ' = [some (.ref p), some v, some (.lst ((List.range 25).map fun i => .exc (i + 1) v)), some (.exc 0 v), x, y, none]) ∧ Pot M' p (c + 53), ⟨⟨_, _, rfl⟩, p2⟩, fun _ _ _ _ _ => trivial, ?_, ?_⟩
  · rintro i d ρ' M' hd ⟨⟨x, y, rfl⟩, hp'⟩
    have hi : i < 25 := by
      have := (List.getElem?_eq_some_iff.mp hd).1
      rw [numd_len, List.length_map, List.length_range] at this
      exact this
    have he : ((List.range 25).map fun i => D.exc (i + 1) v)[i]? = some (.exc (i + 1) v) := by rw [List.getElem?_map, List.getElem?_range hi]; rfl
    rw [numd_get he] at hd
    cases hd
    have hm := mem_errs (i + 1) (by omega)
    refine wg_tup rfl rfl (wgs_cons (wg_name 4 sc_law_right.nd rfl (.inr rfl) (wgs_cons (wg_name 5 sc_law_right.nd rfl (.inl rfl) (wgs_nil ?_)))))
    refine wss_cons (ws_if (WW.wt (ww_or (wt_cmp ?_))))
    repeat fail "x"
    refine ⟨i + 1, v, rfl, by omega, fun M3 k3 => ?_⟩
    have p3 := hp'.keeps k3
    refine we_lcR rfl sc_law_right.nd rfl (Tx.f_range (by assumption)) (blkOk_by (N := n_law_right) (sc := defScope s_law_right) (own := [("_law_spot", 6)]) (by decide +kernel)) (fun _ _ _ _ _ => pg_name (i := 6) sc_law_right.nd rfl (.inl rfl)) (tg_name (j := 6) (by decide)) ?_
    repeat fail "x"
    refine wc_lenL ?_
    rw [List.length_map, List.length_range]
    refine ⟨25, rfl, by rw [upTo_len]; decide, fun j acc M4 => M4 = M3 ∧ acc = ((List.range j).map fun k : Nat => decide ((i : Int) = (k : Int))).map D.bl, ⟨rfl, rfl⟩, ?_, ?_⟩
    · rintro j d acc M4 hd hl ⟨rfl, rfl⟩ s0 H0 C cl fp
      have hj : j < 25 := by
        have := (List.getElem?_eq_some_iff.mp hd).1
        rwa [upTo_len] at this
      rw [upTo_get hj] at hd
      cases hd
      repeat fail "x"
      refine ⟨rfl, ?_⟩
      rw [List.range_succ, List.map_append, List.map_append]
      rfl
    rintro acc M4 hl ⟨rfl, rfl⟩
    rw [upTo_len, marks_upI i hi]
    refine wo_neD hr (bls_isPy _) (bls_isPy _) (bls_shaped _) (bls_shaped _) ⟨_, rfl, fun z => ?_, fun _ => ww_or1 (wt_cmp ?_)⟩
    · rw [bls_eqv] at z; cases z
    repeat fail "x"
    refine wat_exc (T.er (clsN (i + 1)) hm) ?_
    repeat fail "x"
    refine wc_reprZ T.sm hr hv (by decide) (by decide) ?_
    repeat fail "x"
    refine wc_reprZ T.sm hr hv (by decide) (by decide) ?_
    repeat fail "x"
    refine ⟨_, rfl, fun z => ?_, fun _ => wss_nil ?_⟩
    · rw [decide_eq_true rfl] at z; cases z
    refine wss_one (ws_if (WW.wt (ww_or (wt_not (wt_val ?_)))))
    repeat fail "x"
    refine wc_isiE (.inr ⟨_, rfl, rfl⟩) (T.er (clsN (i + 1)) hm).ex ((T.kx (clsN (i + 1)) hm).2 "MeterError" (by decide)) ⟨_, rfl, fun z => ?_, fun _ => ww_or1 (wt_not (wt_val ?_))⟩
    · simp at z
    repeat fail "x"
    refine wc_isiE (.inl ⟨_, rfl, rfl⟩) (T.er (clsN (i + 1)) hm).ex (T.kx (clsN (i + 1)) hm).1 ⟨_, rfl, ?_⟩
    exact ⟨fun z => (by cases z), fun _ => wss_nil ⟨⟨_, _, rfl⟩, p3⟩⟩
  rintro ρ' M' ⟨⟨x, y, rfl⟩, hp'⟩
  refine wss_one (ws_ret (we_and ?_))
  have hm := mem_errs 0 (by decide)
  repeat fail "x"
  refine wat_exc (T.er (clsN 0) hm) ?_
  repeat fail "x"
  refine wc_reprZ T.sm hr hv (by decide) (by decide) ?_
  repeat fail "x"
  refine wc_reprZ T.sm hr hv (by decide) (by decide) ?_
  repeat fail "x"
  refine ⟨_, rfl, fun _ => we_and ?_, fun z => ?_⟩
  rotate_left
  · rw [decide_eq_true rfl] at z; cases z
  repeat fail "x"
  refine wc_isiE (.inl ⟨_, rfl, rfl⟩) (T.er (clsN 0) hm).ex (T.kx (clsN 0) hm).1 ⟨_, rfl, fun _ => we_one (we_not ?_), nofun⟩
  repeat fail "x"
  refine ⟨0, v, rfl, by decide, fun M3 k3 => ?_⟩
  refine wa_nil (wc_any rfl ⟨_, rfl, ?_⟩)
  rw [marks_no]
  exact h M3 ((hp'.keeps k3).mono (by omega))
end
local macro_rules | `(tactic| fail "c") => `(tactic| ((with_reducible refine at_call "_law_right" ?_); refine we_call (ok_law_right (by assumption)) (Rm.mono (by assumption) (by decide)) rfl (Tx.g_law_right (by assumption)).1 (Tx.g_law_right (by assumption)).2 ?_))

local macro_rules | `(tactic| fail "c") => `(tactic| ((with_reducible refine at_call "_law_right" ?_); refine we_call (ok_law_right (by assumption)) (Rm.mono (by assumption) (by decide)) rfl (Tx.g_law_right (by assumption)).1 (Tx.g_law_right (by assumption)).2 ?_))
theorem rep_map (n : Nat) (b : Bool) : List.replicate n (D.bl b) = (List.replicate n b).map D.bl := by rw [List.map_replicate]
theorem all_rep (n : Nat) : (List.replicate n true).all id = true := by simp
theorem any_rep (n : Nat) : (List.replicate n false).any id = false := by simp
def n_law : List Str := ["_law_script", "_law_place", "_law_pot_here", "_law_lap"]
def S_law : FS := fun ds M Φ => ∃ ns : List Int, ds = [.lst (ns.map D.int)] ∧ ns.length ≤ 1000 ∧ ∀ M', Φ (.bl true) M'
section
local macro_rules | `(tactic| fail "v") => `(tactic| first
  | ((with_reducible refine at_name "_law_script" ?_); refine we_var 0 rfl (by fail "vis") rfl ?_)
  | ((with_reducible refine at_name "_law_place" ?_); refine we_var 1 rfl (by fail "vis") rfl ?_)
  | ((with_reducible refine at_name "_law_pot_here" ?_); refine we_var 2 rfl (by fail "vis") rfl ?_)
  | ((with_reducible refine at_name "_law_lap" ?_); refine we_var 3 rfl (by fail "vis") rfl ?_))
theorem ok_law (T : Tx K mg) : FnG P w K mg base CX0 (9 + 1) (He.ga K "law") (spD (Cs K) S_law) := by
  obtain ⟨fd, Fd⟩ := T.e_law
  have b := Fd.bindsN (ps := ["_law_script"]) fun _ _ _ _ _ _ us hl => match us, hl with | [_], _ => rfl
  refine fn_D [] Fd sc_law b .nil (fun _ _ => .nil) (fun ds M Φ h => by obtain ⟨ns, rfl, hl, h⟩ := h; rfl) ?_
  rintro cdv A outer s H as M Φ hr ⟨ns, rfl, hl, h⟩
  refine wss_cons (ws_forL PassesOwn.never rfl ?_)
  repeat fail "x"
  refine ⟨ns, 4, rfl, by decide, fun k hk => ⟨_, rfl, fun i ρ' M' => ∃ x y, ρ' = [some (.lst (ns.map D.int)), x, y, none], ⟨none, none, rfl⟩, ?_, ?_⟩⟩
  · rintro i d ρ' M' hd ⟨x, y, rfl⟩
    obtain ⟨j, rfl, hj⟩ : ∃ j : Nat, d = .int j ∧ j ≤ 100 := by
      unfold DL.upTo at hd
      rw [List.getElem?_map] at hd
      obtain ⟨j, hj, rfl⟩ := Option.map_eq_some_iff.mp hd
      have := List.mem_range.mp (List.mem_of_getElem? hj)
      exact ⟨j, rfl, by omega⟩
    refine wg_name 1 sc_law.nd rfl (.inl rfl) ?_
    refine wss_cons (ws_set 2 sc_law.nd rfl (.inr rfl) ?_)
    repeat fail "x"
    refine ⟨ns, j, rfl, hj, hl, fun p o sd hp pv => ?_⟩
    refine wss_one (ws_if (wt_not (wt_val ?_)))
    fail "c"
    refine wa_cons (we_lcR rfl sc_law.nd rfl (Tx.f_range (by assumption)) (blkOk_by (N := n_law) (sc := defScope s_law) (own := [("_law_lap", 3)]) (by decide +kernel)) (fun _ _ _ _ _ => pg_name (i := 3) sc_law.nd rfl (.inl rfl)) (tg_name (j := 3) (by decide)) ?_)
    refine we_int ⟨3, rfl, by decide, fun i acc M5 => Pot M5 p (100 * i) ∧ acc = List.replicate i (.bl true), ⟨⟨o, sd, 0, put_same, pv⟩, rfl⟩, ?_, ?_⟩
    · rintro i d acc M5 hd hl ⟨hp5, rfl⟩ s0 H0 C cl fp
      have hi : i < 3 := by
        have := (List.getElem?_eq_some_iff.mp hd).1
        simpa [DL.upTo] using this
      repeat fail "x"
      exact ⟨p, 100 * i, rfl, by omega, hp5, fun M6 t6 => ⟨t6.mono (by omega), (List.replicate_succ' ..).symm⟩⟩
    rintro acc M5 hl ⟨_, rfl⟩
    rw [rep_map]
    refine wa_nil (wc_all rfl ⟨_, rfl, fun z => ?_, fun _ => wss_nil ⟨_, _, rfl⟩⟩)
    rw [all_rep] at z; cases z
  rintro ρ' M' ⟨x, y, rfl⟩
  refine wss_one (ws_ret (we_bl (h M')))
end
local macro_rules | `(tactic| fail "c") => `(tactic| ((with_reducible refine at_call "law" ?_); refine we_call (ok_law (by assumption)) (Rm.mono (by assumption) (by decide)) rfl (Tx.g_law (by assumption)).1 (Tx.g_law (by assumption)).2 ?_))


end Lw
namespace Lw
open PySem PySem.Spec PyProof.Rows L2 DL
abbrev hkN : PySem.W.Hook := hookX 6 fa fx fn fs
def obN (s : PySem.W.SharedT) : He.AlD := obsXG 6 fa fx fn fs (HandSHeadRun.getT s)
theorem obN_eq (s : PySem.W.SharedT) : obN s = hkN.obs s.abs := obsXG_eq (HandSHeadRun.getT_eq s)
theorem run (w : World) : HandSHeadRun.RunEq R (PySem.W.view R.prog [lawAt]) hkN obN 12000 loose w := by
  intro os
  kernel_rfl
end Lw
open PySem PySem.W PySem.Calls PyProof.Rows
theorem PySem.Challenge.cw_rangehunt_k08_errors_and_what_they_keep_holds : PySem.Challenge.rw_rangehunt_k08_errors_and_what_they_keep.Holds := by
  w_on; o_law
  refine HandSHeadRun.head_any (r := Lw.R) (q := view Lw.R.prog [Lw.lawAt]) (H := Lw.hkN) (ob := Lw.obN) (M := 12000) (loose := Lw.loose) (d := HandSHeadRun.topDef Lw.R.prog Lw.lawAt) (kwd := []) Lw.obN_eq
    (by kernel_rfl) (fun s => by kernel_rfl) Lw.run (by kernel_rfl) (by kernel_rfl) (by kernel_rfl) (by rfl) (by first | assumption | decide +kernel) (by decide +kernel) ⟨rfl, rfl, rfl, rfl, rfl, by decide +kernel⟩ ?hw ?hc
  case hw => w_witness2
  case hc =>
    refine DL.walk_X (l := PySem.Challenge.rw_rangehunt_k08_errors_and_what_they_keep) (n := 63) (k := 10) (S := Lw.S_law) (Cs := Lw.Cs) rfl (by decide) (by kernel_rfl) (by kernel_rfl) (DL.room0.mono (by decide)) ?F (fun ns h => ⟨ns, rfl, by omega, fun _ => rfl⟩)
    intro w K mg h base KX G c
    exact Lw.ok_law (Lw.tx_mk KX G c)
