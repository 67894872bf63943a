import PyProof.Rows.All
import Wide.All
import OpenK.AllK
import Wide.FinOn
import HandS.ForMost
import HandS.SlotsOwn
import HandS.Wide
import HandS.Exc
import KE.KeyNested
import HandS.Lambda
import HandS.NoneIn
import HandS.IsInst
import HandS.Star
import HandS.Defaults
import HandS.Conv
import HandS.RaiseMore
import KE.KStateDown
import Lean
import HandS.Head0
import HandS.Head1
import HandS.Head2
import HandS.HeadEnd
import HandS.HeadHook1
import HandS.HeadHook2
import HandS.HeadNt
import HandS.Style
import KE.KOpsOwn
import PyProof.InstNe
import HandS.DictComp
import HandS.Zip
import HandS.TupAny
import HandS.Deep
import HandS.FStr
import HandS.Small
import KE.KEqDict
import KE.KEqNest
import KE.KExcSuper
import HandS.ExcInit
import HandS.ExcIs
import HandS.ExcField
import HandS.ExcValue
import HandS.HeadHook4
import HandS.OwnEq
import KE.KDictList
import HandS.Codes
import HandS.Strs
import PyProof.Rows.TupTab
import PyProof.DictMoreH
import HandS.SetKeys
import KE.GoesMore
import HandS.TupSets
import KE.SortData
import HandS.EndTab
import PySem.Challenge.RW_rangehunt_k02_sources_put_together
set_option Elab.async false
set_option linter.all false
set_option maxRecDepth 100000
set_option maxHeartbeats 4000000
/-! A layer over HandS: what a def does, told of data alone. -/
namespace DL
open PySem PySem.Spec PyProof.Rows L2
/-- data: obj c ds is an instance with slots of the class number c, never changed; dct ks ds a dict, never changed; exc c d an exception of the class number c that keeps d; ref a an address as such -/
inductive D where
  | non | bl (b : Bool) | int (i : Int) | str (x : Str) | ty (n : String)
  | tup (ds : List D) | lst (ds : List D) | obj (c : Nat) (ds : List D) | ref (a : Addr)
  | dct (ks : List Key) (ds : List D) | exc (c : Nat) (d : D)
  | fn (o : Obj) (c : Addr) (q : Str)
/-- a def's object, as it was made -/
def FnO (o : Obj) (a : Addr) : HO := .ext fun h => h.get? a = some o
/-- an exception that is held: of the class at C, its dict at dd -/
def ExV (C dd a : Addr) : HO := .ext fun h => ∃ (oe : Obj) (vs : Array Value), h.get? a = some oe ∧ Zc (.ref C) (some dd) oe ∧ oe.data = .fields vs
mutual
inductive Rep (Cs : Nat → Addr) (Z : Addr → Prop) (H : Hp) : V → D → Prop
  | non : Rep Cs Z H .non .non
  | bl (b : Bool) : Rep Cs Z H (.bl b) (.bl b)
  | int (i : Int) : Rep Cs Z H (.int i) (.int i)
  | str (x : Str) : Rep Cs Z H (.str x) (.str x)
  | ty (n : String) : Rep Cs Z H (.ty n) (.ty n)
  | ref (a : Addr) : Rep Cs Z H (.ref a) (.ref a)
  | tup {a : Addr} {vs : List V} {ds : List D} (hz : ¬ Z a) (h : Rd H a (.tup vs)) (r : Reps Cs Z H vs ds) : Rep Cs Z H (.ref a) (.tup ds)
  | lst {a : Addr} {vs : List V} {ds : List D} (hz : ¬ Z a) (h : Rd H a (.lst vs)) (r : Reps Cs Z H vs ds) : Rep Cs Z H (.ref a) (.lst ds)
  | obj {a dx : Addr} {c : Nat} {vs : List V} {ds : List D} (hz : ¬ Z a) (hx : ¬ Z dx) (h : H a = some (SlX.SlO a (Cs c) dx (vs.map some))) (h2 : H dx = some (.xd [])) (r : Reps Cs Z H vs ds) : Rep Cs Z H (.ref a) (.obj c ds)
  | dct {a : Addr} {vs : List V} {ks : List Key} {ds : List D} (hz : ¬ Z a) (h : Rd H a (.dK (ks.zip vs))) (hl : ks.length = vs.length) (r : Reps Cs Z H vs ds) : Rep Cs Z H (.ref a) (.dct ks ds)
  | exc {a dd : Addr} {c : Nat} {v : V} {d : D} (hz : ¬ Z a) (hx : ¬ Z dd) (h : H a = some (ExV (Cs c) dd a)) (h2 : H dd = some (.xd [("value", v)])) (r : Rep Cs Z H v d) : Rep Cs Z H (.ref a) (.exc c d)
  | fn {a c : Addr} {o : Obj} {q : Str} (hz : ¬ Z a) (hx : ¬ Z c) (h : H a = some (FnO o a)) (h2 : H c = some (LamX.CodeO c q)) : Rep Cs Z H (.ref a) (.fn o c q)
inductive Reps (Cs : Nat → Addr) (Z : Addr → Prop) (H : Hp) : List V → List D → Prop
  | nil : Reps Cs Z H [] []
  | cons {v : V} {d : D} {vs : List V} {ds : List D} (h : Rep Cs Z H v d) (r : Reps Cs Z H vs ds) : Reps Cs Z H (v :: vs) (d :: ds)
end
/-- what is owned: it may change -/
inductive MO where
  | lst (ds : List D)
  | slt (c : Nat) (dx : Addr) (os : List (Option D))
  | aux (a : Addr)
  | dct (ks : List Key) (ds : List D)
  | ins (c : Nat) (dx : Addr) (ns : List Str) (ds : List D)
  | dcn (ks ds : List D)
  | tpz (ss : List Str)
  | dcz (o : Obj) (ks ds : List D)
  | tab (q : Str)
/-- the own dict of an instance that is owned -/
def MO.dxo : MO → Option Addr
  | .slt _ dx _ => some dx
  | .ins _ dx _ _ => some dx
  | _ => none
abbrev Mem := Addr → Option MO
def put (M : Mem) (a : Addr) (m : MO) : Mem := fun b => if b = a then some m else M b
def era (M : Mem) (a : Addr) : Mem := fun b => if b = a then none else M b
theorem put_same {M : Mem} {a : Addr} {m : MO} : put M a m a = some m := by unfold put; rw [if_pos rfl]
theorem put_ne {M : Mem} {a b : Addr} {m : MO} (h : b ≠ a) : put M a m b = M b := by unfold put; rw [if_neg h]
theorem era_same {M : Mem} {a : Addr} : era M a a = none := by unfold era; rw [if_pos rfl]
theorem era_ne {M : Mem} {a b : Addr} (h : b ≠ a) : era M a b = M b := by unfold era; rw [if_neg h]
theorem put_put {M : Mem} {a : Addr} {m n : MO} : put (put M a m) a n = put M a n := by
  funext b; unfold put; split <;> rfl
theorem era_put {M : Mem} {a : Addr} {m : MO} (h : M a = none) : era (put M a m) a = M := by
  funext b; unfold era put
  by_cases e : b = a
  · subst e; rw [if_pos rfl, h]
  · rw [if_neg e, if_neg e]
/-- o stays, or is a dict that is locked from now on -/
def Kp (o : HO) (x : Option HO) : Prop := x = some o ∨ ∃ od kvs, o = .dK kvs ∧ x = some (.frz od o)
theorem Kp.some {o : HO} {x : Option HO} (k : Kp o x) : x ≠ none := by
  rcases k with k | ⟨_, _, _, k⟩ <;> (rw [k]; exact fun z => nomatch z)
theorem Kp.eq {o : HO} {x : Option HO} (k : Kp o x) (h : ∀ kvs, o ≠ .dK kvs) : x = Option.some o := by
  rcases k with k | ⟨_, kvs, e, _⟩
  · exact k
  · exact absurd e (h kvs)
/-- what a step may do: all that is not owned stays; what is owned behind was owned ahead, or is new -/
structure Post (M : Mem) (H : Hp) (M' : Mem) (H' : Hp) : Prop where
  ex : ∀ a o, M a = none → H a = some o → Kp o (H' a)
  new : ∀ a, M' a ≠ none → M a ≠ none ∨ H a = none
/-- what is fixed around: the classes' addresses, the world, and what is known of all that comes (closed under steps) -/
structure Gc where
  at_ : Nat → Addr
  w : World
  gh : (Addr → Prop) → Mem → Hp → Prop
  cl : ∀ F M H M1 H1, gh F M H → Post M H M1 H1 → gh F M1 H1
  up : ∀ F F' M H, (∀ a, F a → F' a) → gh F M H → gh F' M H
instance : CoeFun Gc (fun _ => Nat → Addr) := ⟨Gc.at_⟩
instance : Coe Gc (Nat → Addr) := ⟨Gc.at_⟩
def Gc.base (f : Nat → Addr) (w : World) : Gc := ⟨f, w, fun _ _ _ => True, fun _ _ _ _ _ _ _ => trivial, fun _ _ _ _ _ _ => trivial⟩
/-! texts and tuples of them, nested, as keys -/
mutual
def okT : D → Bool
  | .str _ => true
  | .tup ds => okTs ds
  | _ => false
def okTs : List D → Bool
  | [] => true
  | d :: ds => okT d && okTs ds
end
mutual
def nk : D → NestedKey
  | .str x => .text x
  | .tup ds => .tup (nks ds)
  | _ => .none
def nks : List D → List NestedKey
  | [] => []
  | d :: ds => nk d :: nks ds
end
/-- a dict with such keys, without the keys themselves -/
def dn0 (w : World) (h : Heap) (a : Addr) (us : List (NestedKey × Addr × Value)) : Prop := ∃ o es ep, h.get? a = some o ∧ o.ExactDict ∧ o.data = .dict es ep ∧ es.toList = us.map (fun u => ⟨u.1.hash w, .ref u.2.1, u.2.2⟩) ∧ (us.map (·.1)).Nodup ∧ (a == sysModules) = false ∧ us.length ≤ sizeLine
def dnO (w : World) (a : Addr) (xs : List (NestedKey × Addr × V)) : HO := .ext fun h => ∃ us : List (NestedKey × Addr × Value), us.map (fun u => (u.1, u.2.1)) = xs.map (fun x => (x.1, x.2.1)) ∧ Vals (xs.map fun x => x.2.2) (us.map fun u => u.2.2) ∧ dn0 w h a us
/-- what a datum keeps away from: what others own, what is owned -/
def Zf (F : Addr → Prop) (M : Mem) (a : Addr) : Prop := F a ∨ M a ≠ none
section
inductive RepO (Cs : Nat → Addr) (Z : Addr → Prop) (H : Hp) : List (Option V) → List (Option D) → Prop
  | nil : RepO Cs Z H [] []
  | none {vs : List (Option V)} {ds : List (Option D)} (r : RepO Cs Z H vs ds) : RepO Cs Z H (Option.none :: vs) (Option.none :: ds)
  | some {v : V} {d : D} {vs : List (Option V)} {ds : List (Option D)} (h : Rep Cs Z H v d) (r : RepO Cs Z H vs ds) : RepO Cs Z H (Option.some v :: vs) (Option.some d :: ds)
/-- a table of code objects: all bear the name q -/
def TabK (F : Addr → Prop) (M : Mem) (H : Hp) (a : Addr) (q : Str) : Prop := ∃ ps : Array Value, H a = some (.tbl ps) ∧ TriplesOk ps.toList ∧ ∀ (pos : Pos) (cv : Value), codeAmong pos ps.toList = some cv → ∃ c, cv = .ref c ∧ ¬ Zf F M c ∧ H c = some (LamX.CodeO c q)
variable (Cs : Gc)
def MOk (F : Addr → Prop) (M : Mem) (H : Hp) (a : Addr) : MO → Prop
  | .lst ds => ∃ vs, H a = some (.lst vs) ∧ Reps Cs (Zf F M) H vs ds
  | .slt c dx os => dx ≠ a ∧ M dx = some (.aux a) ∧ ∃ vs, SlX.Slt H a (Cs c) dx vs ∧ RepO Cs (Zf F M) H vs os
  | .aux _ => ∃ o, H a = some o
  | .dct ks ds => ∃ vs, H a = some (.dK (ks.zip vs)) ∧ ks.length = vs.length ∧ Reps Cs (Zf F M) H vs ds
  | .ins c dx ns ds => dx ≠ a ∧ M dx = some (.aux a) ∧ ∃ vs, H a = some (.ins (Cs c) dx (ns.zip vs)) ∧ H dx = some (.own a) ∧ ns.length = vs.length ∧ Reps Cs (Zf F M) H vs ds
  | .dcn ks ds => ∃ xs : List (NestedKey × Addr × V), H a = some (dnO Cs.w a xs) ∧ xs.map (·.1) = ks.map nk ∧ (∀ k ∈ ks, okT k = true ∧ (nk k).depth ≤ 8) ∧ Reps Cs (Zf F M) H (xs.map fun x => V.ref x.2.1) ks ∧ Reps Cs (Zf F M) H (xs.map fun x => x.2.2) ds
  | .dcz o ks ds => ∃ xs : List (NestedKey × Addr × V), H a = some (.frz o (dnO Cs.w a xs)) ∧ xs.map (·.1) = ks.map nk ∧ (∀ k ∈ ks, okT k = true ∧ (nk k).depth ≤ 8) ∧ Reps Cs (Zf F M) H (xs.map fun x => V.ref x.2.1) ks ∧ Reps Cs (Zf F M) H (xs.map fun x => x.2.2) ds
  | .tpz ss => ∃ o, H a = some (.frz o (.tup (ss.map V.str))) ∧ o.dict = none
  | .tab q => TabK F M H a q
structure MemAt (F : Addr → Prop) (M : Mem) (H : Hp) : Prop where
  at_ : ∀ a m, M a = some m → MOk Cs F M H a m
  ff : ∀ a, F a → M a = none ∧ H a ≠ none
  gh : Cs.gh F M H
abbrev Env := List (Option D)
structure At (F : Addr → Prop) (M : Mem) (H : Hp) (σ : L2.St) (ρ : Env) : Prop where
  mem : MemAt Cs F M H
  len : σ.length = ρ.length
  env : ∀ (i : Nat) (d : D), ρ[i]? = some (some d) → ∃ v, σ[i]? = some (some v) ∧ Rep Cs (Zf F M) H v d
end
section
variable {Cs : Gc} {F : Addr → Prop} {M M1 M2 : Mem} {H H1 H2 : Hp}
theorem MOk.aux {a dx : Addr} {n : MO} (h : MOk Cs F M H a n) (e : n.dxo = some dx) : dx ≠ a ∧ M dx = some (.aux a) := by
  cases n with
  | slt c d os => cases e; exact ⟨h.1, h.2.1⟩
  | ins c d ns ds => cases e; exact ⟨h.1, h.2.1⟩
  | lst ds => cases e
  | aux y => cases e
  | dct ks ds => cases e
  | dcn ks ds => cases e
  | dcz oz ks ds => cases e
  | tpz ss => cases e
  | tab q => cases e
theorem MOk.there {a : Addr} {n : MO} (h : MOk Cs F M H a n) : ∃ o, H a = some o := by
  cases n with
  | slt c d os =>
    obtain ⟨_, _, vs, z, _⟩ := h
    rcases z with ⟨z, _⟩ | ⟨z, _⟩ <;> exact ⟨_, z⟩
  | ins c d ns ds => obtain ⟨_, _, vs, z, _⟩ := h; exact ⟨_, z⟩
  | lst ds => obtain ⟨vs, z, _⟩ := h; exact ⟨_, z⟩
  | aux y => exact h
  | dct ks ds => obtain ⟨vs, z, _⟩ := h; exact ⟨_, z⟩
  | dcn ks ds => obtain ⟨vs, z, _⟩ := h; exact ⟨_, z⟩
  | dcz oz ks ds => obtain ⟨vs, z, _⟩ := h; exact ⟨_, z⟩
  | tpz ss => obtain ⟨vs, z, _⟩ := h; exact ⟨_, z⟩
  | tab q => obtain ⟨vs, z, _⟩ := h; exact ⟨_, z⟩
theorem Post.refl : Post M H M H := ⟨fun _ _ _ h => .inl h, fun _ h => .inl h⟩
theorem Post.trans (a : Post M H M1 H1) (b : Post M1 H1 M2 H2) : Post M H M2 H2 where
  ex := fun x o hm h => by
    have h1 : M1 x = none := by
      cases e : M1 x with
      | none => rfl
      | some m =>
        rcases a.new x (by rw [e]; exact fun z => nomatch z) with z | z
        · exact absurd hm z
        · rw [z] at h; cases h
    rcases a.ex x o hm h with k | ⟨od, kvs, e, k⟩
    · exact b.ex x o h1 k
    · exact .inr ⟨od, kvs, e, (b.ex x _ h1 k).eq fun _ z => nomatch z⟩
  new := fun x hm => by
    rcases b.new x hm with z | z
    · exact a.new x z
    · by_cases hx : M x = none
      · refine .inr ?_
        cases e : H x with
        | none => rfl
        | some o => exact absurd z (a.ex x o hx e).some
      · exact .inl hx
theorem Post.keep (p : Post M H M1 H1) {x : Addr} {o : HO} (hm : M x = none) (h : H x = some o) (n : ∀ kvs, o ≠ .dK kvs) : H1 x = some o := (p.ex x o hm h).eq n
/-- less is owned -/
theorem Post.sub (h : ∀ a, M1 a ≠ none → M a ≠ none) : Post M H M1 H := ⟨fun _ _ _ h => .inl h, fun a q => .inl (h a q)⟩
theorem rd_ex {a : Addr} {u : HO} (p : Post M H M1 H1) (hz : ¬ Zf F M a) (h : Rd H a u) : Rd H1 a u ∧ ¬ Zf F M1 a := by
  have hm : M a = none := Classical.byContradiction fun q => hz (.inr q)
  have hs : H a ≠ none := by
    rcases h with h | ⟨o, h⟩ <;> (rw [h]; exact fun z => nomatch z)
  refine ⟨?_, fun q => ?_⟩
  · rcases h with h | ⟨o, h⟩
    · rcases p.ex a _ hm h with k | ⟨od, kvs, e, k⟩
      · exact .inl k
      · exact .inr ⟨od, k⟩
    · exact .inr ⟨o, p.keep hm h fun _ z => nomatch z⟩
  · rcases q with q | q
    · exact hz (.inl q)
    · rcases p.new a q with z | z
      · exact hz (.inr z)
      · exact hs z
theorem TabK.go {a : Addr} {q : Str} (p : Post M H M1 H1) (t : TabK F M H a q) (k : ∀ o, H a = some o → H1 a = some o) : TabK F M1 H1 a q := by
  obtain ⟨ps, e1, e2, e3⟩ := t
  refine ⟨ps, k _ e1, e2, fun pos cv hc => ?_⟩
  obtain ⟨c, r1, r2, r3⟩ := e3 pos cv hc
  exact ⟨c, r1, (rd_ex p r2 (.inl r3)).2, p.keep (Classical.byContradiction fun z => r2 (.inr z)) r3 fun _ z => nomatch z⟩
mutual
theorem Rep.go (p : Post M H M1 H1) : ∀ {v : V} {d : D}, Rep Cs (Zf F M) H v d → Rep Cs (Zf F M1) H1 v d
  | _, _, .non => .non
  | _, _, .bl b => .bl b
  | _, _, .int i => .int i
  | _, _, .str x => .str x
  | _, _, .ty n => .ty n
  | _, _, .ref a => .ref a
  | _, _, .tup hz h r => .tup (rd_ex p hz h).2 (rd_ex p hz h).1 (Reps.go p r)
  | _, _, .lst hz h r => .lst (rd_ex p hz h).2 (rd_ex p hz h).1 (Reps.go p r)
  | _, _, .obj hz hx h h2 r => .obj (rd_ex p hz (.inl h)).2 (rd_ex p hx (.inl h2)).2 (p.keep (Classical.byContradiction fun q => hz (.inr q)) h fun _ z => nomatch z) (p.keep (Classical.byContradiction fun q => hx (.inr q)) h2 fun _ z => nomatch z) (Reps.go p r)
  | _, _, .dct hz h hl r => .dct (rd_ex p hz h).2 (rd_ex p hz h).1 hl (Reps.go p r)
  | _, _, .exc hz hx h h2 r => .exc (rd_ex p hz (.inl h)).2 (rd_ex p hx (.inl h2)).2 (p.keep (Classical.byContradiction fun q => hz (.inr q)) h fun _ z => nomatch z) (p.keep (Classical.byContradiction fun q => hx (.inr q)) h2 fun _ z => nomatch z) (Rep.go p r)
  | _, _, .fn hz hx h h2 => .fn (rd_ex p hz (.inl h)).2 (rd_ex p hx (.inl h2)).2 (p.keep (Classical.byContradiction fun q => hz (.inr q)) h fun _ z => nomatch z) (p.keep (Classical.byContradiction fun q => hx (.inr q)) h2 fun _ z => nomatch z)
theorem Reps.go (p : Post M H M1 H1) : ∀ {vs : List V} {ds : List D}, Reps Cs (Zf F M) H vs ds → Reps Cs (Zf F M1) H1 vs ds
  | _, _, .nil => .nil
  | _, _, .cons h r => .cons (Rep.go p h) (Reps.go p r)
end
theorem RepO.go (p : Post M H M1 H1) : ∀ {vs : List (Option V)} {ds : List (Option D)}, RepO Cs (Zf F M) H vs ds → RepO Cs (Zf F M1) H1 vs ds
  | _, _, .nil => .nil
  | _, _, .none r => .none (RepO.go p r)
  | _, _, .some h r => .some (h.go p) (RepO.go p r)
theorem At.go {σ : L2.St} {ρ : Env} (A : At Cs F M H σ ρ) (p : Post M H M1 H1) (m : MemAt Cs F M1 H1) : At Cs F M1 H1 σ ρ :=
  ⟨m, A.len, fun i d e => let ⟨v, h1, h2⟩ := A.env i d e; ⟨v, h1, h2.go p⟩⟩
theorem Reps.length : ∀ {Z : Addr → Prop} {vs : List V} {ds : List D}, Reps Cs Z H vs ds → vs.length = ds.length
  | _, _, _, .nil => rfl
  | _, _, _, .cons _ r => congrArg Nat.succ (Reps.length r)
theorem Reps.get : ∀ {Z : Addr → Prop} {vs : List V} {ds : List D} {i : Nat} {d : D}, Reps Cs Z H vs ds → ds[i]? = some d → ∃ v, vs[i]? = some v ∧ Rep Cs Z H v d
  | _, _, _, _, _, .nil, e => by simp at e
  | _, _, _, 0, _, .cons h _, e => by simp at e; subst e; exact ⟨_, rfl, h⟩
  | _, _, _, i + 1, d, .cons _ r, e => by
    obtain ⟨v, h1, h2⟩ := Reps.get (i := i) (d := d) r (by simpa using e)
    exact ⟨v, by simpa using h1, h2⟩
theorem Reps.getV : ∀ {Z : Addr → Prop} {vs : List V} {ds : List D} {i : Nat} {v : V}, Reps Cs Z H vs ds → vs[i]? = some v → ∃ d, ds[i]? = some d ∧ Rep Cs Z H v d
  | _, _, _, _, _, .nil, e => by simp at e
  | _, _, _, 0, _, .cons h _, e => by simp at e; subst e; exact ⟨_, rfl, h⟩
  | _, _, _, i + 1, v, .cons _ r, e => by
    obtain ⟨d, h1, h2⟩ := Reps.getV (i := i) (v := v) r (by simpa using e)
    exact ⟨d, by simpa using h1, h2⟩
theorem Reps.append : ∀ {Z : Addr → Prop} {vs ws : List V} {ds es : List D}, Reps Cs Z H vs ds → Reps Cs Z H ws es → Reps Cs Z H (vs ++ ws) (ds ++ es)
  | _, _, _, _, _, .nil, q => q
  | _, _, _, _, _, .cons h r, q => .cons h (Reps.append r q)
theorem Reps.set : ∀ {Z : Addr → Prop} {vs : List V} {ds : List D} {v : V} {d : D} (i : Nat), Reps Cs Z H vs ds → Rep Cs Z H v d → Reps Cs Z H (vs.set i v) (ds.set i d)
  | _, _, _, _, _, _, .nil, _ => .nil
  | _, _, _, _, _, 0, .cons _ r, q => .cons q r
  | _, _, _, _, _, i + 1, .cons h r, q => .cons h (Reps.set i r q)
/-- nothing but a changes -/
theorem MemAt.go (m : MemAt Cs F M H) (p : Post M H M1 H1) (k : ∀ a n, M1 a = some n → (M a = some n ∧ (∀ o, H a = some o → H1 a = some o) ∧ ∀ dx, n.dxo = some dx → (∀ o, H dx = some o → H1 dx = some o) ∧ M1 dx = some (.aux a)) ∨ MOk Cs F M1 H1 a n) : MemAt Cs F M1 H1 := by
  refine ⟨fun a n e => ?_, fun a h => ?_, Cs.cl _ _ _ _ _ m.gh p⟩
  rotate_left
  · obtain ⟨z1, z2⟩ := m.ff a h
    refine ⟨Classical.byContradiction fun q => ?_, fun q => ?_⟩
    · rcases p.new a q with z | z
      · exact z z1
      · exact z2 z
    · obtain ⟨o, ho⟩ := Option.ne_none_iff_exists'.mp z2
      exact (p.ex a o z1 ho).some q
  rcases k a n e with ⟨h1, h2, h3⟩ | h
  · have q := m.at_ a n h1
    cases n with
    | lst ds =>
      obtain ⟨vs, e1, r⟩ := q
      exact ⟨vs, h2 _ e1, r.go p⟩
    | slt c dx os =>
      obtain ⟨hne, hz, vs, hs, r⟩ := q
      obtain ⟨h4, h5⟩ := h3 dx rfl
      refine ⟨hne, h5, vs, ?_, r.go p⟩
      rcases hs with ⟨h6, h7⟩ | ⟨h6, h7⟩
      · exact .inl ⟨h2 _ h6, h7⟩
      · exact .inr ⟨h2 _ h6, h4 _ h7⟩
    | aux y =>
      obtain ⟨o, e1⟩ := q
      exact ⟨o, h2 _ e1⟩
    | dct ks ds =>
      obtain ⟨vs, e1, hl, r⟩ := q
      exact ⟨vs, h2 _ e1, hl, r.go p⟩
    | ins c dx ns ds =>
      obtain ⟨hne, hz, vs, e1, e2, hl, r⟩ := q
      obtain ⟨h4, h5⟩ := h3 dx rfl
      exact ⟨hne, h5, vs, h2 _ e1, h4 _ e2, hl, r.go p⟩
    | dcn ks ds =>
      obtain ⟨xs, e1, e2, e3, r1, r2⟩ := q
      exact ⟨xs, h2 _ e1, e2, e3, r1.go p, r2.go p⟩
    | dcz oz ks ds =>
      obtain ⟨xs, e1, e2, e3, r1, r2⟩ := q
      exact ⟨xs, h2 _ e1, e2, e3, r1.go p, r2.go p⟩
    | tpz ss =>
      obtain ⟨o, e1, e2⟩ := q
      exact ⟨o, h2 _ e1, e2⟩
    | tab nm => exact TabK.go p q h2
  · exact h
end
end DL
namespace DL
open PySem PySem.Spec PyProof.Rows L2
/-! ### what a piece of syntax does, as a reading of itself -/
def semE (X : Cx) (e : Expr) : TE := fun σ H Q => ∀ pins s, Inv X pins σ H s → wpAny (model X.prog X.w) X.A (eval e X.env) (EP X pins σ Q) X.xe s
def semT (X : Cx) (e : Expr) : TT := fun σ H Q => ∀ pins s, Inv X pins σ H s → wpAny (model X.prog X.w) X.A (isTrue e X.env (eval e X.env)) (TP X pins σ Q) X.xe s
def semW (X : Cx) (e : Expr) : TT := fun σ H Q => ∀ whole pins s, Inv X pins σ H s → wpAny (model X.prog X.w) X.A (isTrue e X.env whole) (TP X pins σ Q) X.xe s
def semA (X : Cx) (es : List Expr) : TA := fun σ H Q => ∀ pos pins s, Inv X pins σ H s → wpAny (model X.prog X.w) X.A (spliced (backTo pos (starEach es X.env))) (AP X pins σ Q) X.xe s
def semS (X : Cx) (st : Stmt) : TS := fun D σ H => ∀ pins s, Inv X pins σ H s → wpAny (model X.prog X.w) X.A (exec st X.env) (SP X pins D) X.xe s
def semSs (X : Cx) (sts : List Stmt) : TS := fun D σ H => ∀ pins s, Inv X pins σ H s → wpAny (model X.prog X.w) X.A (execs sts X.env) (SP X pins D) X.xe s
def semO (X : Cx) (f : Value → Value → Sem Value) : R2 := fun x y H Q => ∀ pins s σ v u, Inv X pins σ H s → RelV x v → RelV y u → wpAny (model X.prog X.w) X.A (f v u) (EP X pins σ Q) X.xe s
def semU (X : Cx) (f : Value → Sem Value) : V → Hp → VK → Prop := fun x H Q => ∀ pins s σ v, Inv X pins σ H s → RelV x v → wpAny (model X.prog X.w) X.A (f v) (EP X pins σ Q) X.xe s
def semC (X : Cx) (f : Value) : List V → Hp → VK → Prop := fun xs H Q => ∀ pins s σ us, Inv X pins σ H s → Vals xs us → wpAny (model X.prog X.w) X.A (call f us) (EP X pins σ Q) X.xe s
def semIx (X : Cx) : R2 := fun x y H Q => ∀ value slice pins s σ v u, Inv X pins σ H s → RelV x v → RelV y u → subscripted slice false v u = operate [v, u] (getItem v u) → wpAny (model X.prog X.w) X.A (subscriptTail value slice v u) (EP X pins σ Q) X.xe s
section
variable {X : Cx} {e : Expr} {es : List Expr} {st : Stmt} {sts : List Stmt}
theorem pe_sem : PE X e (semE X e) := ⟨fun pins s _ _ _ I h => h pins s I⟩
theorem pt_sem : PT X e (semT X e) := ⟨fun pins s _ _ _ I h => h pins s I⟩
theorem pw_sem : PW X e (semW X e) := ⟨fun w pins s _ _ _ I h => h w pins s I⟩
theorem pa_sem : PA X es (semA X es) := ⟨fun pos pins s _ _ _ I h => h pos pins s I⟩
theorem ps_sem : PS X st (semS X st) := ⟨fun pins s _ _ _ I h => h pins s I⟩
theorem pss_sem : PSs X sts (semSs X sts) := ⟨fun pins s _ _ _ I h => h pins s I⟩
theorem op_sem {f : Value → Value → Sem Value} : OpR X f (semO X f) := fun pins s σ _ _ _ v u _ I rx ry h => h pins s σ v u I rx ry
theorem un_sem {f : Value → Sem Value} : UnR X f (semU X f) := fun pins s σ _ _ v _ I rx h => h pins s σ v I rx
theorem call_sem {f : Value} : CallR X f (semC X f) := fun pins s σ _ _ us _ I r h => h pins s σ us I r
theorem ix_sem : IxR X (semIx X) := fun value slice pins s σ _ _ _ v u _ I rx ry h hs => h value slice pins s σ v u I rx ry hs
variable {σ : L2.St} {H : Hp}
theorem _root_.L2.PE.sem {t : TE} {Q : VK} (p : PE X e t) (h : t σ H Q) : semE X e σ H Q := fun pins s I => p.run pins s σ H Q I h
theorem _root_.L2.PT.sem {t : TT} {Q : Bool → Hp → Prop} (p : PT X e t) (h : t σ H Q) : semT X e σ H Q := fun pins s I => p.run pins s σ H Q I h
theorem _root_.L2.PW.sem {t : TT} {Q : Bool → Hp → Prop} (p : PW X e t) (h : t σ H Q) : semW X e σ H Q := fun w pins s I => p.run w pins s σ H Q I h
theorem _root_.L2.PA.sem {t : TA} {Q : List V → Hp → Prop} (p : PA X es t) (h : t σ H Q) : semA X es σ H Q := fun pos pins s I => p.run pos pins s σ H Q I h
theorem _root_.L2.PS.sem {t : TS} {D : Ends} (p : PS X st t) (h : t D σ H) : semS X st D σ H := fun pins s I => p.run pins s σ H D I h
theorem _root_.L2.PSs.sem {t : TS} {D : Ends} (p : PSs X sts t) (h : t D σ H) : semSs X sts D σ H := fun pins s I => p.run pins s σ H D I h
theorem _root_.L2.OpR.sem {f : Value → Value → Sem Value} {r : R2} {x y : V} {Q : VK} (p : OpR X f r) (h : r x y H Q) : semO X f x y H Q := fun pins s σ v u I rx ry => p pins s σ H x y v u Q I rx ry h
theorem _root_.L2.UnR.sem {f : Value → Sem Value} {r : V → Hp → VK → Prop} {x : V} {Q : VK} (p : UnR X f r) (h : r x H Q) : semU X f x H Q := fun pins s σ v I rx => p pins s σ H x v Q I rx h
theorem _root_.L2.CallR.sem {f : Value} {r : List V → Hp → VK → Prop} {xs : List V} {Q : VK} (p : CallR X f r) (h : r xs H Q) : semC X f xs H Q := fun pins s σ us I rx => p pins s σ H xs us Q I rx h
theorem _root_.L2.IxR.sem {r : R2} {x y : V} {Q : VK} (p : IxR X r) (h : r x y H Q) : semIx X x y H Q := fun value slice pins s σ v u I rx ry hs => p value slice pins s σ H x y v u Q I rx ry h hs
end
/-! ### the judgements -/
theorem sz_of {n : Nat} (h : n ≤ 100000) : n ≤ sizeLine := Nat.le_trans h (by decide)
section
variable (Cs : Gc)
def Res (F : Addr → Prop) (M : Mem) (H : Hp) (Φ : D → Mem → Prop) (Q : VK) : Prop := ∀ v d H' M', Post M H M' H' → MemAt Cs F M' H' → Rep Cs (Zf F M') H' v d → Φ d M' → Q v H'
def ResT (F : Addr → Prop) (M : Mem) (H : Hp) (Ψ : Bool → Mem → Prop) (Q : Bool → Hp → Prop) : Prop := ∀ b H' M', Post M H M' H' → MemAt Cs F M' H' → Ψ b M' → Q b H'
def ResA (F : Addr → Prop) (M : Mem) (H : Hp) (Φ : List D → Mem → Prop) (Q : List V → Hp → Prop) : Prop := ∀ vs ds H' M', Post M H M' H' → MemAt Cs F M' H' → Reps Cs (Zf F M') H' vs ds → Φ ds M' → Q vs H'
structure DE where
  nx : Env → Mem → Prop
  rt : D → Mem → Prop
  bk : Env → Mem → Prop := fun _ _ => False
  ct : Env → Mem → Prop := fun _ _ => False
structure EndsOk (F : Addr → Prop) (M : Mem) (H : Hp) (E : DE) (Dn : Ends) : Prop where
  nx : ∀ σ' ρ' H' M', Post M H M' H' → At Cs F M' H' σ' ρ' → E.nx ρ' M' → Dn.nx σ' H'
  rt : Res Cs F M H E.rt Dn.rt
  bk : ∀ σ' ρ' H' M', Post M H M' H' → At Cs F M' H' σ' ρ' → E.bk ρ' M' → Dn.bk σ' H'
  ct : ∀ σ' ρ' H' M', Post M H M' H' → At Cs F M' H' σ' ρ' → E.ct ρ' M' → Dn.ct σ' H'
structure WE (X : Cx) (e : Expr) (ρ : Env) (M : Mem) (Φ : D → Mem → Prop) : Prop where
  run : ∀ (F : Addr → Prop) σ H, At Cs F M H σ ρ → ∀ Q, Res Cs F M H Φ Q → semE X e σ H Q
structure WT (X : Cx) (e : Expr) (ρ : Env) (M : Mem) (Ψ : Bool → Mem → Prop) : Prop where
  run : ∀ (F : Addr → Prop) σ H, At Cs F M H σ ρ → ∀ Q, ResT Cs F M H Ψ Q → semT X e σ H Q
structure WW (X : Cx) (e : Expr) (ρ : Env) (M : Mem) (Ψ : Bool → Mem → Prop) : Prop where
  run : ∀ (F : Addr → Prop) σ H, At Cs F M H σ ρ → ∀ Q, ResT Cs F M H Ψ Q → semW X e σ H Q
structure WA (X : Cx) (es : List Expr) (ρ : Env) (M : Mem) (Φ : List D → Mem → Prop) : Prop where
  run : ∀ (F : Addr → Prop) σ H, At Cs F M H σ ρ → ∀ Q, ResA Cs F M H Φ Q → semA X es σ H Q
structure WS (X : Cx) (st : Stmt) (ρ : Env) (M : Mem) (E : DE) : Prop where
  run : ∀ (F : Addr → Prop) σ H, At Cs F M H σ ρ → ∀ Dn, EndsOk Cs F M H E Dn → semS X st Dn σ H
structure WSs (X : Cx) (sts : List Stmt) (ρ : Env) (M : Mem) (E : DE) : Prop where
  run : ∀ (F : Addr → Prop) σ H, At Cs F M H σ ρ → ∀ Dn, EndsOk Cs F M H E Dn → semSs X sts Dn σ H
structure WO (X : Cx) (f : Value → Value → Sem Value) (x y : D) (M : Mem) (Φ : D → Mem → Prop) : Prop where
  run : ∀ (F : Addr → Prop) H vx vy, MemAt Cs F M H → Rep Cs (Zf F M) H vx x → Rep Cs (Zf F M) H vy y → ∀ Q, Res Cs F M H Φ Q → semO X f vx vy H Q
structure WU (X : Cx) (f : Value → Sem Value) (x : D) (M : Mem) (Φ : D → Mem → Prop) : Prop where
  run : ∀ (F : Addr → Prop) H vx, MemAt Cs F M H → Rep Cs (Zf F M) H vx x → ∀ Q, Res Cs F M H Φ Q → semU X f vx H Q
structure WC (X : Cx) (f : Value) (xs : List D) (M : Mem) (Φ : D → Mem → Prop) : Prop where
  run : ∀ (F : Addr → Prop) H vs, MemAt Cs F M H → Reps Cs (Zf F M) H vs xs → ∀ Q, Res Cs F M H Φ Q → semC X f vs H Q
structure WIx (X : Cx) (x y : D) (M : Mem) (Φ : D → Mem → Prop) : Prop where
  run : ∀ (F : Addr → Prop) H vx vy, MemAt Cs F M H → Rep Cs (Zf F M) H vx x → Rep Cs (Zf F M) H vy y → ∀ Q, Res Cs F M H Φ Q → semIx X vx vy H Q
/-- a def told of data -/
abbrev FS := List D → Mem → (D → Mem → Prop) → Prop
def spD (S : FS) : Sp := fun vs H Q _ => ∃ F ds M Φ, MemAt Cs F M H ∧ Reps Cs (Zf F M) H vs ds ∧ S ds M Φ ∧ Res Cs F M H Φ Q
end
section
variable {Cs : Gc} {F : Addr → Prop} {X : Cx} {ρ : Env} {M : Mem} {a b c e : Expr} {es : List Expr} {pos : Pos} {Φ : D → Mem → Prop} {Ψ : Bool → Mem → Prop}
theorem Res.here {H : Hp} {Q : VK} (k : Res Cs F M H Φ Q) {v : V} {d : D} (m : MemAt Cs F M H) (r : Rep Cs (Zf F M) H v d) (h : Φ d M) : Q v H := k v d H M .refl m r h
theorem Res.from {M1 : Mem} {H H1 : Hp} {Q : VK} (k : Res Cs F M H Φ Q) (p : Post M H M1 H1) : Res Cs F M1 H1 Φ Q := fun v d H' M' p' m r h => k v d H' M' (p.trans p') m r h
theorem ResT.from {M1 : Mem} {H H1 : Hp} {Q : Bool → Hp → Prop} (k : ResT Cs F M H Ψ Q) (p : Post M H M1 H1) : ResT Cs F M1 H1 Ψ Q := fun b H' M' p' m h => k b H' M' (p.trans p') m h
theorem ResA.from {M1 : Mem} {H H1 : Hp} {Θ : List D → Mem → Prop} {Q : List V → Hp → Prop} (k : ResA Cs F M H Θ Q) (p : Post M H M1 H1) : ResA Cs F M1 H1 Θ Q := fun vs ds H' M' p' m r h => k vs ds H' M' (p.trans p') m r h
theorem EndsOk.from {M1 : Mem} {H H1 : Hp} {E : DE} {Dn : Ends} (k : EndsOk Cs F M H E Dn) (p : Post M H M1 H1) : EndsOk Cs F M1 H1 E Dn :=
  ⟨fun σ' ρ' H' M' q => k.nx σ' ρ' H' M' (p.trans q), k.rt.from p, fun σ' ρ' H' M' q => k.bk σ' ρ' H' M' (p.trans q), fun σ' ρ' H' M' q => k.ct σ' ρ' H' M' (p.trans q)⟩
/-! ### names, constants -/
theorem we_var {x : Str} (i : Nat) {d : D} (hN : X.N[i]? = some x) (hv : Vis X.env.scope x) (he : ρ[i]? = some (some d)) (h : Φ d M) (hd : (x == ("__debug__" : Str)) = false := by decide) (hcd : (x == ("__classdict__" : Str)) = false := by decide) : WE Cs X (.Name x pos) ρ M Φ :=
  .mk fun F σ H A Q k => (pe_var hN hv hd hcd).sem (by
    obtain ⟨v, h1, h2⟩ := A.env i d he
    exact ⟨v, h1, k.here A.mem h2 h⟩)
theorem we_int {i : Int} {j : Nat} (h : Φ (.int i) M) : WE Cs X (.Constant (.int i) j pos) ρ M Φ := .mk fun F σ H A Q k => pe_int.sem (k.here A.mem (.int i) h)
theorem we_bl {b : Bool} {j : Nat} (h : Φ (.bl b) M) : WE Cs X (.Constant (.bool b) j pos) ρ M Φ := .mk fun F σ H A Q k => pe_bl.sem (k.here A.mem (.bl b) h)
theorem we_non {j : Nat} (h : Φ .non M) : WE Cs X (.Constant .none j pos) ρ M Φ := .mk fun F σ H A Q k => pe_non.sem (k.here A.mem .non h)
theorem we_str {x : String} {j : Nat} (h : Φ (.str x) M) : WE Cs X (.Constant (.str x) j pos) ρ M Φ := .mk fun F σ H A Q k => pe_str.sem (k.here A.mem (.str _) h)
/-- a module's int -/
theorem we_gint {x : Str} {i : Int} {t : Tok} (hg : Gl X x) (hm : X.mg x = some (.int i t)) (h : Φ (.int i) M) (hd : (x == ("__debug__" : Str)) = false := by decide) : WE Cs X (.Name x pos) ρ M Φ :=
  .mk fun F σ H A Q k => (pe_glob (v := .int i) hg hm ⟨t, rfl⟩ hd).sem (k.here A.mem (.int i) h)
theorem we_gref {x : Str} {p : Addr} (hg : Gl X x) (hm : X.mg x = some (.ref p)) (h : Φ (.ref p) M) (hd : (x == ("__debug__" : Str)) = false := by decide) : WE Cs X (.Name x pos) ρ M Φ :=
  .mk fun F σ H A Q k => (pe_glob (v := .ref p) hg hm rfl hd).sem (k.here A.mem (.ref p) h)
theorem we_gty {x : Str} {n : String} (hg : Gl X x) (hm : X.mg x = none) (hv : bootBuiltins x = some (.type n)) (h : Φ (.ty n) M) (hn : x ≠ "__name__" := by decide) (hd : (x == ("__debug__" : Str)) = false := by decide) : WE Cs X (.Name x pos) ρ M Φ :=
  .mk fun F σ H A Q k => (pe_bltn (v := .ty n) hg hm hv rfl hn hd).sem (k.here A.mem (.ty n) h)
/-! ### operators -/
theorem two {t : TE} {Q : VK} {σ : L2.St} {H : Hp} {r : R2} (A : At Cs F M H σ ρ) (k : Res Cs F M H Φ Q) (W : D → D → Mem → (D → Mem → Prop) → Prop)
    (hW : ∀ x y M2 H2 vx vy, W x y M2 Φ → MemAt Cs F M2 H2 → Rep Cs (Zf F M2) H2 vx x → Rep Cs (Zf F M2) H2 vy y → Res Cs F M2 H2 Φ Q → r vx vy H2 Q)
    (h : WE Cs X a ρ M fun x M1 => WE Cs X b ρ M1 fun y M2 => W x y M2 Φ) : tOp r (semE X a) (semE X b) σ H Q :=
  h.run _ σ H A _ fun vx x H1 M1 p1 m1 r1 h1 => h1.run _ σ H1 (A.go p1 m1) _ fun vy y H2 M2 p2 m2 r2 h2 => hW x y M2 H2 vx vy h2 m2 (r1.go p2) r2 (k.from (p1.trans p2))
theorem we_bin {op : Operator} (h : WE Cs X a ρ M fun x M1 => WE Cs X b ρ M1 fun y M2 => WO Cs X (binaryOp op) x y M2 Φ) : WE Cs X (.BinOp a op b pos) ρ M Φ :=
  .mk fun F σ H A Q k => (pe_op op_sem pe_sem pe_sem).sem (two (t := semE X a) A k _ (fun x y M2 H2 vx vy w m rx ry k2 => w.run _ H2 vx vy m rx ry Q k2) h)
theorem we_cmp {op : CmpOp} (h : WE Cs X a ρ M fun x M1 => WE Cs X b ρ M1 fun y M2 => WO Cs X (compareOp op) x y M2 Φ) (hm : behindInMarks op b = false := by first | exact nomark _ | rfl) : WE Cs X (.Compare a [op] [b] pos) ρ M Φ :=
  .mk fun F σ H A Q k => (pe_cmpR op_sem pe_sem pe_sem hm).sem (two (t := semE X a) A k _ (fun x y M2 H2 vx vy w m rx ry k2 => w.run _ H2 vx vy m rx ry Q k2) h)
theorem we_ix (h : WE Cs X a ρ M fun x M1 => WE Cs X b ρ M1 fun y M2 => WIx Cs X x y M2 Φ) (hs : PlainIx b := by intro _ _; rfl) : WE Cs X (.Subscript a b pos) ρ M Φ :=
  .mk fun F σ H A Q k => (pe_ix ix_sem pe_sem pe_sem hs).sem (two (t := semE X a) A k _ (fun x y M2 H2 vx vy w m rx ry k2 => w.run _ H2 vx vy m rx ry Q k2) h)
theorem we_un {op : UnaryOp} (h : WE Cs X a ρ M fun x M1 => WU Cs X (unaryOp op) x M1 Φ) : WE Cs X (.UnaryOp op a pos) ρ M Φ :=
  .mk fun F σ H A Q k => (pe_un un_sem pe_sem).sem (h.run _ σ H A _ fun vx x H1 M1 p1 m1 r1 h1 => h1.run _ H1 vx m1 r1 Q (k.from p1))
def bT (Ψ : Bool → Mem → Prop) : D → Mem → Prop := fun d M => ∃ b, d = .bl b ∧ Ψ b M
theorem ResT.bT {H : Hp} {Q : Bool → Hp → Prop} (k : ResT Cs F M H Ψ Q) : Res Cs F M H (DL.bT Ψ) fun x H' => ∃ c, x = .bl c ∧ Q c H' := fun v d H' M' p m r h => by
  obtain ⟨b, rfl, h⟩ := h
  cases r
  exact ⟨b, rfl, k b H' M' p m h⟩
theorem wt_cmp {op : CmpOp} (h : WE Cs X a ρ M fun x M1 => WE Cs X b ρ M1 fun y M2 => WO Cs X (compareOp op) x y M2 (bT Ψ)) (hm : behindInMarks op b = false := by first | exact nomark _ | rfl) : WT Cs X (.Compare a [op] [b] pos) ρ M Ψ :=
  .mk fun F σ H A Q k => (pt_cmpR op_sem pe_sem pe_sem hm).sem (two (t := semE X a) A k.bT _ (fun x y M2 H2 vx vy w m rx ry k2 => w.run _ H2 vx vy m rx ry _ k2) h)
theorem wt_val (h : WE Cs X e ρ M (bT Ψ)) (he : ∀ whole, isTrue e X.env whole = (do let v ← whole; standAt e.pos; holding [v] (truthy v)) := by intro _; rfl) : WT Cs X e ρ M Ψ :=
  .mk fun F σ H A Q k => (pt_val pe_sem he).sem (h.run _ σ H A _ k.bT)
theorem wt_not (h : WT Cs X a ρ M fun b M1 => Ψ (!b) M1) : WT Cs X (.UnaryOp .Not a pos) ρ M Ψ :=
  .mk fun F σ H A Q k => (pt_not pt_sem).sem (h.run _ σ H A _ fun b H1 M1 p m q => k (!b) H1 M1 p m q)
theorem WW.wt (h : WW Cs X e ρ M Ψ) : WT Cs X e ρ M Ψ := .mk fun F σ H A Q k pins s I => h.run _ σ H A Q k _ pins s I
theorem ww_or1 (h : WT Cs X a ρ M Ψ) : WW Cs X (.BoolOp .Or [a] pos) ρ M Ψ := .mk fun F σ H A Q k => (pw_or1 pt_sem).sem (h.run _ σ H A Q k)
theorem ww_or {rest : List Expr} (h : WT Cs X a ρ M fun c M1 => (c = true → Ψ true M1) ∧ (c = false → WW Cs X (.BoolOp .Or (b :: rest) pos) ρ M1 Ψ)) : WW Cs X (.BoolOp .Or (a :: b :: rest) pos) ρ M Ψ :=
  .mk fun F σ H A Q k => (pw_or pt_sem pw_sem).sem (h.run _ σ H A _ fun c H1 M1 p m q => by
    cases c with
    | true => rw [if_pos rfl]; exact k true H1 M1 p m (q.1 rfl)
    | false => rw [if_neg Bool.false_ne_true]; exact (q.2 rfl).run _ σ H1 (A.go p m) Q (k.from p))
theorem we_one {op : BoolOp} (h : WE Cs X a ρ M Φ) : WE Cs X (.BoolOp op [a] pos) ρ M Φ := .mk fun F σ H A Q k => (pe_one pe_sem).sem (h.run _ σ H A Q k)
theorem we_and {rest : List Expr} (h : WE Cs X a ρ M fun d M1 => ∃ c, d = .bl c ∧ (c = true → WE Cs X (.BoolOp .And (b :: rest) pos) ρ M1 Φ) ∧ (c = false → Φ (.bl false) M1)) : WE Cs X (.BoolOp .And (a :: b :: rest) pos) ρ M Φ :=
  .mk fun F σ H A Q k => (pe_and pe_sem pe_sem).sem (h.run _ σ H A _ fun v d H1 M1 p m r q => by
    obtain ⟨c, rfl, q1, q2⟩ := q
    cases r
    refine ⟨c, rfl, ?_⟩
    cases c with
    | true => rw [if_pos rfl]; exact (q1 rfl).run _ σ H1 (A.go p m) Q (k.from p)
    | false => rw [if_neg Bool.false_ne_true]; exact k _ _ H1 M1 p m (.bl false) (q2 rfl))
theorem we_or {rest : List Expr} (h : WE Cs X a ρ M fun d M1 => ∃ c, d = .bl c ∧ (c = true → Φ (.bl true) M1) ∧ (c = false → WE Cs X (.BoolOp .Or (b :: rest) pos) ρ M1 Φ)) : WE Cs X (.BoolOp .Or (a :: b :: rest) pos) ρ M Φ :=
  .mk fun F σ H A Q k => (pe_or pe_sem pe_sem).sem (h.run _ σ H A _ fun v d H1 M1 p m r q => by
    obtain ⟨c, rfl, q1, q2⟩ := q
    cases r
    refine ⟨c, rfl, ?_⟩
    cases c with
    | true => rw [if_pos rfl]; exact k _ _ H1 M1 p m (.bl true) (q1 rfl)
    | false => rw [if_neg Bool.false_ne_true]; exact (q2 rfl).run _ σ H1 (A.go p m) Q (k.from p))
theorem we_if (h : WT Cs X c ρ M fun t M1 => (t = true → WE Cs X a ρ M1 Φ) ∧ (t = false → WE Cs X b ρ M1 Φ)) : WE Cs X (.IfExp c a b pos) ρ M Φ :=
  .mk fun F σ H A Q k => (pe_ifExp pt_sem pe_sem pe_sem).sem (h.run _ σ H A _ fun t H1 M1 p m q => by
    cases t with
    | true => rw [if_pos rfl]; exact (q.1 rfl).run _ σ H1 (A.go p m) Q (k.from p)
    | false => rw [if_neg Bool.false_ne_true]; exact (q.2 rfl).run _ σ H1 (A.go p m) Q (k.from p))
/-! ### arguments, displays -/
theorem wa_nil {Θ : List D → Mem → Prop} (h : Θ [] M) : WA Cs X [] ρ M Θ := .mk fun F σ H A Q k => pa_nil.sem (k [] [] H M .refl A.mem .nil h)
theorem wa_cons {Θ : List D → Mem → Prop} (h : WE Cs X e ρ M fun d M1 => WA Cs X es ρ M1 fun ds M2 => Θ (d :: ds) M2) (hs : starEach (e :: es) X.env = (false, eval e X.env) :: starEach es X.env := by rfl) : WA Cs X (e :: es) ρ M Θ :=
  .mk fun F σ H A Q k => (pa_cons pe_sem pa_sem hs).sem (h.run _ σ H A _ fun v d H1 M1 p1 m1 r1 h1 => h1.run _ σ H1 (A.go p1 m1) _ fun vs ds H2 M2 p2 m2 r2 h2 => k _ _ H2 M2 (p1.trans p2) m2 (.cons (r1.go p2) r2) h2)
theorem MemAt.old {H : Hp} (m : MemAt Cs F M H) {p : Addr} (hp : H p = none) : M p = none := by
  cases e : M p with
  | none => rfl
  | some n =>
    obtain ⟨o, z⟩ := (m.at_ p n e).there
    rw [hp] at z; cases z
theorem MemAt.notZ {H : Hp} (m : MemAt Cs F M H) {p : Addr} (hp : H p = none) : ¬ Zf F M p := fun z => by
  rcases z with z | z
  · exact (m.ff p z).2 hp
  · exact z (m.old hp)
theorem post_new {H : Hp} {p : Addr} {o : HO} (hp : H p = none) : Post M H M (upd H p o) := ⟨fun a u _ h => .inl (by rw [upd_ne (ne_of_none h hp)]; exact h), fun _ h => .inl h⟩
theorem MemAt.new {H : Hp} {p : Addr} {o : HO} (m : MemAt Cs F M H) (hp : H p = none) : MemAt Cs F M (upd H p o) := m.go (post_new hp) fun a n e =>
  .inl ⟨e, fun u h => by rw [upd_ne (ne_of_none h hp)]; exact h, fun dx e2 => ⟨fun u h => by rw [upd_ne (ne_of_none h hp)]; exact h, ((m.at_ a _ e).aux e2).2⟩⟩
theorem we_tup {kk : Nat} (h : WA Cs X es ρ M fun ds M1 => ds.length ≤ 100000 ∧ Φ (.tup ds) M1) : WE Cs X (.Tuple es kk pos) ρ M Φ :=
  .mk fun F σ H A Q k => (pe_tup pa_sem).sem (h.run _ σ H A _ fun vs ds H1 M1 p1 m1 r1 h1 => ⟨by rw [r1.length]; exact sz_of h1.1, fun p hp => k _ _ _ M1 (p1.trans (post_new hp)) (m1.new hp) (.tup (m1.notZ hp) (.inl upd_same) (r1.go (post_new hp))) h1.2⟩)
/-- [a, ..], never changed -/
theorem we_lst (h : WA Cs X es ρ M fun ds M1 => ds.length ≤ 100000 ∧ Φ (.lst ds) M1) : WE Cs X (.List es pos) ρ M Φ :=
  .mk fun F σ H A Q k => (pe_lst pa_sem).sem (h.run _ σ H A _ fun vs ds H1 M1 p1 m1 r1 h1 => ⟨by rw [r1.length]; exact sz_of h1.1, fun p hp => k _ _ _ M1 (p1.trans (post_new hp)) (m1.new hp) (.lst (m1.notZ hp) (.inl upd_same) (r1.go (post_new hp))) h1.2⟩)
theorem post_own {H : Hp} {p : Addr} {o : HO} {n : MO} (hp : H p = none) : Post M H (put M p n) (upd H p o) := ⟨fun a u _ h => .inl (by rw [upd_ne (ne_of_none h hp)]; exact h), fun a h => by
  by_cases e : a = p
  · exact .inr (by rw [e]; exact hp)
  · rw [put_ne e] at h; exact .inl h⟩
theorem MemAt.own {H : Hp} {p : Addr} {o : HO} {n : MO} (m : MemAt Cs F M H) (hp : H p = none) (hn : MOk Cs F (put M p n) (upd H p o) p n) : MemAt Cs F (put M p n) (upd H p o) := m.go (post_own hp) fun a n' e => by
  by_cases ea : a = p
  · subst ea; rw [put_same] at e; cases e; exact .inr hn
  · rw [put_ne ea] at e
    refine .inl ⟨e, fun u h => by rw [upd_ne (ne_of_none h hp)]; exact h, fun dx e2 => ⟨fun u h => by rw [upd_ne (ne_of_none h hp)]; exact h, ?_⟩⟩
    have q := ((m.at_ a _ e).aux e2).2
    rw [put_ne (fun z => by rw [z, m.old hp] at q; cases q)]
    exact q
/-- [a, ..], owned -/
theorem we_lstO (h : WA Cs X es ρ M fun ds M1 => ds.length ≤ 100000 ∧ ∀ p, M1 p = none → Φ (.ref p) (put M1 p (.lst ds))) : WE Cs X (.List es pos) ρ M Φ :=
  .mk fun F σ H A Q k => (pe_lst pa_sem).sem (h.run _ σ H A _ fun vs ds H1 M1 p1 m1 r1 h1 => ⟨by rw [r1.length]; exact sz_of h1.1, fun p hp => k _ _ _ (put M1 p (.lst ds)) (p1.trans (post_own hp)) (m1.own hp ⟨vs, upd_same, r1.go (post_own hp)⟩) (.ref p) (h1.2 p (m1.old hp))⟩)
end
end DL
namespace DL
open PySem PySem.Spec PyProof.Rows L2
/-! ### room, with no guard around -/
structure Rm (k : Nat) (A : Around) : Prop where
  rm : Room k A
  gd : A.guards = some []
theorem Rm.mono {j k : Nat} {A : Around} (r : Rm k A) (h : j ≤ k) : Rm j A := ⟨r.rm.mono h, r.gd⟩
theorem Rm.deeper {k : Nat} {A : Around} (r : Rm (k + 1) A) (env : PySem.Env) : Rm k (A.deeper env) := ⟨r.rm.deeper env, r.gd⟩
theorem Rm.in1 {k : Nat} {A : Around} (r : Rm (k + 1) A) : Rm k A.in1 := ⟨r.rm.in1, r.gd⟩
theorem Rm.make {k : Nat} {A : Around} (r : Rm (k + 1) A) (C : Addr) (us : List Value) (kw : List (Str × Value)) : Rm k (A.under (.builtin "type.__call__" ⟨.ref C :: us, kw⟩)) :=
  ⟨r.rm.make C us kw, by
    have e : (Code.builtin "type.__call__" ⟨.ref C :: us, kw⟩).guards = [] := by first | rfl | simp [Code.guards, Code.isGuard, guardIds]
    have e2 : (A.under (.builtin "type.__call__" ⟨.ref C :: us, kw⟩)).guards = pushGuards (Code.builtin "type.__call__" ⟨.ref C :: us, kw⟩).guards A.guards := by
      unfold Around.under
      rfl
    rw [e2, e, r.gd]
    rfl⟩
/-- a promise by positional values -/
def FnG (P : Program) (w : World) (K : PySem.W.Frag) (mg : Str → Option Value) (base : Heap) (CX : CXT) (k : Nat) (f : Addr) (sp : Sp) : Prop :=
  ∀ (A : Around) (outer : List PySem.Env) (s : Shared) (H : Hp) (us : List Value) (vs : List V) (Q : VK) (E : XK), Rm k A → Env0 P w K mg base A outer s H → Vals vs us → sp vs H Q E →
    codeAny (model P w) A (.call (.ref f) ⟨us, []⟩) (CR CX outer P w H s Q E) s
theorem FnG.mono {P : Program} {w : World} {K : PySem.W.Frag} {mg : Str → Option Value} {base : Heap} {CX : CXT} {j k : Nat} {f : Addr} {sp : Sp} (F : FnG P w K mg base CX j f sp) (h : j ≤ k) : FnG P w K mg base CX k f sp := fun A outer s H us vs Q E hr => F A outer s H us vs Q E (hr.mono h)
theorem FnG.imp {P : Program} {w : World} {K : PySem.W.Frag} {mg : Str → Option Value} {base : Heap} {CX : CXT} {k : Nat} {f : Addr} {sp sp' : Sp} (F : FnG P w K mg base CX k f sp) (h : ∀ vs H Q E, sp' vs H Q E → sp vs H Q E) : FnG P w K mg base CX k f sp' :=
  fun A outer s H us vs Q E hr e0 r hs => F A outer s H us vs Q E hr e0 r (h _ _ _ _ hs)
/-- THE RULE for a def: by its body -/
theorem fn_g {CX : CXT} {P : Program} {w : World} {K : PySem.W.Frag} {mg : Str → Option Value} {base : Heap} {k : Nat} {f : Addr} {fd : FuncData} {name qual : Str} {params : Arguments} {body : List Stmt} {scope : Scope} {dvs dws : List V} {kws : List (Str × V)} {ds : List Value}
    {N ps : List Str} {sp : Sp} (F : FunD K name qual params body scope dvs kws f fd) (S : FnScope N ps scope) (hb : Binds K fd ps ds) (hd : Vals dws ds)
    (len : ∀ vs H Q E, sp (vs ++ dws) H Q E → (vs ++ dws).length = ps.length)
    (hbody : ∀ (cdv : Value) (A : Around) (outer : List PySem.Env) (s : Shared) (H : Hp) (vs : List V) (Q : VK) (E : XK), Rm k (A.deeper (envOfC qual scope s.heap.objs.size f cdv)) → sp vs H Q E →
      ∃ t, PSs (cxOf CX P w K mg base N qual scope f cdv A outer s H E) body t ∧ t { nx := fun _ H' => Q .non H', rt := Q } (start N vs) H) :
    FnG P w K mg base CX (k + 1) f (fun vs H Q E => sp (vs ++ dws) H Q E) := by
  obtain ⟨oc, od, dV, kV, doc, pm, an, cdv, ct, osl, rfl, lk, hcd, _, _⟩ := F.ex
  intro A outer s H us0 vs0 Q E hr e0 r0 hsp
  have hl := len _ _ _ _ hsp
  have r : Vals (vs0 ++ dws) (us0 ++ ds) := r0.append hd
  have KX : K.In s.heap := e0.mod.kin.keeps fun b o e => (e0.bs b o e).1
  have lim : s.heap.NoLimit := e0.mod.nolimit.keeps fun b o e => (e0.bs b o e).1
  have hb' := hb s us0 KX (by rw [← r.length]; exact hl)
  generalize hus : us0 ++ ds = us at hb' r
  generalize hvs : vs0 ++ dws = vs at hl r hsp
  have hkind : ∀ y ∈ ps.zip us, scope.names.lookup y.1 = some .local ∨ (scope.names.lookup y.1 = some .cell ∧ ((cellsFrom (s.heap.objs.size + 1) scope.names []).lookup y.1).isSome = true) := fun ⟨n, v⟩ hy => by
    rcases S.par n (List.of_mem_zip hy).1 with q | q
    · exact .inl q
    · exact .inr ⟨q, PySem.W.cellsFrom_some _ _ _ (.inl q)⟩
  refine codeAny_call_function hr.rm.depth (KX _ _ lk) rfl S.co S.gen rfl (PySem.W.codeRec_of KX hcd) (hb' _ _ _ _ ?_)
  refine wpAny_newFunctionEnv_cells S.kind hkind fun env he s1 x => ?_
  subst he
  refine ⟨lim.keeps x.toInCall.keep, codeAny_func ?_⟩
  obtain ⟨t, ht, hq⟩ := hbody cdv A outer s H vs Q E (hr.deeper _) hsp
  have I : Inv (cxOf CX P w K mg base N qual scope f cdv A outer s H E) [] (start N vs) H s1 := inv_start S hr.rm.hd e0 hl r x
  refine wpAny_mono (ht.run [] s1 (start N vs) H _ I hq) (fun fl s' hs => ?_) fun e s' hs => hs
  have fin : ∀ {σ' : L2.St} {H' : Hp} {v : V} {u : Value}, Inv (cxOf CX P w K mg base N qual scope f cdv A outer s H E) [] σ' H' s' → RelV v u → Q v H' → CE outer P w H s Q u s' :=
    fun {σ' H' v u} J rv q => ⟨v, H', J.os, J.bare, J.base, J.hok, rv, q⟩
  cases fl with
  | ret u =>
    obtain ⟨v, σ', H', J, rv, q⟩ := hs
    exact fin J rv q
  | next =>
    obtain ⟨σ', H', J, q⟩ := hs
    exact fin (v := V.non) (u := Value.none) J rfl q
  | brk =>
    obtain ⟨_, _, _, q⟩ := hs
    exact False.elim q
  | cont =>
    obtain ⟨_, _, _, q⟩ := hs
    exact False.elim q
section
variable {X : Cx} {CX : CXT} {k n : Nat} {f g C : Addr} {sp : Sp} {E : XK} {x m : Str} {p pos apos : Pos} {e o : Expr} {es : List Expr} {t : TA} {ta : TE} {pins : List (Addr × Obj)} {σ : L2.St} {H : Hp} {s : Shared} {Q : VK} {us : List Value} {vs : List V}
theorem run_g (F : FnG X.prog X.w X.K X.mg X.base CX k f sp) (hr : Rm k X.A) (hx : Passes CX X E) (I : Inv X pins σ H s) (r : Vals vs us) (h : sp vs H Q E) :
    codeAny (model X.prog X.w) X.A (.call (.ref f) ⟨us, []⟩) (fun r s' => match r with | .ok (.ret v) => EP X pins σ Q v s' | .ok _ => False | .error e => X.xe e s') s := by
  refine codeAny_mono (F X.A X.stack s H us vs Q E hr I.env0 r h) fun r s' hq => ?_
  cases r with
  | error e => exact hx pins σ H s e s' I hq
  | ok fl =>
    cases fl with
    | ret u => exact I.after hq
    | next => exact False.elim hq
    | brk => exact False.elim hq
    | cont => exact False.elim hq
theorem pe_callG (F : FnG X.prog X.w X.K X.mg X.base CX k f sp) (hr : Rm k X.A) (hg : Gl X x) (hm : X.mg x = some (.ref f)) (hk : PySem.W.keepIn X.K (.ref f) = true)
    (hx : Passes CX X E) (ha : PA X (e :: es) t) (hdb : (x == ("__debug__" : Str)) = false := by decide) (he : starEach (e :: es) X.env = (false, eval e X.env) :: starEach es X.env := by rfl) (hpl : (backTo pos (starEach es X.env)).any (·.1) = false := by rfl) :
    PE X (.Call (.Name x p) (e :: es) [] pos) (fun σ H Q => t σ H fun vs H1 => sp vs H1 Q E) := by
  refine ⟨fun pins s σ H Q I h => ?_⟩
  refine wpAny_Call_Name_kw (ld_glob I hg hm ?_ hdb)
  refine PySem.W.callWith_K (h₀ := X.base) I.ok.mod.kin hk (thn (ha.run pos pins s σ H _ I h) fun us s1 ⟨vs, H1, I1, r, q⟩ => ⟨I1.kIn, ?_⟩) he hpl
  exact wpAny_call (run_g F hr hx I1 r q)
theorem pe_callG0 (F : FnG X.prog X.w X.K X.mg X.base CX k f sp) (hr : Rm k X.A) (hg : Gl X x) (hm : X.mg x = some (.ref f)) (hk : PySem.W.keepIn X.K (.ref f) = true)
    (hx : Passes CX X E) (hdb : (x == ("__debug__" : Str)) = false := by decide) : PE X (.Call (.Name x p) [] [] pos) (fun σ H Q => sp [] H Q E) := by
  refine ⟨fun pins s σ H Q I h => ?_⟩
  refine wpAny_Call_Name_kw (ld_glob I hg hm ?_ hdb)
  exact PySem.W.callWith_K0 I.kIn hk (wpAny_call (run_g (us := []) F hr hx I .nil h))
theorem getprop_g {b : Bool} {f : Str} {a dx p : Addr} {vs : List (Option V)} (I : Inv X pins σ H s) (h : SlX.Slt H a C dx vs) (c : SlX.SCls X.K C) (at_ : PySem.W.findIn X.K (.ref C) f = some (some (.ref p))) (get : PySem.W.specialIn X.K (.ref p) "__get__" = some (some (.builtin "property.__get__")))
    (tk : PySem.W.takesIn X.K (.ref p) = some true) (rc : ∃ rest, PySem.W.recIn X.K p "property" = some (.ref g :: rest)) (F : FnG X.prog X.w X.K X.mg X.base CX n g sp) (hr : Rm (n + 1) X.A)
    (hx : ∀ (H : Hp) (s : Shared) (e : Value) (s' : Shared), CX X.stack H s E e s' → False) (q : sp [.ref a] H Q E) : wpAny (model X.prog X.w) X.A (getAttr (.ref a) f b) (EP X pins σ Q) X.xe s := by
  obtain ⟨sl, od, _, J, _⟩ := SlX.slt_inst I h
  obtain ⟨rest, hrec⟩ := rc
  have I1 : Inv X pins σ H { s with toks := s.toks + 1 } := I.tok (s.toks + 1)
  refine PySem.W.get_bind I.kIn J (PySem.W.plainGet_of (c.get f)).1 (PySem.W.findObj_data c.ic at_ get tk) (PySem.W.plainGet_of (c.get f)).2 (wpAny_call (PySem.W.prop_get (s := { s with toks := s.toks + 1 }) I.kIn hrec ?_))
  refine codeAny_mono (F X.A.in1 X.stack { s with toks := s.toks + 1 } H [.ref a] [.ref a] Q E hr.in1 I1.env0.in1 (.cons rfl .nil) q) fun r s' hq => ?_
  cases r with
  | error e => exact (hx _ _ _ _ hq).elim
  | ok fl =>
    cases fl with
    | ret u =>
      obtain ⟨v, H', I2, rv, q⟩ := I1.after hq
      exact wpAny_of_eq (PySem.W.handedOut_of (handed_of rv)) ⟨v, H', I2, rv, q⟩
    | next => exact False.elim hq
    | brk => exact False.elim hq
    | cont => exact False.elim hq
theorem pe_methG {pl : Sem Bool} (he : PE X o ta) (c : SlX.SCls X.K C) (hm : Meth X.K C m g) (F : FnG X.prog X.w X.K X.mg X.base CX k g sp) (hr : Rm k X.A) (hx : Passes CX X E) (ha : PA X (e :: es) t)
    (hst : starEach (e :: es) X.env = (false, eval e X.env) :: starEach es X.env := by rfl) (hpl : (backTo pos (starEach es X.env)).any (·.1) = false := by rfl)
    (ht : eval (.Call (.Attribute o m apos) (e :: es) [] pos) X.env = (do
      let ov ← eval o X.env
      standAt apos.atName
      let (f, first) ← holding [ov] (getMethod ov m pl)
      callWith pos f first (backTo pos (starEach (e :: es) X.env)) (backToKw pos (keywordEach [] X.env))) := by rfl) :
    PE X (.Call (.Attribute o m apos) (e :: es) [] pos) (SlX.tMethSl C sp E ta t) := by
  refine ⟨fun pins s σ H Q I h => ?_⟩
  refine PySem.W.methodCall_KW (pl := pl) (thn (he.run pins s σ H _ I h) fun u s1 ⟨x, H1, I1, rx, a, dx, vs, ex, hsl, q⟩ => ?_) ht
  subst ex
  obtain rfl : u = Value.ref a := rx
  refine SlX.getmethsl_ok I1 hsl c hm ?_
  refine PySem.W.callWith_K (first := [.ref a]) (h₀ := X.base) I.ok.mod.kin hm.kp (thn (ha.run pos pins s1 σ H1 _ I1 q) fun us s2 ⟨ws, H2, I2, r, q2⟩ => ⟨I2.kIn, ?_⟩) hst hpl
  exact wpAny_call (run_g (us := .ref a :: us) (vs := .ref a :: ws) F hr hx I2 (.cons rfl r) q2)
theorem run_makeG (M : Mk X.K C f) (F : FnG X.prog X.w X.K X.mg X.base CX k f sp) (hr : Rm (k + 1) X.A) (hx : Passes CX X E) (I : Inv X pins σ H s) (r : Vals vs us)
    (h : ∀ x dx, H x = Option.none → H dx = Option.none → dx ≠ x → sp (V.ref x :: vs) (upd (upd H dx (.own x)) x (.ins C dx [])) (fun v H2 => v = .non ∧ Q (.ref x) H2) E) :
    wpAny (model X.prog X.w) X.A (call (.ref C) us) (EP X pins σ Q) X.xe s := by
  have hq := h (s.heap.objs.size + 1) s.heap.objs.size (I.hok.fresh (Nat.le_succ _)) (I.hok.fresh (Nat.le_refl _)) (Nat.ne_of_lt (Nat.lt_succ_self _))
  have I2 := Inv.made (C := C) I
  have r2 : Vals (V.ref (s.heap.objs.size + 1) :: vs) (Value.ref (s.heap.objs.size + 1) :: us) := .cons rfl r
  refine wpAny_call (make_map (f := f) I.kIn M.makes M.init (beq_iff_eq.mp M.fn) (codeAny_mono (F _ X.stack _ _ (Value.ref (s.heap.objs.size + 1) :: us) _ _ E (hr.make C us []) (I2.env0.make C us []) r2 hq) fun r s' hq' => ?_))
  cases r with
  | error e => exact hx pins σ _ _ e s' I2 hq'
  | ok fl =>
    cases fl with
    | ret u =>
      obtain ⟨v, H', I3, rv, ev, q3⟩ := I2.after hq'
      subst ev
      exact ⟨rv, ⟨V.ref (s.heap.objs.size + 1), H', I3, rfl, q3⟩⟩
    | next => exact False.elim hq'
    | brk => exact False.elim hq'
    | cont => exact False.elim hq'
theorem pe_makeG (M : Mk X.K C f) (F : FnG X.prog X.w X.K X.mg X.base CX k f sp) (hr : Rm (k + 1) X.A) (hg : Gl X x) (hm : X.mg x = some (.ref C)) (hx : Passes CX X E) (ha : PA X (e :: es) t) (hdb : (x == ("__debug__" : Str)) = false := by decide)
    (he : starEach (e :: es) X.env = (false, eval e X.env) :: starEach es X.env := by rfl) (hpl : (backTo pos (starEach es X.env)).any (·.1) = false := by rfl) : PE X (.Call (.Name x p) (e :: es) [] pos) (StX.tMakeR C sp E t) := by
  refine ⟨fun pins s σ H Q I h => ?_⟩
  refine wpAny_Call_Name_kw (ld_glob I hg hm ?_ hdb)
  refine PySem.W.callWith_K (h₀ := X.base) I.ok.mod.kin M.kp (thn (ha.run pos pins s σ H _ I h) fun us s1 ⟨vs, H1, I1, r, q⟩ => ⟨I1.kIn, ?_⟩) he hpl
  exact run_makeG M F hr hx I1 r q
/-- x op y by an own def of x's class, y of the same class -/
theorem bin_g {op : Operator} {a b dx dy : Addr} {vs ws : List (Option V)} (hsf : PySem.W.selfFirst X.K C = true) (hs : PySem.W.findIn X.K (.ref C) (PySem.dunder op.info.2) = some (some (.ref g))) (hf : PySem.W.isFn X.K (.ref g) = true)
    (F : FnG X.prog X.w X.K X.mg X.base CX k g sp) (hr : Rm k X.A) (hx : Passes CX X E) (I : Inv X pins σ H s) (ha : SlX.Slt H a C dx vs) (hb : SlX.Slt H b C dy ws) (q : sp [.ref a, .ref b] H Q E) :
    wpAny (model X.prog X.w) X.A (binaryOp op (.ref a) (.ref b)) (EP X pins σ Q) X.xe s := by
  obtain ⟨sl, od, _, J, _⟩ := SlX.slt_inst I ha
  obtain ⟨sl', od', _, J', _⟩ := SlX.slt_inst I hb
  obtain ⟨m, hF⟩ := I.fr
  refine PySem.W.binop_K hF I.ok.mod.kin J J'.type hsf hs hf ?_
  refine wpAny_mono (wpAny_call (run_g (us := [.ref a, .ref b]) (vs := [.ref a, .ref b]) F hr hx I (.cons rfl (.cons rfl .nil)) q)) (fun w s' z => ?_) fun _ _ x => x
  obtain ⟨z', H', I', rz, qz⟩ := z
  exact SlX.cmpback rz ⟨z', H', I', rz, qz⟩
theorem cmp_g {op : CmpOp} {a b dx dy C' : Addr} {vs ws : List (Option V)} (hop : ∀ a b, compareOp op a b = richCompare op a b) (hn : PySem.W.notFirst X.K C (.ref C') = true) (hs : PySem.W.findIn X.K (.ref C) (cmpInfo op).2.1 = some (some (.ref g))) (hf : PySem.W.isFn X.K (.ref g) = true)
    (F : FnG X.prog X.w X.K X.mg X.base CX k g sp) (hr : Rm k X.A) (hx : Passes CX X E) (I : Inv X pins σ H s) (ha : SlX.Slt H a C dx vs) (hb : SlX.Slt H b C' dy ws) (q : sp [.ref a, .ref b] H Q E) :
    wpAny (model X.prog X.w) X.A (compareOp op (.ref a) (.ref b)) (EP X pins σ Q) X.xe s := by
  obtain ⟨sl, od, _, J, _⟩ := SlX.slt_inst I ha
  obtain ⟨sl', od', _, J', _⟩ := SlX.slt_inst I hb
  obtain ⟨m, hF⟩ := I.fr
  rw [hop]
  refine PySem.W.cmp_K (op := op) (tb := .ref C') hr.rm.units0 hF I.ok.mod.kin J J'.type hn hs hf ?_
  refine wpAny_mono (wpAny_call (run_g (us := [.ref a, .ref b]) (vs := [.ref a, .ref b]) F hr hx I (.cons rfl (.cons rfl .nil)) q)) (fun w s' z => ?_) fun _ _ x => x
  obtain ⟨z', H', I', rz, qz⟩ := z
  exact SlX.cmpback rz ⟨z', H', I', rz, qz⟩
end
end DL
namespace DL
open PySem PySem.Spec PyProof.Rows L2
def semG (X : Cx) (tg : Expr) : TG := fun v σ H Q => ∀ pins s u, Inv X pins σ H s → RelV v u → wpAny (model X.prog X.w) X.A (assign tg X.env u) (fun _ s' => ∃ σ' H', Inv X pins σ' H' s' ∧ Q σ' H') X.xe s
def semGs (X : Cx) (ts : List Expr) : TGs := fun vs σ H Q => ∀ pins s us, Inv X pins σ H s → Vals vs us → wpAny (model X.prog X.w) X.A (assignInOrder ((assignEach ts X.env).map (·.2)) us) (fun _ s' => ∃ σ' H', Inv X pins σ' H' s' ∧ Q σ' H') X.xe s
def semAt (X : Cx) (f : Str) : V → Hp → VK → Prop := fun x H Q => ∀ pins s σ v, Inv X pins σ H s → RelV x v → wpAny (model X.prog X.w) X.A (getAttr v f true) (EP X pins σ Q) X.xe s
section
variable {X : Cx}
theorem pg_sem {tg : Expr} : PG X tg (semG X tg) := ⟨fun pins s _ _ _ u _ I r h => h pins s u I r⟩
theorem pgs_sem {ts : List Expr} : PGs X ts (semGs X ts) := ⟨fun pins s _ _ _ us _ I r h => h pins s us I r⟩
theorem _root_.L2.PG.sem {tg : Expr} {t : TG} {v : V} {σ : L2.St} {H : Hp} {Q : L2.St → Hp → Prop} (p : PG X tg t) (h : t v σ H Q) : semG X tg v σ H Q := fun pins s u I r => p.run pins s σ H v u Q I r h
theorem _root_.L2.PGs.sem {ts : List Expr} {t : TGs} {vs : List V} {σ : L2.St} {H : Hp} {Q : L2.St → Hp → Prop} (p : PGs X ts t) (h : t vs σ H Q) : semGs X ts vs σ H Q := fun pins s us I r => p.run pins s σ H vs us Q I r h
theorem pe_attr {e : Expr} {f : Str} {pos : Pos} {t : TE} (he : PE X e t) (hb : attributeBase e f X.env (eval e X.env) = eval e X.env := by rfl) : PE X (.Attribute e f pos) (fun σ H Q => t σ H fun x H1 => semAt X f x H1 Q) :=
  ⟨fun pins s σ H Q I h => attr_of hb (thn (he.run pins s σ H _ I h) fun u s1 ⟨x, H1, I1, rx, q⟩ => q pins s1 σ u I1 rx)⟩
end
section
variable (Cs : Gc)
structure WG (X : Cx) (tg : Expr) (d : D) (ρ : Env) (M : Mem) (K : Env → Mem → Prop) : Prop where
  run : ∀ (F : Addr → Prop) σ H v, At Cs F M H σ ρ → Rep Cs (Zf F M) H v d → ∀ Q, (∀ σ' ρ' H' M', Post M H M' H' → At Cs F M' H' σ' ρ' → K ρ' M' → Q σ' H') → semG X tg v σ H Q
structure WGs (X : Cx) (ts : List Expr) (ds : List D) (ρ : Env) (M : Mem) (K : Env → Mem → Prop) : Prop where
  run : ∀ (F : Addr → Prop) σ H vs, At Cs F M H σ ρ → Reps Cs (Zf F M) H vs ds → ∀ Q, (∀ σ' ρ' H' M', Post M H M' H' → At Cs F M' H' σ' ρ' → K ρ' M' → Q σ' H') → semGs X ts vs σ H Q
structure WAt (X : Cx) (f : Str) (x : D) (M : Mem) (Φ : D → Mem → Prop) : Prop where
  run : ∀ (F : Addr → Prop) H vx, MemAt Cs F M H → Rep Cs (Zf F M) H vx x → ∀ Q, Res Cs F M H Φ Q → semAt X f vx H Q
/-- the def at f does S, by at most level k -/
abbrev FnD (X : Cx) (k : Nat) (f : Addr) (S : FS) : Prop := FnG X.prog X.w X.K X.mg X.base CX0 k f (spD Cs S)
end
section
variable {Cs : Gc} {F : Addr → Prop} {X : Cx} {ρ : Env} {M : Mem} {a b c e : Expr} {es : List Expr} {pos p apos : Pos} {Φ : D → Mem → Prop} {Ψ : Bool → Mem → Prop} {st : Stmt} {sts rest body : List Stmt} {E : DE} {x f m : Str}
/-! ### calls -/
theorem we_call {k : Nat} {g : Addr} {S : FS} (Fn : FnD Cs X k g S) (hr : Rm k X.A) (hg : Gl X x) (hm : X.mg x = some (.ref g)) (hk : PySem.W.keepIn X.K (.ref g) = true) (h : WA Cs X (e :: es) ρ M fun ds M1 => S ds M1 Φ)
    (hdb : (x == ("__debug__" : Str)) = false := by decide) (he : starEach (e :: es) X.env = (false, eval e X.env) :: starEach es X.env := by rfl) (hpl : (backTo pos (starEach es X.env)).any (·.1) = false := by rfl) : WE Cs X (.Call (.Name x p) (e :: es) [] pos) ρ M Φ :=
  .mk fun F σ H A Q k => (pe_callG Fn hr hg hm hk pass0 pa_sem hdb he hpl).sem (h.run _ σ H A _ fun vs ds H1 M1 p1 m1 r1 h1 => ⟨_, ds, M1, Φ, m1, r1, h1, k.from p1⟩)
theorem we_call0 {k : Nat} {g : Addr} {S : FS} (Fn : FnD Cs X k g S) (hr : Rm k X.A) (hg : Gl X x) (hm : X.mg x = some (.ref g)) (hk : PySem.W.keepIn X.K (.ref g) = true) (h : S [] M Φ) (hdb : (x == ("__debug__" : Str)) = false := by decide) : WE Cs X (.Call (.Name x p) [] [] pos) ρ M Φ :=
  .mk fun F σ H A Q k => (pe_callG0 Fn hr hg hm hk pass0 hdb).sem ⟨_, [], M, Φ, A.mem, .nil, h, k⟩
theorem we_callB {id : String} (hg : Gl X x) (hm : X.mg x = none) (hv : bootBuiltins x = some (.builtin id)) (h : WA Cs X (e :: es) ρ M fun ds M1 => WC Cs X (.builtin id) ds M1 Φ) (hn : x ≠ "__name__" := by decide) (hdb : (x == ("__debug__" : Str)) = false := by decide)
    (he : starEach (e :: es) X.env = (false, eval e X.env) :: starEach es X.env := by rfl) (hpl : (backTo pos (starEach es X.env)).any (·.1) = false := by rfl) : WE Cs X (.Call (.Name x p) (e :: es) [] pos) ρ M Φ :=
  .mk fun F σ H A Q k => (pe_callB call_sem hg hm hv pa_sem hn hdb he hpl).sem (h.run _ σ H A _ fun vs ds H1 M1 p1 m1 r1 h1 => h1.run _ H1 vs m1 r1 Q (k.from p1))
theorem we_callTy {T : String} (hg : Gl X x) (hm : X.mg x = none) (hv : bootBuiltins x = some (.type T)) (h : WA Cs X (e :: es) ρ M fun ds M1 => WC Cs X (.type T) ds M1 Φ) (hn : x ≠ "__name__" := by decide) (hdb : (x == ("__debug__" : Str)) = false := by decide)
    (he : starEach (e :: es) X.env = (false, eval e X.env) :: starEach es X.env := by rfl) (hpl : (backTo pos (starEach es X.env)).any (·.1) = false := by rfl) : WE Cs X (.Call (.Name x p) (e :: es) [] pos) ρ M Φ :=
  .mk fun F σ H A Q k => (pe_callTy call_sem hg hm hv pa_sem hn hdb he hpl).sem (h.run _ σ H A _ fun vs ds H1 M1 p1 m1 r1 h1 => h1.run _ H1 vs m1 r1 Q (k.from p1))
/-! ### instances with slots -/
theorem rep_slt {H : Hp} {v : V} {c : Nat} {ds : List D} (r : Rep Cs (Zf F M) H v (.obj c ds)) : ∃ q dx vs, v = .ref q ∧ SlX.Slt H q (Cs c) dx (vs.map some) ∧ Reps Cs (Zf F M) H vs ds := by
  cases r with
  | obj hz hx h h2 r => exact ⟨_, _, _, rfl, .inr ⟨h, h2⟩, r⟩
theorem we_attr (h : WE Cs X e ρ M fun x M1 => WAt Cs X f x M1 Φ) (hb : attributeBase e f X.env (eval e X.env) = eval e X.env := by rfl) : WE Cs X (.Attribute e f pos) ρ M Φ :=
  .mk fun F σ H A Q k => (pe_attr pe_sem hb).sem (h.run _ σ H A _ fun v d H1 M1 p1 m1 r1 h1 => h1.run _ H1 v m1 r1 Q (k.from p1))
theorem wat_slot {c i : Nat} {q : Addr} {ds : List D} {d : D} (hc : SlX.SCls X.K (Cs c)) (hs : SlX.Slot1 X.K (Cs c) f q i) (hi : ds[i]? = some d) (h : Φ d M) : WAt Cs X f (.obj c ds) M Φ := .mk fun F H vx m r Q k pins s σ v I rv => by
  obtain ⟨qa, dx, vs, rfl, hsl, rs⟩ := rep_slt r
  obtain ⟨w, hw, rw'⟩ := rs.get hi
  cases rv
  exact SlX.getslot_ok I hsl hc hs (v := w) (by rw [List.getElem?_map, hw]; rfl) fun u s' I' ru => ⟨w, H, I', ru, k.here m rw' h⟩
theorem wat_prop {c k : Nat} {q g : Addr} {ds : List D} {S : FS} (hc : SlX.SCls X.K (Cs c)) (at_ : PySem.W.findIn X.K (.ref (Cs c)) f = some (some (.ref q))) (get : PySem.W.specialIn X.K (.ref q) "__get__" = some (some (.builtin "property.__get__")))
    (tk : PySem.W.takesIn X.K (.ref q) = some true) (rc : ∃ rest, PySem.W.recIn X.K q "property" = some (.ref g :: rest)) (Fn : FnD Cs X k g S) (hr : Rm (k + 1) X.A) (h : S [.obj c ds] M Φ) : WAt Cs X f (.obj c ds) M Φ := .mk fun F H vx m r Q k pins s σ v I rv => by
  obtain ⟨qa, dx, vs, rfl, hsl, rs⟩ := rep_slt r
  cases rv
  exact getprop_g (E := E0) I hsl hc at_ get tk rc Fn hr (fun _ _ _ _ z => z) ⟨_, _, M, Φ, m, .cons r .nil, h, k⟩
/-- o.m(e, ..) -/
theorem we_meth {c k : Nat} {g : Addr} {S : FS} {pl : Sem Bool} (hc : SlX.SCls X.K (Cs c)) (hm : Meth X.K (Cs c) m g) (Fn : FnD Cs X k g S) (hr : Rm k X.A) (h : WE Cs X a ρ M fun x M1 => ∃ ds, x = .obj c ds ∧ WA Cs X (e :: es) ρ M1 fun as M2 => S (.obj c ds :: as) M2 Φ)
    (hst : starEach (e :: es) X.env = (false, eval e X.env) :: starEach es X.env := by rfl) (hpl : (backTo pos (starEach es X.env)).any (·.1) = false := by rfl)
    (ht : eval (.Call (.Attribute a m apos) (e :: es) [] pos) X.env = (do
      let ov ← eval a X.env
      standAt apos.atName
      let (f, first) ← holding [ov] (getMethod ov m pl)
      callWith pos f first (backTo pos (starEach (e :: es) X.env)) (backToKw pos (keywordEach [] X.env))) := by rfl) : WE Cs X (.Call (.Attribute a m apos) (e :: es) [] pos) ρ M Φ :=
  .mk fun F σ H A Q k => (pe_methG (E := E0) (pl := pl) pe_sem hc hm Fn hr pass0 pa_sem hst hpl ht).sem (h.run _ σ H A _ fun v d H1 M1 p1 m1 r1 h1 => by
    obtain ⟨ds, rfl, h1⟩ := h1
    obtain ⟨qa, dx, vs, rfl, hsl, rs⟩ := rep_slt r1
    exact ⟨qa, dx, _, rfl, hsl, h1.run _ σ H1 (A.go p1 m1) _ fun ws as H2 M2 p2 m2 r2 h2 => ⟨_, _, M2, Φ, m2, .cons (r1.go p2) r2, h2, k.from (p1.trans p2)⟩⟩)
/-! ### statements -/
theorem wss_nil (h : E.nx ρ M) : WSs Cs X [] ρ M E := .mk fun F σ H A Dn k => pss_nil.sem (k.nx σ ρ H M .refl A h)
theorem wss_cons (h : WS Cs X st ρ M { E with nx := fun ρ' M' => WSs Cs X rest ρ' M' E }) : WSs Cs X (st :: rest) ρ M E :=
  .mk fun F σ H A Dn k => (pss_cons ps_sem pss_sem).sem (h.run _ σ H A { Dn with nx := semSs X rest Dn } ⟨fun σ' ρ' H' M' p A' w => w.run _ σ' H' A' Dn (k.from p), k.rt, k.bk, k.ct⟩)
theorem wss_one (h : WS Cs X st ρ M E) : WSs Cs X [st] ρ M E := .mk fun F σ H A Dn k => (pss_one ps_sem).sem (h.run _ σ H A Dn k)
theorem ws_ret (h : WE Cs X e ρ M E.rt) : WS Cs X (.Return (some e) pos) ρ M E := .mk fun F σ H A Dn k => (ps_ret pe_sem).sem (h.run _ σ H A _ k.rt)
theorem ws_expr (h : WE Cs X e ρ M fun _ M1 => E.nx ρ M1) (hs : swapsWith e none pos.line X.env = pure false := by rfl) : WS Cs X (.Expr e pos) ρ M E :=
  .mk fun F σ H A Dn k => (ps_expr pe_sem hs).sem (h.run _ σ H A _ fun v d H1 M1 p1 m1 r1 h1 => k.nx σ ρ H1 M1 p1 (A.go p1 m1) h1)
theorem ws_if {s1 s2 : List Stmt} (h : WT Cs X c ρ M fun t M1 => (t = true → WSs Cs X s1 ρ M1 E) ∧ (t = false → WSs Cs X s2 ρ M1 E)) : WS Cs X (.If c s1 s2 pos) ρ M E :=
  .mk fun F σ H A Dn k => (ps_if pt_sem pss_sem pss_sem).sem (h.run _ σ H A _ fun t H1 M1 p1 m1 h1 => by
    cases t with
    | true => rw [if_pos rfl]; exact (h1.1 rfl).run _ σ H1 (A.go p1 m1) Dn (k.from p1)
    | false => rw [if_neg Bool.false_ne_true]; exact (h1.2 rfl).run _ σ H1 (A.go p1 m1) Dn (k.from p1))
theorem At.set {H : Hp} {σ : L2.St} (A : At Cs F M H σ ρ) {v : V} {d : D} (i : Nat) (r : Rep Cs (Zf F M) H v d) : At Cs F M H (σ.set i (some v)) (ρ.set i (some d)) :=
  ⟨A.mem, by rw [List.length_set, List.length_set, A.len], fun j d' e => by
    by_cases hj : j = i
    · subst hj
      by_cases hl : j < ρ.length
      · rw [List.getElem?_set_self hl] at e
        cases e
        exact ⟨v, by rw [List.getElem?_set_self (by rw [A.len]; exact hl)], r⟩
      · rw [List.getElem?_eq_none_iff.mpr (by rw [List.length_set]; omega)] at e
        cases e
    · rw [List.getElem?_set_ne (Ne.symm hj)] at e
      obtain ⟨w, h1, h2⟩ := A.env j d' e
      exact ⟨w, by rw [List.getElem?_set_ne (Ne.symm hj)]; exact h1, h2⟩⟩
theorem ws_set {pos' : Pos} (i : Nat) (hN : X.N.Nodup) (hi : X.N[i]? = some x) (hx : Loc X.env.scope x) (h : WE Cs X e ρ M fun d M1 => E.nx (ρ.set i (some d)) M1) (hs : swapsWith e (some (.Name x pos')) pos.line X.env = pure false := by rfl)
    (hf : X.fn x = true ∨ X.env.scope.names.lookup x = some .local := by first | exact .inl rfl | exact .inr rfl) : WS Cs X (.Assign [.Name x pos'] e pos) ρ M E :=
  .mk fun F σ H A Dn k => (ps_set hN hi hx pe_sem hs hf).sem (h.run _ σ H A _ fun v d H1 M1 p1 m1 r1 h1 => k.nx _ _ H1 M1 p1 ((A.go p1 m1).set i r1) h1)
/-! ### targets -/
theorem wg_name {d : D} {K : Env → Mem → Prop} (i : Nat) (hN : X.N.Nodup) (hi : X.N[i]? = some x) (hx : Loc X.env.scope x) (h : K (ρ.set i (some d)) M) (hf : X.fn x = true ∨ X.env.scope.names.lookup x = some .local := by first | exact .inl rfl | exact .inr rfl) : WG Cs X (.Name x pos) d ρ M K :=
  .mk fun F σ H v A r Q k => (pg_name hN hi hx hf).sem (k _ _ H M .refl (A.set i r) h)
theorem wgs_nil {K : Env → Mem → Prop} (h : K ρ M) : WGs Cs X [] [] ρ M K := .mk fun F σ H vs A r Q k => pgs_nil.sem (by cases r; exact ⟨rfl, k _ _ H M .refl A h⟩)
theorem wgs_cons {d : D} {ds : List D} {K : Env → Mem → Prop} (h : WG Cs X e d ρ M fun ρ1 M1 => WGs Cs X es ds ρ1 M1 K) (hs : (assignEach (e :: es) X.env).map (·.2) = assign e X.env :: (assignEach es X.env).map (·.2) := by rfl) : WGs Cs X (e :: es) (d :: ds) ρ M K :=
  .mk fun F σ H vs A r Q k => (pgs_cons pg_sem pgs_sem hs).sem (by
    cases r with
    | cons r rr => exact ⟨_, _, rfl, h.run _ σ H _ A r _ fun σ1 ρ1 H1 M1 p1 A1 w => w.run _ σ1 H1 _ A1 (rr.go p1) Q fun σ2 ρ2 H2 M2 p2 A2 w2 => k σ2 ρ2 H2 M2 (p1.trans p2) A2 w2⟩)
theorem wg_tup {ds : List D} {kk n : Nat} {K : Env → Mem → Prop} (hc : X.calm = true) (hl : ds.length = n) (h : WGs Cs X es ds ρ M K) (hn : (assignEach es X.env).length = n := by rfl) (hst : (assignEach es X.env).findIdx? (·.1) = none := by rfl) : WG Cs X (.Tuple es kk pos) (.tup ds) ρ M K :=
  .mk fun F σ H v A r Q k => (pg_tup hc pgs_sem hn hst).sem (by
    cases r with
    | tup hz hr rs => exact ⟨_, _, rfl, .inl hr, by rw [rs.length]; exact hl, h.run _ σ H _ A rs Q k⟩)
theorem wg_unl {ds : List D} {kk n : Nat} {K : Env → Mem → Prop} (hc : X.calm = true) (hl : ds.length = n) (h : WGs Cs X es ds ρ M K) (hn : (assignEach es X.env).length = n := by rfl) (hst : (assignEach es X.env).findIdx? (·.1) = none := by rfl) : WG Cs X (.Tuple es kk pos) (.lst ds) ρ M K :=
  .mk fun F σ H v A r Q k => (pg_unl hc pgs_sem hn hst).sem (by
    cases r with
    | lst hz hr rs => exact ⟨_, _, rfl, .inl hr, by rw [rs.length]; exact hl, h.run _ σ H _ A rs Q k⟩)
theorem ws_asg {tg : Expr} (h : WE Cs X e ρ M fun d M1 => WG Cs X tg d ρ M1 E.nx) (hs : swapsWithSole [tg] e pos.line X.env = pure false := by rfl) (hw : swappedStores [tg] e X.env = pure none := by rfl)
    (h1 : (assignEach [tg] X.env).map (·.2) = [assign tg X.env] := by rfl) : WS Cs X (.Assign [tg] e pos) ρ M E :=
  .mk fun F σ H A Dn k => (ps_asg pe_sem pg_sem hs hw h1).sem (h.run _ σ H A _ fun v d H1 M1 p1 m1 r1 w => w.run _ σ H1 v (A.go p1 m1) r1 _ fun σ2 ρ2 H2 M2 p2 A2 w2 => k.nx σ2 ρ2 H2 M2 (p1.trans p2) A2 w2)
/-- x, y = a, b -/
theorem ws_par {y : Str} {px py pt pt2 : Pos} {kt k2 : Nat} (i j : Nat) (hc : X.calm = true) (hN : X.N.Nodup) (hi : X.N[i]? = some x) (hj : X.N[j]? = some y) (hij : i ≠ j)
    (hx : X.env.scope.names.lookup x = some .local) (hy : X.env.scope.names.lookup y = some .local)
    (hw : swappedStores [.Tuple [.Name x px, .Name y py] kt pt] (.Tuple [a, b] k2 pt2) X.env = pure (some [x, y]))
    (h : WA Cs X [a, b] ρ M fun ds M1 => ∃ d1 d2, ds = [d1, d2] ∧ E.nx ((ρ.set i (some d1)).set j (some d2)) M1)
    (hs : swapsWithSole [.Tuple [.Name x px, .Name y py] kt pt] (.Tuple [a, b] k2 pt2) pos.line X.env = pure false := by rfl) : WS Cs X (.Assign [.Tuple [.Name x px, .Name y py] kt pt] (.Tuple [a, b] k2 pt2) pos) ρ M E :=
  .mk fun F σ H A Dn k => (ps_par hc hN hi hj hij hx hy pa_sem hw hs).sem (h.run _ σ H A _ fun vs ds H1 M1 p1 m1 r1 h1 => by
    obtain ⟨d1, d2, rfl, h1⟩ := h1
    cases r1 with
    | cons r1 rr =>
      cases rr with
      | cons r2 rr =>
        cases rr
        exact ⟨_, _, rfl, k.nx _ _ H1 M1 p1 (((A.go p1 m1).set i r1).set j r2) h1⟩)
/-! ### loops -/
theorem loop_turn {I : Nat → Env → Mem → Prop} {Dn : Ends} {M1 M' : Mem} {H1 H' : Hp} {σ' : L2.St} {ρ' : Env} {v : V} {d : D} {i : Nat} {tg : Expr} (k : EndsOk Cs F M1 H1 E Dn) (p : Post M1 H1 M' H') (A : At Cs F M' H' σ' ρ') (r : Rep Cs (Zf F M') H' v d)
    (w : WG Cs X tg d ρ' M' fun ρ2 M2 => WSs Cs X body ρ2 M2 { E with nx := I (i + 1), ct := I (i + 1), bk := E.nx }) :
    semG X tg v σ' H' fun σ2 H2 => semSs X body { Dn with nx := fun σ3 H3 => ∃ ρ3 M3, Post M1 H1 M3 H3 ∧ At Cs F M3 H3 σ3 ρ3 ∧ I (i + 1) ρ3 M3, ct := fun σ3 H3 => ∃ ρ3 M3, Post M1 H1 M3 H3 ∧ At Cs F M3 H3 σ3 ρ3 ∧ I (i + 1) ρ3 M3, bk := Dn.nx } σ2 H2 :=
  w.run _ σ' H' v A r _ fun σ2 ρ2 H2 M2 p2 A2 w2 => w2.run _ σ2 H2 A2 _ ⟨fun σ3 ρ3 H3 M3 p3 A3 q => ⟨ρ3, M3, (p.trans p2).trans p3, A3, q⟩, (k.from (p.trans p2)).rt, (k.from (p.trans p2)).nx, fun σ3 ρ3 H3 M3 p3 A3 q => ⟨ρ3, M3, (p.trans p2).trans p3, A3, q⟩⟩
def upTo (n : Nat) : List D := (List.range n).map fun i : Nat => D.int (i : Int)
theorem ws_while {W : Nat → Env → Mem → Prop} (hp : PassesOwn (model X.prog X.w) X.A X.env X.xe) (m0 : Nat) (h0 : W m0 ρ M)
    (hs : ∀ m ρ' M', W m ρ' M' → WT Cs X c ρ' M' fun t M1 => (t = true → WSs Cs X body ρ' M1 { E with nx := fun ρ2 M2 => ∃ m', m' < m ∧ W m' ρ2 M2, ct := fun ρ2 M2 => ∃ m', m' < m ∧ W m' ρ2 M2, bk := E.nx }) ∧ (t = false → E.nx ρ' M1)) : WS Cs X (.While c body [] pos) ρ M E :=
  .mk fun F σ H A Dn k => (ps_while hp pt_sem pss_sem).sem (by
    refine ⟨fun m σ' H' => ∃ ρ' M', Post M H M' H' ∧ At Cs F M' H' σ' ρ' ∧ W m ρ' M', ⟨m0, ρ, M, .refl, A, h0⟩, ?_⟩
    rintro m σ' H' ⟨ρ', M', p', A', w⟩
    refine (hs m ρ' M' w).run _ σ' H' A' _ fun t H1 M1 p1 m1 h1 => ?_
    cases t with
    | true =>
      rw [if_pos rfl]
      refine ⟨fun σ2 H2 => ∃ m', m' < m ∧ ∃ ρ2 M2, Post M H M2 H2 ∧ At Cs F M2 H2 σ2 ρ2 ∧ W m' ρ2 M2, fun σ2 H2 ⟨m', hm, q⟩ => ⟨m', hm, q⟩, ?_⟩
      have pp := p'.trans p1
      exact (h1.1 rfl).run _ σ' H1 (A'.go p1 m1) _ ⟨fun σ3 ρ3 H3 M3 p3 A3 ⟨m', hm, q⟩ => ⟨m', hm, ρ3, M3, pp.trans p3, A3, q⟩, (k.from pp).rt, (k.from pp).nx, fun σ3 ρ3 H3 M3 p3 A3 ⟨m', hm, q⟩ => ⟨m', hm, ρ3, M3, pp.trans p3, A3, q⟩⟩
    | false =>
      rw [if_neg Bool.false_ne_true]
      exact k.nx σ' ρ' H1 M1 (p'.trans p1) (A'.go p1 m1) (h1.2 rfl))
end
end DL
namespace DL
open PySem PySem.Spec PyProof.Rows L2
section
variable {Cs : Gc} {F : Addr → Prop} {X : Cx} {ρ : Env} {M : Mem} {a b c e : Expr} {es : List Expr} {pos p apos : Pos} {Φ : D → Mem → Prop} {Ψ : Bool → Mem → Prop} {st : Stmt} {sts rest body : List Stmt} {E : DE} {x f m : Str}
/-! ### stores into slots -/
def putO (i : Nat) (d : D) (os : List (Option D)) : List (Option D) := (os ++ List.replicate (i + 1 - os.length) none).set i (some d)
theorem RepO.length {Z : Addr → Prop} {H : Hp} : ∀ {vs : List (Option V)} {os : List (Option D)}, RepO Cs Z H vs os → vs.length = os.length
  | _, _, .nil => rfl
  | _, _, .none r => congrArg Nat.succ (RepO.length r)
  | _, _, .some _ r => congrArg Nat.succ (RepO.length r)
theorem RepO.nones {Z : Addr → Prop} {H : Hp} : ∀ n : Nat, RepO Cs Z H (List.replicate n Option.none) (List.replicate n Option.none)
  | 0 => .nil
  | n + 1 => .none (RepO.nones n)
theorem RepO.append {Z : Addr → Prop} {H : Hp} : ∀ {vs ws : List (Option V)} {os us : List (Option D)}, RepO Cs Z H vs os → RepO Cs Z H ws us → RepO Cs Z H (vs ++ ws) (os ++ us)
  | _, _, _, _, .nil, q => q
  | _, _, _, _, .none r, q => .none (RepO.append r q)
  | _, _, _, _, .some h r, q => .some h (RepO.append r q)
theorem RepO.set {Z : Addr → Prop} {H : Hp} {v : V} {d : D} (q : Rep Cs Z H v d) : ∀ {vs : List (Option V)} {os : List (Option D)} (i : Nat), RepO Cs Z H vs os → RepO Cs Z H (vs.set i (Option.some v)) (os.set i (Option.some d))
  | _, _, _, .nil => .nil
  | _, _, 0, .none r => .some q r
  | _, _, 0, .some _ r => .some q r
  | _, _, i + 1, .none r => .none (RepO.set q i r)
  | _, _, i + 1, .some h r => .some h (RepO.set q i r)
theorem RepO.put {Z : Addr → Prop} {H : Hp} {v : V} {d : D} {vs : List (Option V)} {os : List (Option D)} (r : RepO Cs Z H vs os) (q : Rep Cs Z H v d) (i : Nat) : RepO Cs Z H (SlX.putS i v vs) (putO i d os) := by
  unfold SlX.putS putO
  rw [r.length]
  exact RepO.set q i (r.append (RepO.nones _))
theorem RepO.all {Z : Addr → Prop} {H : Hp} : ∀ {vs : List (Option V)} {ds : List D}, RepO Cs Z H vs (ds.map Option.some) → ∃ ws : List V, vs = ws.map Option.some ∧ Reps Cs Z H ws ds
  | _, [], .nil => ⟨[], rfl, .nil⟩
  | _, d :: ds, .some h r => by
    obtain ⟨ws, e, q⟩ := RepO.all (ds := ds) r
    exact ⟨_ :: ws, by rw [e]; rfl, .cons h q⟩
/-- o.f = e, o an instance with slots that is being made -/
theorem ws_slot {c i : Nat} {q : Addr} {o : Expr} {pos' : Pos} (hc : SlX.SCls X.K (Cs c)) (hs : SlX.Slot1 X.K (Cs c) f q i)
    (h : WE Cs X e ρ M fun d M1 => WE Cs X o ρ M1 fun x M2 => ∃ a dx os, x = .ref a ∧ M2 a = some (.slt c dx os) ∧ E.nx ρ (put M2 a (.slt c dx (putO i d os))))
    (hsw : swapsWith e (some (.Attribute o f pos')) pos.line X.env = pure false := by rfl) : WS Cs X (.Assign [.Attribute o f pos'] e pos) ρ M E :=
  .mk fun F σ H A Dn k => (SlX.ps_sl pe_sem pe_sem hsw).sem (h.run _ σ H A _ fun vy d H1 M1 p1 m1 r1 h1 => h1.run _ σ H1 (A.go p1 m1) _ fun vx x H2 M2 p2 m2 r2 h2 => by
    obtain ⟨a, dx, os, rfl, hM, hn⟩ := h2
    cases r2
    obtain ⟨ne, hx, vs, hsl, ro⟩ := m2.at_ a _ hM
    refine ⟨a, Cs c, dx, q, vs, i, rfl, hsl, hc, hs, ?_⟩
    have hxa : dx ≠ a := ne
    have pp : Post M2 H2 (put M2 a (.slt c dx (putO i d os))) (SlX.slH H2 a (Cs c) dx (SlX.putS i vy vs)) := by
      refine ⟨fun b o hb ho => ?_, fun b hb => ?_⟩
      · rw [SlX.slH_ne (fun z => by rw [z, hM] at hb; cases hb) (fun z => by rw [z, hx] at hb; cases hb)]
        exact .inl ho
      · by_cases e : b = a
        · left; rw [e, hM]; exact fun z => nomatch z
        · rw [put_ne e] at hb; exact .inl hb
    have mm : MemAt Cs F (put M2 a (.slt c dx (putO i d os))) (SlX.slH H2 a (Cs c) dx (SlX.putS i vy vs)) := by
      refine m2.go pp fun b n hb => ?_
      by_cases e : b = a
      · subst e
        rw [put_same] at hb
        cases hb
        refine .inr ⟨ne, by rw [put_ne ne]; exact hx, _, SlX.slH_slt ne, ?_⟩
        exact (ro.go pp).put ((r1.go p2).go pp) i
      · rw [put_ne e] at hb
        by_cases e2 : b = dx
        · subst e2
          rw [hx] at hb
          cases hb
          refine .inr ⟨.xd [], ?_⟩
          unfold SlX.slH
          rw [upd_ne e, upd_same]
        · have key : ∀ z o, z ≠ a → z ≠ dx → H2 z = some o → SlX.slH H2 a (Cs c) dx (SlX.putS i vy vs) z = some o := fun z o n1 n2 ho => by rw [SlX.slH_ne n1 n2]; exact ho
          refine .inl ⟨hb, fun o => key b o e e2, fun dx' z => ?_⟩
          obtain ⟨ne', hx'⟩ := (m2.at_ b _ hb).aux z
          have hda : dx' ≠ a := fun z => by rw [z, hM] at hx'; cases hx'
          have hdd : dx' ≠ dx := fun z => by rw [z, hx] at hx'; cases hx'; exact e rfl
          exact ⟨fun o => key dx' o hda hdd, by rw [put_ne hda]; exact hx'⟩
    exact k.nx σ ρ _ _ ((p1.trans p2).trans pp) ((A.go (p1.trans p2) m2).go pp mm) hn)
/-- C(e, ..) of a class with slots: told by the data of its slots when __init__ is through -/
theorem we_make {n k : Nat} {g : Addr} {S : FS} (Mk' : Mk X.K (Cs n) g) (Fn : FnD Cs X k g S) (hr : Rm (k + 1) X.A) (hg : Gl X x) (hm : X.mg x = some (.ref (Cs n)))
    (h : WA Cs X (e :: es) ρ M fun ds M1 => ∀ a dx, M1 a = none → M1 dx = none → dx ≠ a → S (.ref a :: ds) (put (put M1 dx (.aux a)) a (.slt n dx [])) fun d M2 => d = .non ∧ ∃ ds', ds' ≠ [] ∧ M2 a = some (.slt n dx (ds'.map some)) ∧ Φ (.obj n ds') (era (era M2 a) dx))
    (hdb : (x == ("__debug__" : Str)) = false := by decide) (he : starEach (e :: es) X.env = (false, eval e X.env) :: starEach es X.env := by rfl) (hpl : (backTo pos (starEach es X.env)).any (·.1) = false := by rfl) : WE Cs X (.Call (.Name x p) (e :: es) [] pos) ρ M Φ :=
  .mk fun F σ H A Q k => (pe_makeG (E := E0) Mk' Fn hr hg hm pass0 pa_sem hdb he hpl).sem (h.run _ σ H A _ fun vs ds H1 M1 p1 m1 r1 h1 => fun y dx hy hdx ne => by
    have py : Post M1 H1 (put (put M1 dx (.aux y)) y (.slt n dx [])) (upd (upd H1 dx (.own y)) y (.ins (Cs n) dx [])) := by
      refine ⟨fun b o hb ho => ?_, fun b hb => ?_⟩
      · rw [upd_ne (ne_of_none ho hy), upd_ne (ne_of_none ho hdx)]; exact .inl ho
      · by_cases e1 : b = y
        · exact .inr (by rw [e1]; exact hy)
        · rw [put_ne e1] at hb
          by_cases e2 : b = dx
          · exact .inr (by rw [e2]; exact hdx)
          · rw [put_ne e2] at hb; exact .inl hb
    have my : MemAt Cs F (put (put M1 dx (.aux y)) y (.slt n dx [])) (upd (upd H1 dx (.own y)) y (.ins (Cs n) dx [])) := by
      refine m1.go py fun b nn hb => ?_
      by_cases e1 : b = y
      · subst e1
        rw [put_same] at hb
        cases hb
        exact .inr ⟨ne, by rw [put_ne ne, put_same], [], .inl ⟨upd_same, rfl⟩, .nil⟩
      · rw [put_ne e1] at hb
        by_cases e2 : b = dx
        · subst e2
          rw [put_same] at hb
          cases hb
          exact .inr ⟨.own y, by rw [upd_ne e1, upd_same]⟩
        · rw [put_ne e2] at hb
          have key : ∀ z o, H1 z = some o → upd (upd H1 dx (.own y)) y (.ins (Cs n) dx []) z = some o := fun z o ho => by rw [upd_ne (ne_of_none ho hy), upd_ne (ne_of_none ho hdx)]; exact ho
          refine .inl ⟨hb, key b, fun dx' z => ⟨key dx', ?_⟩⟩
          have q := ((m1.at_ b _ hb).aux z).2
          rw [put_ne (fun z => by rw [z, m1.old hy] at q; cases q), put_ne (fun z => by rw [z, m1.old hdx] at q; cases q)]
          exact q
    refine ⟨F, .ref y :: ds, _, _, my, .cons (.ref y) (r1.go py), h1 y dx (m1.old hy) (m1.old hdx) ne, fun v d H2 M2 p2 m2 r2 h2 => ?_⟩
    obtain ⟨rfl, ds', hne, hM2, hΦ⟩ := h2
    cases r2
    refine ⟨rfl, ?_⟩
    obtain ⟨ne2, hx2, ws, hsl, ro⟩ := m2.at_ y _ hM2
    obtain ⟨us, rfl, rs⟩ := RepO.all ro
    have hle : ∀ b, era (era M2 y) dx b ≠ none → M2 b ≠ none := fun b hb => by
      by_cases e1 : b = dx
      · rw [e1, era_same] at hb; exact absurd rfl hb
      · rw [era_ne e1] at hb
        by_cases e2 : b = y
        · rw [e2, era_same] at hb; exact absurd rfl hb
        · rw [era_ne e2] at hb; exact hb
    have p3 : Post M2 H2 (era (era M2 y) dx) H2 := Post.sub hle
    have hy2 : ¬ Zf F (era (era M2 y) dx) y := fun z => by
      rcases z with z | z
      · exact (m1.ff y z).2 hy
      · rw [era_ne (Ne.symm ne), era_same] at z; exact z rfl
    have hdx2 : ¬ Zf F (era (era M2 y) dx) dx := fun z => by
      rcases z with z | z
      · exact (m1.ff dx z).2 hdx
      · rw [era_same] at z; exact z rfl
    have m3 : MemAt Cs F (era (era M2 y) dx) H2 := by
      refine m2.go p3 fun b nn hb => ?_
      have b1 : b ≠ dx := fun z => by rw [z, era_same] at hb; cases hb
      rw [era_ne b1] at hb
      have b2 : b ≠ y := fun z => by rw [z, era_same] at hb; cases hb
      rw [era_ne b2] at hb
      refine .inl ⟨hb, fun _ z => z, fun dx' z => ⟨fun _ z => z, ?_⟩⟩
      have q := ((m2.at_ b _ hb).aux z).2
      rw [era_ne (fun z => by rw [z, hx2] at q; cases q; exact b2 rfl), era_ne (fun z => by rw [z, hM2] at q; cases q)]
      exact q
    refine k _ _ H2 _ ((p1.trans (py.trans p2)).trans p3) m3 ?_ hΦ
    have hsl2 : H2 y = some (SlX.SlO y (Cs n) dx (us.map some)) ∧ H2 dx = some (.xd []) := by
      rcases hsl with ⟨z1, z2⟩ | z
      · have e0 : us = [] := by simpa using z2
        have l0 := rs.length
        rw [e0] at l0
        exact absurd (List.length_eq_zero_iff.mp l0.symm) hne
      · exact z
    exact .obj hy2 hdx2 hsl2.1 hsl2.2 (rs.go p3))
end
end DL
namespace DL
open PySem PySem.Spec PyProof.Rows L2
section
variable {Cs : Gc} {F : Addr → Prop} {X : Cx} {ρ : Env} {M : Mem} {a b c e : Expr} {es : List Expr} {pos p apos : Pos} {Φ : D → Mem → Prop} {Ψ : Bool → Mem → Prop} {st : Stmt} {sts rest body : List Stmt} {E : DE} {x f m : Str}
/-! ### ints -/
theorem wo_I {f : Value → Value → Sem Value} {C : Int → Int → Prop} {g : Int → Int → Int} {i j : Int} (ho : OpR X f (rI C fun i j => .int (g i j))) (hc : C i j) (h : Φ (.int (g i j)) M) : WO Cs X f (.int i) (.int j) M Φ := .mk fun F H vx vy m rx ry Q k => by
  cases rx; cases ry
  exact ho.sem ⟨i, j, rfl, rfl, hc, k.here m (.int _) h⟩
theorem wo_I0 {f : Value → Value → Sem Value} {g : Int → Int → Int} {i j : Int} (ho : OpR X f (rI0 fun i j => .int (g i j))) (h : Φ (.int (g i j)) M) : WO Cs X f (.int i) (.int j) M Φ := .mk fun F H vx vy m rx ry Q k => by
  cases rx; cases ry
  exact ho.sem ⟨i, j, rfl, rfl, k.here m (.int _) h⟩
theorem wo_B0 {f : Value → Value → Sem Value} {g : Int → Int → Bool} {i j : Int} (ho : OpR X f (rI0 fun i j => .bl (g i j))) (h : Φ (.bl (g i j)) M) : WO Cs X f (.int i) (.int j) M Φ := .mk fun F H vx vy m rx ry Q k => by
  cases rx; cases ry
  exact ho.sem ⟨i, j, rfl, rfl, k.here m (.bl _) h⟩
theorem wo_add {i j : Int} (h : Φ (.int (i + j)) M) : WO Cs X (binaryOp .Add) (.int i) (.int j) M Φ := wo_I0 op_add h
theorem wo_sub {i j : Int} (h : Φ (.int (i - j)) M) : WO Cs X (binaryOp .Sub) (.int i) (.int j) M Φ := wo_I0 op_sub h
theorem wo_mul {i j : Int} (hc : CMulW i j) (h : Φ (.int (i * j)) M) : WO Cs X (binaryOp .Mult) (.int i) (.int j) M Φ := wo_I op_mulW hc h
theorem wo_fdiv {i j : Int} (hc : CDivW i j) (h : Φ (.int (i / j)) M) : WO Cs X (binaryOp .FloorDiv) (.int i) (.int j) M Φ := wo_I op_fdivW hc h
theorem wo_mod {i j : Int} (hc : 0 < j) (h : Φ (.int (i % j)) M) : WO Cs X (binaryOp .Mod) (.int i) (.int j) M Φ := wo_I op_mod hc h
theorem op_powG : OpR X (binaryOp .Pow) (rI (fun i j => 0 ≤ j ∧ (Builtin.Int.intBits i : Int) * j ≤ 2 ^ 27) fun i j => .int (i ^ j.toNat)) := opI fun _ _ _ _ _ _ _ hc q => pow_int hc.1 hc.2 q
theorem wo_pow {i j : Int} (hc : 0 ≤ j ∧ (Builtin.Int.intBits i : Int) * j ≤ 2 ^ 27) (h : Φ (.int (i ^ j.toNat)) M) : WO Cs X (binaryOp .Pow) (.int i) (.int j) M Φ := wo_I op_powG hc h
theorem wo_lt {i j : Int} (h : Φ (.bl (decide (i < j))) M) : WO Cs X (compareOp .Lt) (.int i) (.int j) M Φ := wo_B0 op_lt h
theorem wo_le {i j : Int} (h : Φ (.bl (decide (i ≤ j))) M) : WO Cs X (compareOp .LtE) (.int i) (.int j) M Φ := wo_B0 op_le h
theorem wo_gt {i j : Int} (h : Φ (.bl (decide (j < i))) M) : WO Cs X (compareOp .Gt) (.int i) (.int j) M Φ := wo_B0 op_gt h
theorem wo_ge {i j : Int} (h : Φ (.bl (decide (j ≤ i))) M) : WO Cs X (compareOp .GtE) (.int i) (.int j) M Φ := wo_B0 op_ge h
theorem dec_int (i j : Int) : decide (V.int i = V.int j) = decide (i = j) := by
  by_cases h : i = j
  · rw [h, decide_eq_true rfl, decide_eq_true rfl]
  · rw [decide_eq_false h, decide_eq_false (fun z => h (V.int.inj z))]
theorem dec_bl (i j : Bool) : decide (V.bl i = V.bl j) = decide (i = j) := by
  by_cases h : i = j
  · rw [h, decide_eq_true rfl, decide_eq_true rfl]
  · rw [decide_eq_false h, decide_eq_false (fun z => h (V.bl.inj z))]
theorem dec_str (i j : Str) : decide (V.str i = V.str j) = decide (i = j) := by
  by_cases h : i = j
  · rw [h, decide_eq_true rfl, decide_eq_true rfl]
  · rw [decide_eq_false h, decide_eq_false (fun z => h (V.str.inj z))]
theorem wo_eqI {i j : Int} (h : Φ (.bl (decide (i = j))) M) : WO Cs X (compareOp .Eq) (.int i) (.int j) M Φ := .mk fun F H vx vy m rx ry Q k => by
  cases rx; cases ry
  exact op_eq.sem ⟨rfl, by rw [dec_int]; exact k.here m (.bl _) h⟩
theorem wo_neI {i j : Int} (h : Φ (.bl (!decide (i = j))) M) : WO Cs X (compareOp .NotEq) (.int i) (.int j) M Φ := .mk fun F H vx vy m rx ry Q k => by
  cases rx; cases ry
  exact op_ne.sem ⟨rfl, by rw [dec_int]; exact k.here m (.bl _) h⟩
theorem wo_eqB {i j : Bool} (h : Φ (.bl (decide (i = j))) M) : WO Cs X (compareOp .Eq) (.bl i) (.bl j) M Φ := .mk fun F H vx vy m rx ry Q k => by
  cases rx; cases ry
  exact op_eq.sem ⟨rfl, by rw [dec_bl]; exact k.here m (.bl _) h⟩
theorem wo_neB {i j : Bool} (h : Φ (.bl (!decide (i = j))) M) : WO Cs X (compareOp .NotEq) (.bl i) (.bl j) M Φ := .mk fun F H vx vy m rx ry Q k => by
  cases rx; cases ry
  exact op_ne.sem ⟨rfl, by rw [dec_bl]; exact k.here m (.bl _) h⟩
theorem wo_eqS {i j : Str} (h : Φ (.bl (decide (i = j))) M) : WO Cs X (compareOp .Eq) (.str i) (.str j) M Φ := .mk fun F H vx vy m rx ry Q k => by
  cases rx; cases ry
  exact op_eq.sem ⟨rfl, by rw [dec_str]; exact k.here m (.bl _) h⟩
theorem wo_neS {i j : Str} (h : Φ (.bl (!decide (i = j))) M) : WO Cs X (compareOp .NotEq) (.str i) (.str j) M Φ := .mk fun F H vx vy m rx ry Q k => by
  cases rx; cases ry
  exact op_ne.sem ⟨rfl, by rw [dec_str]; exact k.here m (.bl _) h⟩
def _root_.DL.D.isNon : D → Bool
  | .non => true
  | _ => false
theorem rep_non {Z : Addr → Prop} {H : Hp} {v : V} {d : D} (r : Rep Cs Z H v d) : decide (v = .non) = d.isNon := by
  cases r <;> rfl
theorem wo_isN {d : D} (h : Φ (.bl d.isNon) M) : WO Cs X (compareOp .Is) d .non M Φ := .mk fun F H vx vy m rx ry Q k => by
  cases ry
  exact op_isN.sem ⟨rfl, by rw [rep_non rx]; exact k.here m (.bl _) h⟩
theorem wo_notN {d : D} (h : Φ (.bl (!d.isNon)) M) : WO Cs X (compareOp .IsNot) d .non M Φ := .mk fun F H vx vy m rx ry Q k => by
  cases ry
  exact op_notN.sem ⟨rfl, by rw [rep_non rx]; exact k.here m (.bl _) h⟩
theorem wu_neg {i : Int} (h : Φ (.int (-i)) M) : WU Cs X (unaryOp .USub) (.int i) M Φ := .mk fun F H vx m rx Q k => by
  cases rx
  exact un_neg.sem ⟨i, rfl, k.here m (.int _) h⟩
/-! ### places of sequences -/
theorem atI_rep {Z : Addr → Prop} {H : Hp} {vs : List V} {ds : List D} {i : Int} {d : D} (r : Reps Cs Z H vs ds) (h : atI ds i = some d) : ∃ v, atI vs i = some v ∧ Rep Cs Z H v d := by
  unfold atI at h ⊢
  rw [r.length]
  cases e : ixN ds.length i with
  | none => rw [e] at h; cases h
  | some j =>
    rw [e] at h
    obtain ⟨v, h1, h2⟩ := r.get (show ds[j]? = some d from h)
    exact ⟨v, h1, h2⟩
theorem wix_tup {ds : List D} {i : Int} {d : D} (hi : atI ds i = some d) (h : Φ d M) : WIx Cs X (.tup ds) (.int i) M Φ := .mk fun F H vx vy m rx ry Q k => by
  cases ry
  cases rx with
  | tup hz hr rs =>
    obtain ⟨v, h1, h2⟩ := atI_rep rs hi
    exact ix_tup.sem ⟨_, _, i, v, rfl, rfl, .inl hr, h1, k.here m h2 h⟩
theorem wix_lst {ds : List D} {i : Int} {d : D} (hi : atI ds i = some d) (h : Φ d M) : WIx Cs X (.lst ds) (.int i) M Φ := .mk fun F H vx vy m rx ry Q k => by
  cases ry
  cases rx with
  | lst hz hr rs =>
    obtain ⟨v, h1, h2⟩ := atI_rep rs hi
    exact ix_list.sem ⟨_, _, i, v, rfl, rfl, .inl hr, h1, k.here m h2 h⟩
theorem wix_own {q : Addr} {ds : List D} {i : Int} {d : D} (hM : M q = some (.lst ds)) (hi : atI ds i = some d) (h : Φ d M) : WIx Cs X (.ref q) (.int i) M Φ := .mk fun F H vx vy m rx ry Q k => by
  cases ry
  cases rx
  obtain ⟨vs, h0, rs⟩ := m.at_ q _ hM
  obtain ⟨v, h1, h2⟩ := atI_rep rs hi
  exact ix_list.sem ⟨_, _, i, v, rfl, rfl, .inl (.inl h0), h1, k.here m h2 h⟩
/-- an owned list is changed -/
theorem lst_new {H : Hp} {q : Addr} {ds ds' : List D} {vs' : List V} (m : MemAt Cs F M H) (hM : M q = some (.lst ds)) (r : Reps Cs (Zf F M) H vs' ds') : Post M H (put M q (.lst ds')) (upd H q (.lst vs')) ∧ MemAt Cs F (put M q (.lst ds')) (upd H q (.lst vs')) := by
  have pp : Post M H (put M q (.lst ds')) (upd H q (.lst vs')) := ⟨fun b o hb ho => .inl (by rw [upd_ne (fun z => by rw [z, hM] at hb; cases hb)]; exact ho), fun b hb => by
    by_cases e : b = q
    · left; rw [e, hM]; exact fun z => nomatch z
    · rw [put_ne e] at hb; exact .inl hb⟩
  refine ⟨pp, m.go pp fun b n hb => ?_⟩
  by_cases e : b = q
  · subst e
    rw [put_same] at hb
    cases hb
    exact .inr ⟨vs', upd_same, r.go pp⟩
  · rw [put_ne e] at hb
    refine .inl ⟨hb, fun o ho => by rw [upd_ne e]; exact ho, fun dx z => ?_⟩
    have q1 := ((m.at_ b _ hb).aux z).2
    have ne : dx ≠ q := fun z => by rw [z, hM] at q1; cases q1
    exact ⟨fun o ho => by rw [upd_ne ne]; exact ho, by rw [put_ne ne]; exact q1⟩
/-- o[i] = e, o an owned list -/
theorem wg_sub {o i : Expr} {d : D} {K : Env → Mem → Prop} (h : WE Cs X o ρ M fun x M1 => WE Cs X i ρ M1 fun y M2 => ∃ q ds n j, x = .ref q ∧ y = .int n ∧ M2 q = some (.lst ds) ∧ ixN ds.length n = some j ∧ K ρ (put M2 q (.lst (ds.set j d))))
    (ha : ∀ v, assign (.Subscript o i pos) X.env v = (do
      let ov ← holding [v] (eval o X.env)
      let iv ← holding [v, ov] (eval i X.env)
      standAt pos
      holding [v, ov, iv] (setItem ov iv v)
      release [v, ov, iv] []) := by intro _; rfl) : WG Cs X (.Subscript o i pos) d ρ M K :=
  .mk fun F σ H v A r Q k => (pg_sub pe_sem pe_sem set_list ha).sem (h.run _ σ H A _ fun vx x H1 M1 p1 m1 r1 h1 => h1.run _ σ H1 (A.go p1 m1) _ fun vy y H2 M2 p2 m2 r2 h2 => by
    obtain ⟨q, ds, n, j, rfl, rfl, hM, hj, hK⟩ := h2
    cases r1
    cases r2
    obtain ⟨vs, h0, rs⟩ := m2.at_ q _ hM
    obtain ⟨pp, mm⟩ := lst_new m2 hM (rs.set j ((r.go p1).go p2))
    exact ⟨q, vs, n, j, rfl, rfl, h0, by rw [rs.length]; exact hj, k _ _ _ _ ((p1.trans p2).trans pp) ((A.go (p1.trans p2) m2).go pp mm) hK⟩)
/-- o.append(e), o an owned list -/
theorem we_append {o : Expr} (h : WE Cs X o ρ M fun x M1 => ∃ q ds0, x = .ref q ∧ M1 q = some (.lst ds0) ∧ WE Cs X e ρ M1 fun d M2 => ∃ ds, M2 q = some (.lst ds) ∧ ds.length < 100000 ∧ Φ .non (put M2 q (.lst (ds ++ [d]))))
    (hbase : attributeBase o "append" X.env (eval o X.env) = eval o X.env := by rfl)
    (hfew : ((backTo pos (starEach [e] X.env)).all (fun x => !x.1) && (backToKw pos (keywordEach [] X.env)).all (fun x => x.1.isSome)
      && decide ([e].length + ([] : List Keyword).length + (if ([] : List Keyword).isEmpty then 0 else 1) < 30)) = true := by rfl)
    (hline : (apos.endLine == pos.line) = true := by rfl) (hst : starEach [e] X.env = (false, eval e X.env) :: starEach [] X.env := by rfl) (hpl : (backTo pos (starEach [] X.env)).any (·.1) = false := by rfl) : WE Cs X (.Call (.Attribute o "append" apos) [e] [] pos) ρ M Φ := by
  refine .mk fun F σ H A Q k => ?_
  refine (pe_bm PySem.F.plainAttrs_list PySem.F.slot_list_append PySem.F.type_list_append mt_append pe_sem (pa_cons pe_sem pa_nil hst) hbase hfew hline hst hpl).sem ?_
  refine h.run _ σ H A _ fun vx x H1 M1 p1 m1 r1 h1 => ?_
  obtain ⟨q, ds0, rfl, hM1, h1⟩ := h1
  cases r1
  obtain ⟨vs0, e0, _⟩ := m1.at_ q _ hM1
  refine ⟨.inl ⟨rfl, _, .inl (.inl e0)⟩, h1.run _ σ H1 (A.go p1 m1) _ fun vy d H2 M2 p2 m2 r2 h2 => ?_⟩
  obtain ⟨ds, hM2, hl, hΦ⟩ := h2
  obtain ⟨vs, e2, rs⟩ := m2.at_ q _ hM2
  obtain ⟨pp, mm⟩ := lst_new m2 hM2 (rs.append (.cons r2 .nil))
  exact ⟨q, vs, vy, rfl, rfl, e2, by rw [rs.length]; exact Nat.lt_of_lt_of_le hl (by decide), k _ _ _ _ ((p1.trans p2).trans pp) mm .non hΦ⟩
/-! ### built-ins -/
theorem wc_of {g : Value} {r : List V → Hp → VK → Prop} {xs : List D} (ho : CallR X g r) (h : ∀ {F : Addr → Prop} H vs Q, MemAt Cs F M H → Reps Cs (Zf F M) H vs xs → Res Cs F M H Φ Q → r vs H Q) : WC Cs X g xs M Φ := .mk fun F H vs m rs Q k => ho.sem (h H vs Q m rs k)
theorem reps1 {Z : Addr → Prop} {H : Hp} {vs : List V} {d : D} (r : Reps Cs Z H vs [d]) : ∃ v, vs = [v] ∧ Rep Cs Z H v d := by
  cases r with
  | cons h r => cases r; exact ⟨_, rfl, h⟩
theorem reps2 {Z : Addr → Prop} {H : Hp} {vs : List V} {d d' : D} (r : Reps Cs Z H vs [d, d']) : ∃ v v', vs = [v, v'] ∧ Rep Cs Z H v d ∧ Rep Cs Z H v' d' := by
  cases r with
  | cons h r =>
    cases r with
    | cons h' r => cases r; exact ⟨_, _, rfl, h, h'⟩
theorem wc_abs {i : Int} (h : Φ (.int (if i < 0 then -i else i)) M) : WC Cs X (.builtin "abs") [.int i] M Φ := wc_of call_abs fun H vs Q m rs k => by
  obtain ⟨v, rfl, r⟩ := reps1 rs
  cases r
  exact ⟨i, rfl, k.here m (.int _) h⟩
theorem wc_max {i j : Int} (hc : X.calm = true) (h : Φ (.int (if j > i then j else i)) M) : WC Cs X (.builtin "max") [.int i, .int j] M Φ := wc_of (call_max2 hc) fun H vs Q m rs k => by
  obtain ⟨v, v', rfl, r, r'⟩ := reps2 rs
  cases r; cases r'
  exact ⟨i, j, rfl, k.here m (.int _) h⟩
theorem wc_min {i j : Int} (hc : X.calm = true) (h : Φ (.int (if j < i then j else i)) M) : WC Cs X (.builtin "min") [.int i, .int j] M Φ := wc_of (call_min2 hc) fun H vs Q m rs k => by
  obtain ⟨v, v', rfl, r, r'⟩ := reps2 rs
  cases r; cases r'
  exact ⟨i, j, rfl, k.here m (.int _) h⟩
theorem wc_int {i : Int} (h : Φ (.int i) M) : WC Cs X (.type "int") [.int i] M Φ := wc_of call_int1 fun H vs Q m rs k => by
  obtain ⟨v, rfl, r⟩ := reps1 rs
  cases r
  exact .inl ⟨i, rfl, k.here m (.int _) h⟩
theorem wc_intB {t : Bool} (h : Φ (.int (if t then 1 else 0)) M) : WC Cs X (.type "int") [.bl t] M Φ := wc_of call_int1 fun H vs Q m rs k => by
  obtain ⟨v, rfl, r⟩ := reps1 rs
  cases r
  exact .inr ⟨t, rfl, k.here m (.int _) h⟩
theorem wc_lenL {ds : List D} (h : Φ (.int ds.length) M) : WC Cs X (.builtin "len") [.lst ds] M Φ := wc_of call_len_seq fun H vs Q m rs k => by
  obtain ⟨v, rfl, r⟩ := reps1 rs
  cases r with
  | lst hz hr r => exact ⟨_, _, rfl, .inl (.inl hr), by rw [r.length]; exact k.here m (.int _) h⟩
theorem wc_lenT {ds : List D} (h : Φ (.int ds.length) M) : WC Cs X (.builtin "len") [.tup ds] M Φ := wc_of call_len_seq fun H vs Q m rs k => by
  obtain ⟨v, rfl, r⟩ := reps1 rs
  cases r with
  | tup hz hr r => exact ⟨_, _, rfl, .inr (.inl hr), by rw [r.length]; exact k.here m (.int _) h⟩
theorem reps_bl {Z : Addr → Prop} {H : Hp} : ∀ {vs : List V} {bs : List Bool}, Reps Cs Z H vs (bs.map D.bl) → vs = bs.map V.bl
  | _, [], .nil => rfl
  | _, b :: bs, .cons h r => by
    cases h
    rw [reps_bl (bs := bs) r]
    rfl
theorem wc_all {bs : List Bool} (hc : X.calm = true) (h : Φ (.bl (bs.all id)) M) : WC Cs X (.builtin "all") [.lst (bs.map D.bl)] M Φ := wc_of (cr_all hc) fun H vs Q m rs k => by
  obtain ⟨v, rfl, r⟩ := reps1 rs
  cases r with
  | lst hz hr r =>
    have e := reps_bl r
    subst e
    exact ⟨_, bs, rfl, .inl hr, k.here m (.bl _) h⟩
/-- list(range(n)) -/
theorem reps_up {Z : Addr → Prop} {H : Hp} : ∀ (f : Nat → Nat) (l : List Nat), Reps Cs Z H (l.map fun i => V.int ((f i : Nat) : Int)) (l.map fun i => D.int ((f i : Nat) : Int))
  | _, [] => .nil
  | f, i :: l => .cons (.int _) (reps_up f l)
theorem we_listR {p' q' : Pos} (hc : X.calm = true) (hg : Gl X "list") (hm : X.mg "list" = none) (hg' : Gl X "range") (hm' : X.mg "range" = none) (h : WE Cs X e ρ M fun d M1 => ∃ n : Nat, d = .int (n : Int) ∧ n ≤ 100000 ∧ Φ (.lst (upTo n)) M1)
    (na : starEach [.Call (.Name "range" p') [e] [] q'] X.env = (false, eval (.Call (.Name "range" p') [e] [] q') X.env) :: starEach [] X.env := by rfl) (nb : starEach [e] X.env = (false, eval e X.env) :: starEach [] X.env := by rfl) :
    WE Cs X (.Call (.Name "list" p) [.Call (.Name "range" p') [e] [] q'] [] pos) ρ M Φ :=
  .mk fun F σ H A Q k => (pe_listRg hc hg hm (prg_1 hg' hm' pe_sem nb) na).sem (h.run _ σ H A _ fun v d H1 M1 p1 m1 r1 h1 => by
    obtain ⟨n, rfl, hn, hΦ⟩ := h1
    cases r1
    refine ⟨_, rfl, RgOk.of_le (by omega) (by omega) (by omega) (by omega), fun q hq => ?_⟩
    refine k _ _ _ M1 (p1.trans (post_new hq)) (m1.new hq) (.lst (m1.notZ hq) (.inl upd_same) ?_) hΦ
    have e1 : rgV 0 (n : Int) = (List.range n).map fun i : Nat => V.int ((i : Nat) : Int) := by
      unfold rgV
      have e2 : ((n : Int) - 0).toNat = n := by omega
      rw [e2]
      exact List.map_congr_left fun i _ => by rw [Int.zero_add]
    rw [e1]
    exact reps_up (fun i => i) (List.range n))
/-! ### isinstance -/
def tyD (Cs : Gc) : D → Value
  | .non => .type "NoneType"
  | .bl _ => .type "bool"
  | .int _ => .type "int"
  | .str _ => .type "str"
  | .tup _ => .type "tuple"
  | .lst _ => .type "list"
  | .obj c _ => .ref (Cs c)
  | .dct _ _ => .type "dict"
  | _ => .none
end
end DL
namespace DL
open PySem PySem.Spec PyProof.Rows L2
section
variable {Cs : Gc} {F : Addr → Prop} {X : Cx} {ρ : Env} {M : Mem} {a b c e : Expr} {es : List Expr} {pos p apos : Pos} {Φ : D → Mem → Prop} {Ψ : Bool → Mem → Prop} {st : Stmt} {sts rest body : List Stmt} {E : DE} {x f m : Str}
/-- isinstance(x, T), x no instance of an own class -/
theorem wc_isi {d : D} {n : String} {t : Bool} (hd : (match d with | .obj _ _ => false | .ref _ => false | .ty _ => false | .exc _ _ => false | .fn _ _ _ => false | _ => true) = true) (hk : PySem.W.kitOne X.K (tyD Cs d) (.type n) = some t) (h : Φ (.bl t) M) : WC Cs X (.builtin "isinstance") [d, .ty n] M Φ := wc_of call_isi fun H vs Q m rs k => by
  obtain ⟨v, v', rfl, r, r'⟩ := reps2 rs
  cases r'
  refine ⟨v, .ty n, tyD Cs d, .type n, t, rfl, .ty n, ?_, hk, k.here m (.bl _) h⟩
  cases r with
  | non => exact .base .non
  | bl b => exact .base (.bl b)
  | int i => exact .base (.int i)
  | str x => exact .base (.str x)
  | ty n => cases hd
  | ref a => cases hd
  | tup hz hr rs =>
    rcases hr with hr | ⟨o, hr⟩
    · exact .base (.tup hr)
    · exact .fTuple hr
  | lst hz hr rs =>
    rcases hr with hr | ⟨o, hr⟩
    · exact .base (.lst hr)
    · exact .base (.frz hr)
  | dct hz hr hl rs =>
    rcases hr with hr | ⟨o, hr⟩
    · exact .base (.dK hr)
    · exact .fDict hr
  | exc => cases hd
  | fn => cases hd
  | obj => cases hd
/-- isinstance(x, C), C an own class, x no instance of an own class -/
theorem wc_isiC {d : D} {C : Addr} {t : Bool} (hd : (match d with | .obj _ _ => false | .ref _ => false | .ty _ => false | .exc _ _ => false | .fn _ _ _ => false | _ => true) = true) (hk : PySem.W.kitOne X.K (tyD Cs d) (.ref C) = some t) (h : Φ (.bl t) M) : WC Cs X (.builtin "isinstance") [d, .ref C] M Φ := wc_of call_isi fun H vs Q m rs k => by
  obtain ⟨v, v', rfl, r, r'⟩ := reps2 rs
  cases r'
  refine ⟨v, .ref C, tyD Cs d, .ref C, t, rfl, .own C, ?_, hk, k.here m (.bl _) h⟩
  cases r with
  | non => exact .base .non
  | bl b => exact .base (.bl b)
  | int i => exact .base (.int i)
  | str x => exact .base (.str x)
  | ty n => cases hd
  | ref a => cases hd
  | tup hz hr rs =>
    rcases hr with hr | ⟨o, hr⟩
    · exact .base (.tup hr)
    · exact .fTuple hr
  | lst hz hr rs =>
    rcases hr with hr | ⟨o, hr⟩
    · exact .base (.lst hr)
    · exact .base (.frz hr)
  | dct hz hr hl rs =>
    rcases hr with hr | ⟨o, hr⟩
    · exact .base (.dK hr)
    · exact .fDict hr
  | exc => cases hd
  | fn => cases hd
  | obj => cases hd
/-- isinstance(x, T), x an instance with slots -/
theorem wc_isiS {c : Nat} {ds : List D} {y : D} {u : Value} {t : Bool} (hy : (∃ n, y = .ty n ∧ u = .type n) ∨ (∃ C, y = .ref C ∧ u = .ref C)) (hc : SlX.SCls X.K (Cs c)) (hi : SlX.SIsi X.K (Cs c)) (hk : PySem.W.kitOne X.K (.ref (Cs c)) u = some t) (h : Φ (.bl t) M) : WC Cs X (.builtin "isinstance") [.obj c ds, y] M Φ := wc_of (SlX.call_isiSl u) fun H vs Q m rs k => by
  obtain ⟨v, v', rfl, r, r'⟩ := reps2 rs
  obtain ⟨q, dx, ws, rfl, hsl, _⟩ := rep_slt r
  refine ⟨q, Cs c, dx, _, v', t, rfl, ?_, ?_, hsl, hc, hi, hk, k.here m (.bl _) h⟩
  · rcases hy with ⟨n, rfl, rfl⟩ | ⟨C, rfl, rfl⟩ <;> (cases r'; rfl)
  · rcases hy with ⟨n, rfl, rfl⟩ | ⟨C, rfl, rfl⟩ <;> (cases r'; intro w hw; exact hw)
/-! ### own operators -/
theorem wo_bin {op : Operator} {n k : Nat} {g : Addr} {S : FS} {ds es : List D} (hsf : PySem.W.selfFirst X.K (Cs n) = true) (hs : PySem.W.findIn X.K (.ref (Cs n)) (PySem.dunder op.info.2) = some (some (.ref g))) (hf : PySem.W.isFn X.K (.ref g) = true)
    (Fn : FnD Cs X k g S) (hr : Rm k X.A) (h : S [.obj n ds, .obj n es] M Φ) : WO Cs X (binaryOp op) (.obj n ds) (.obj n es) M Φ := .mk fun F H vx vy m rx ry Q k pins s σ v u I rv ru => by
  obtain ⟨q, dx, ws, rfl, hsl, _⟩ := rep_slt rx
  obtain ⟨q', dx', ws', rfl, hsl', _⟩ := rep_slt ry
  cases rv; cases ru
  exact bin_g (E := E0) hsf hs hf Fn hr pass0 I hsl hsl' ⟨F, _, M, Φ, m, .cons rx (.cons ry .nil), h, k⟩
theorem wo_own {op : CmpOp} {n n' k : Nat} {g : Addr} {S : FS} {ds es : List D} (hop : ∀ a b, compareOp op a b = richCompare op a b) (hn : PySem.W.notFirst X.K (Cs n) (.ref (Cs n')) = true) (hs : PySem.W.findIn X.K (.ref (Cs n)) (cmpInfo op).2.1 = some (some (.ref g))) (hf : PySem.W.isFn X.K (.ref g) = true)
    (Fn : FnD Cs X k g S) (hr : Rm k X.A) (h : S [.obj n ds, .obj n' es] M Φ) : WO Cs X (compareOp op) (.obj n ds) (.obj n' es) M Φ := .mk fun F H vx vy m rx ry Q k pins s σ v u I rv ru => by
  obtain ⟨q, dx, ws, rfl, hsl, _⟩ := rep_slt rx
  obtain ⟨q', dx', ws', rfl, hsl', _⟩ := rep_slt ry
  cases rv; cases ru
  exact cmp_g (E := E0) hop hn hs hf Fn hr pass0 I hsl hsl' ⟨F, _, M, Φ, m, .cons rx (.cons ry .nil), h, k⟩
/-! ### data that Python has, too -/
mutual
def _root_.DL.D.py : D → PyData
  | .non => .none
  | .bl b => .bool b
  | .int i => .int i
  | .str x => .str x
  | .tup ds => .tuple (pys ds)
  | .lst ds => .list (pys ds)
  | _ => .none
def pys : List D → List PyData
  | [] => []
  | d :: ds => d.py :: pys ds
end
mutual
def _root_.DL.D.isPy : D → Bool
  | .non => true
  | .bl _ => true
  | .int _ => true
  | .str _ => true
  | .tup ds => arePy ds
  | .lst ds => arePy ds
  | _ => false
def arePy : List D → Bool
  | [] => true
  | d :: ds => d.isPy && arePy ds
end
mutual
theorem Rep.dp {K : PySem.W.Frag} {Z : Addr → Prop} {H : Hp} : ∀ {v : V} {d : D}, Rep Cs Z H v d → d.isPy = true → Dp K H v d.py
  | _, _, .non, _ => .non
  | _, _, .bl b, _ => .bl b
  | _, _, .int i, _ => .int i
  | _, _, .str x, _ => .str x
  | _, _, .ty n, h => by simp [D.isPy] at h
  | _, _, .ref a, h => by simp [D.isPy] at h
  | _, _, .tup hz hr rs, h => by
    rw [D.py]
    exact .tup (.inl hr) (Reps.dp rs (by rw [D.isPy] at h; exact h))
  | _, _, .lst hz hr rs, h => by
    rw [D.py]
    exact .lst (.inl hr) (Reps.dp rs (by rw [D.isPy] at h; exact h))
  | _, _, .obj _ _ _ _ _, h => by simp [D.isPy] at h
  | _, _, .dct _ _ _ _, h => by simp [D.isPy] at h
  | _, _, .exc _ _ _ _ _, h => by simp [D.isPy] at h
  | _, _, .fn _ _ _ _, h => by simp [D.isPy] at h
theorem Reps.dp {K : PySem.W.Frag} {Z : Addr → Prop} {H : Hp} : ∀ {vs : List V} {ds : List D}, Reps Cs Z H vs ds → arePy ds = true → DpAll K H vs (pys ds)
  | _, _, .nil, _ => by rw [pys]; exact .nil
  | _, _, .cons h r, q => by
    rw [arePy, Bool.and_eq_true] at q
    rw [pys]
    exact .cons (Rep.dp h q.1) (Reps.dp r q.2)
end
theorem wo_eqD {d d' : D} {k : Nat} (hr : Rm k X.A) (h1 : d.isPy = true) (h2 : d'.isPy = true) (s1 : SeqAt.shaped d.py = true) (s2 : SeqAt.shaped d'.py = true) (h : Φ (.bl (PyData.eqv d.py d'.py)) M) : WO Cs X (compareOp .Eq) d d' M Φ := .mk fun F H vx vy m rx ry Q k =>
  (op_eqD hr.rm.units).sem ⟨_, _, rx.dp h1, ry.dp h2, s1, s2, k.here m (.bl _) h⟩
theorem wo_neD {d d' : D} {k : Nat} (hr : Rm k X.A) (h1 : d.isPy = true) (h2 : d'.isPy = true) (s1 : SeqAt.shaped d.py = true) (s2 : SeqAt.shaped d'.py = true) (h : Φ (.bl (!PyData.eqv d.py d'.py)) M) : WO Cs X (compareOp .NotEq) d d' M Φ := .mk fun F H vx vy m rx ry Q k =>
  (op_neD hr.rm.units).sem ⟨_, _, rx.dp h1, ry.dp h2, s1, s2, k.here m (.bl _) h⟩
end
end DL
namespace DL
open PySem PySem.Spec PyProof.Rows L2
/-! ### repr -/
section
variable {Cs : Gc} {F : Addr → Prop} {X : Cx} {ρ : Env} {M : Mem} {Φ : D → Mem → Prop}
theorem wc_repr {d : D} {k : Nat} (hr : Rm k X.A) (h1 : d.isPy = true) (h2 : d.py.showable = true) (h3 : d.py.hasDict = false) (h4 : d.py.depth ≤ 60) (h5 : d.py.shown.length ≤ sizeLine) (h : Φ (.str d.py.shown) M) : WC Cs X (.builtin "repr") [d] M Φ := .mk fun F H vs m rs Q k pins s σ us I rv => by
  obtain ⟨v, rfl, r⟩ := reps1 rs
  obtain ⟨u, rfl, ru⟩ := rv.one
  obtain ⟨as, rd⟩ := Dp.reads (X := X) I d.py v u (r.dp h1) ru
  cases r with
  | non =>
    cases ru
    exact P.repr_of_none ⟨.str "None", H, I.tok _, ⟨_, rfl⟩, k.here m (.str _) (by simpa [D.py, PyData.shown] using h)⟩
  | bl b =>
    cases ru
    exact P.repr_of_bool ⟨.str (if b then "True" else "False"), H, I.tok _, ⟨_, rfl⟩, k.here m (.str _) (by simpa [D.py, PyData.shown] using h)⟩
  | int i =>
    obtain ⟨t, rfl⟩ := ru
    exact P.repr_of_int (by simpa [D.py, PyData.showable] using h2) ⟨.str (toString i), H, I.tok _, ⟨_, rfl⟩, k.here m (.str _) (by simpa [D.py, PyData.shown] using h)⟩
  | str x =>
    obtain ⟨t, rfl⟩ := ru
    exact P.repr_of_str ⟨.str (reprText x), H, I.tok _, ⟨_, rfl⟩, k.here m (.str _) (by simpa [D.py, PyData.shown] using h)⟩ (by simpa [D.py, PyData.shown] using h5)
  | ty n => simp [D.isPy] at h1
  | ref a => simp [D.isPy] at h1
  | obj => simp [D.isPy] at h1
  | dct => simp [D.isPy] at h1
  | exc => simp [D.isPy] at h1
  | fn => simp [D.isPy] at h1
  | tup hz hr' rs =>
    cases ru
    refine repr_of_reads' rd h2 (PyData.noDict_hsm h3) hr.gd (by have := hr.rm.units; omega) (fun _ _ z => z) (fun h' u tk hk => ?_) h5
    exact ⟨.str _, H, I.kept hk, ⟨u, rfl⟩, k.here m (.str _) h⟩
  | lst hz hr' rs =>
    cases ru
    refine repr_of_reads' rd h2 (PyData.noDict_hsm h3) hr.gd (by have := hr.rm.units; omega) (fun _ _ z => z) (fun h' u tk hk => ?_) h5
    exact ⟨.str _, H, I.kept hk, ⟨u, rfl⟩, k.here m (.str _) h⟩
end
/-! ### list comprehensions -/
mutual
theorem Rep.less {Cs : Gc} {Z Z' : Addr → Prop} {H : Hp} (l : ∀ a, Z' a → Z a) : ∀ {v : V} {d : D}, Rep Cs Z H v d → Rep Cs Z' H v d
  | _, _, .non => .non
  | _, _, .bl b => .bl b
  | _, _, .int i => .int i
  | _, _, .str x => .str x
  | _, _, .ty n => .ty n
  | _, _, .ref a => .ref a
  | _, _, .tup hz h r => .tup (fun z => hz (l _ z)) h (Reps.less l r)
  | _, _, .lst hz h r => .lst (fun z => hz (l _ z)) h (Reps.less l r)
  | _, _, .obj hz hx h h2 r => .obj (fun z => hz (l _ z)) (fun z => hx (l _ z)) h h2 (Reps.less l r)
  | _, _, .dct hz h hl r => .dct (fun z => hz (l _ z)) h hl (Reps.less l r)
  | _, _, .exc hz hx h h2 r => .exc (fun z => hz (l _ z)) (fun z => hx (l _ z)) h h2 (Rep.less l r)
  | _, _, .fn hz hx h h2 => .fn (fun z => hz (l _ z)) (fun z => hx (l _ z)) h h2
theorem Reps.less {Cs : Gc} {Z Z' : Addr → Prop} {H : Hp} (l : ∀ a, Z' a → Z a) : ∀ {vs : List V} {ds : List D}, Reps Cs Z H vs ds → Reps Cs Z' H vs ds
  | _, _, .nil => .nil
  | _, _, .cons h r => .cons (Rep.less l h) (Reps.less l r)
end
theorem RepO.less {Cs : Gc} {Z Z' : Addr → Prop} {H : Hp} (l : ∀ a, Z' a → Z a) : ∀ {vs : List (Option V)} {ds : List (Option D)}, RepO Cs Z H vs ds → RepO Cs Z' H vs ds
  | _, _, .nil => .nil
  | _, _, .none r => .none (RepO.less l r)
  | _, _, .some h r => .some (h.less l) (RepO.less l r)
theorem rd_ne {H : Hp} {a p : Addr} {u : HO} (h : Rd H a u) (hp : H p = none) : a ≠ p := by
  rcases h with h | ⟨o, h⟩ <;> exact ne_of_none h hp
theorem rd_upd {H : Hp} {a p : Addr} {u o : HO} (h : Rd H a u) (ne : a ≠ p) : Rd (upd H p o) a u := by
  rcases h with h | ⟨o', h⟩
  · exact .inl (by rw [upd_ne ne]; exact h)
  · exact .inr ⟨o', by rw [upd_ne ne]; exact h⟩
mutual
/-- what is not there is not used -/
theorem Rep.avoid {Cs : Gc} {Z Z' : Addr → Prop} {H : Hp} {p : Addr} (hp : H p = none) (l : ∀ a, Z' a → Z a ∨ a = p) : ∀ {v : V} {d : D}, Rep Cs Z H v d → Rep Cs Z' H v d
  | _, _, .non => .non
  | _, _, .bl b => .bl b
  | _, _, .int i => .int i
  | _, _, .str x => .str x
  | _, _, .ty n => .ty n
  | _, _, .ref a => .ref a
  | _, _, .tup hz h r => .tup (fun z => (l _ z).elim hz (rd_ne h hp)) h (Reps.avoid hp l r)
  | _, _, .lst hz h r => .lst (fun z => (l _ z).elim hz (rd_ne h hp)) h (Reps.avoid hp l r)
  | _, _, .obj hz hx h h2 r => .obj (fun z => (l _ z).elim hz (ne_of_none h hp)) (fun z => (l _ z).elim hx (ne_of_none h2 hp)) h h2 (Reps.avoid hp l r)
  | _, _, .dct hz h hl r => .dct (fun z => (l _ z).elim hz (rd_ne h hp)) h hl (Reps.avoid hp l r)
  | _, _, .exc hz hx h h2 r => .exc (fun z => (l _ z).elim hz (ne_of_none h hp)) (fun z => (l _ z).elim hx (ne_of_none h2 hp)) h h2 (Rep.avoid hp l r)
  | _, _, .fn hz hx h h2 => .fn (fun z => (l _ z).elim hz (ne_of_none h hp)) (fun z => (l _ z).elim hx (ne_of_none h2 hp)) h h2
theorem Reps.avoid {Cs : Gc} {Z Z' : Addr → Prop} {H : Hp} {p : Addr} (hp : H p = none) (l : ∀ a, Z' a → Z a ∨ a = p) : ∀ {vs : List V} {ds : List D}, Reps Cs Z H vs ds → Reps Cs Z' H vs ds
  | _, _, .nil => .nil
  | _, _, .cons h r => .cons (Rep.avoid hp l h) (Reps.avoid hp l r)
end
theorem RepO.avoid {Cs : Gc} {Z Z' : Addr → Prop} {H : Hp} {p : Addr} (hp : H p = Option.none) (l : ∀ a, Z' a → Z a ∨ a = p) : ∀ {vs : List (Option V)} {ds : List (Option D)}, RepO Cs Z H vs ds → RepO Cs Z' H vs ds
  | _, _, .nil => .nil
  | _, _, .none r => .none (RepO.avoid hp l r)
  | _, _, .some h r => .some (h.avoid hp l) (RepO.avoid hp l r)
theorem zne {Z : Addr → Prop} {a p : Addr} (hz : ¬ Z a) (hp : Z p) : a ≠ p := fun z => hz (by rw [z]; exact hp)
mutual
theorem Rep.upd {Cs : Gc} {Z : Addr → Prop} {H : Hp} {p : Addr} {o : HO} (hp : Z p) : ∀ {v : V} {d : D}, Rep Cs Z H v d → Rep Cs Z (upd H p o) v d
  | _, _, .non => .non
  | _, _, .bl b => .bl b
  | _, _, .int i => .int i
  | _, _, .str x => .str x
  | _, _, .ty n => .ty n
  | _, _, .ref a => .ref a
  | _, _, .tup hz h r => .tup hz (rd_upd h (fun z => hz (z ▸ hp))) (Reps.upd hp r)
  | _, _, .lst hz h r => .lst hz (rd_upd h (fun z => hz (z ▸ hp))) (Reps.upd hp r)
  | _, _, .obj hz hx h h2 r => .obj hz hx ((upd_ne (zne hz hp)).trans h) ((upd_ne (zne hx hp)).trans h2) (Reps.upd hp r)
  | _, _, .dct hz h hl r => .dct hz (rd_upd h (fun z => hz (z ▸ hp))) hl (Reps.upd hp r)
  | _, _, .exc hz hx h h2 r => .exc hz hx ((upd_ne (zne hz hp)).trans h) ((upd_ne (zne hx hp)).trans h2) (Rep.upd hp r)
  | _, _, .fn hz hx h h2 => .fn hz hx ((upd_ne (zne hz hp)).trans h) ((upd_ne (zne hx hp)).trans h2)
theorem Reps.upd {Cs : Gc} {Z : Addr → Prop} {H : Hp} {p : Addr} {o : HO} (hp : Z p) : ∀ {vs : List V} {ds : List D}, Reps Cs Z H vs ds → Reps Cs Z (upd H p o) vs ds
  | _, _, .nil => .nil
  | _, _, .cons h r => .cons (Rep.upd hp h) (Reps.upd hp r)
end
theorem RepO.upd {Cs : Gc} {Z : Addr → Prop} {H : Hp} {p : Addr} {o : HO} (hp : Z p) : ∀ {vs : List (Option V)} {ds : List (Option D)}, RepO Cs Z H vs ds → RepO Cs Z (L2.upd H p o) vs ds
  | _, _, .nil => .nil
  | _, _, .none r => .none (RepO.upd hp r)
  | _, _, .some h r => .some (h.upd hp) (RepO.upd hp r)
/-- p is hidden from now on -/
def Hid (F : Addr → Prop) (p : Addr) : Addr → Prop := fun a => F a ∨ a = p
section
variable {Cs : Gc} {F : Addr → Prop} {X : Cx} {ρ : Env} {M M1 : Mem} {H H1 : Hp} {q : Addr} {o : HO}
theorem zf_hid {a : Addr} (h : Zf (Hid F q) M a) : Zf F M a ∨ a = q := by
  rcases h with (h | h) | h
  · exact .inl (.inl h)
  · exact .inr h
  · exact .inl (.inr h)
theorem MemAt.hide (m : MemAt Cs F M H) (hq : H q = none) : MemAt Cs (Hid F q) M (upd H q o) := by
  have hM := m.old hq
  have z : Zf (Hid F q) M q := .inl (.inr rfl)
  refine ⟨fun a n e => ?_, fun a h => ?_, Cs.up _ _ _ _ (fun _ h => .inl h) (Cs.cl _ _ _ _ _ m.gh (post_new hq))⟩
  · have w := m.at_ a n e
    have ne : a ≠ q := fun y => by rw [y, hM] at e; cases e
    cases n with
    | lst ds =>
      obtain ⟨vs, e1, r⟩ := w
      exact ⟨vs, by rw [upd_ne ne]; exact e1, (r.avoid hq fun _ => zf_hid).upd z⟩
    | slt c dx os =>
      obtain ⟨n1, n2, vs, hs, r⟩ := w
      refine ⟨n1, n2, vs, ?_, (r.avoid hq fun _ => zf_hid).upd z⟩
      rcases hs with ⟨z1, z2⟩ | ⟨z1, z2⟩
      · exact .inl ⟨by rw [upd_ne ne]; exact z1, z2⟩
      · exact .inr ⟨by rw [upd_ne ne]; exact z1, by rw [upd_ne (fun y => by rw [y, hM] at n2; cases n2)]; exact z2⟩
    | aux y =>
      obtain ⟨o', e1⟩ := w
      exact ⟨o', by rw [upd_ne ne]; exact e1⟩
    | dct ks ds =>
      obtain ⟨vs, e1, hl, r⟩ := w
      exact ⟨vs, by rw [upd_ne ne]; exact e1, hl, (r.avoid hq fun _ => zf_hid).upd z⟩
    | ins c dx ns ds =>
      obtain ⟨n1, n2, vs, e1, e2, hl, r⟩ := w
      exact ⟨n1, n2, vs, by rw [upd_ne ne]; exact e1, by rw [upd_ne (fun y => by rw [y, hM] at n2; cases n2)]; exact e2, hl, (r.avoid hq fun _ => zf_hid).upd z⟩
    | dcn ks ds =>
      obtain ⟨xs, e1, e2, e3, r1, r2⟩ := w
      exact ⟨xs, by rw [upd_ne ne]; exact e1, e2, e3, (r1.avoid hq fun _ => zf_hid).upd z, (r2.avoid hq fun _ => zf_hid).upd z⟩
    | dcz oz ks ds =>
      obtain ⟨xs, e1, e2, e3, r1, r2⟩ := w
      exact ⟨xs, by rw [upd_ne ne]; exact e1, e2, e3, (r1.avoid hq fun _ => zf_hid).upd z, (r2.avoid hq fun _ => zf_hid).upd z⟩
    | tpz ss =>
      obtain ⟨o, e1, e2⟩ := w
      exact ⟨o, by rw [upd_ne ne]; exact e1, e2⟩
    | tab nm =>
      obtain ⟨ps, e1, e2, e3⟩ := w
      refine ⟨ps, by rw [upd_ne ne]; exact e1, e2, fun pos cv hc => ?_⟩
      obtain ⟨c, r1, r2, r3⟩ := e3 pos cv hc
      exact ⟨c, r1, fun y => (zf_hid y).elim r2 (ne_of_none r3 hq), by rw [upd_ne (ne_of_none r3 hq)]; exact r3⟩
  · rcases h with h | h
    · obtain ⟨z1, z2⟩ := m.ff a h
      refine ⟨z1, ?_⟩
      have ne : a ≠ q := fun y => z2 (by rw [y]; exact hq)
      rw [upd_ne ne]
      exact z2
    · subst h
      exact ⟨hM, by rw [upd_same]; exact fun y => nomatch y⟩
theorem MemAt.upd (m : MemAt Cs F M H) (hq : F q) (g : Cs.gh F M (L2.upd H q o)) : MemAt Cs F M (L2.upd H q o) := by
  have hM := (m.ff q hq).1
  have z : Zf F M q := .inl hq
  refine ⟨fun a n e => ?_, fun a h => ?_, g⟩
  · have w := m.at_ a n e
    have ne : a ≠ q := fun y => by rw [y, hM] at e; cases e
    cases n with
    | lst ds =>
      obtain ⟨vs, e1, r⟩ := w
      exact ⟨vs, by rw [upd_ne ne]; exact e1, r.upd z⟩
    | slt c dx os =>
      obtain ⟨n1, n2, vs, hs, r⟩ := w
      refine ⟨n1, n2, vs, ?_, r.upd z⟩
      rcases hs with ⟨z1, z2⟩ | ⟨z1, z2⟩
      · exact .inl ⟨by rw [upd_ne ne]; exact z1, z2⟩
      · exact .inr ⟨by rw [upd_ne ne]; exact z1, by rw [upd_ne (fun y => by rw [y, hM] at n2; cases n2)]; exact z2⟩
    | aux y =>
      obtain ⟨o', e1⟩ := w
      exact ⟨o', by rw [upd_ne ne]; exact e1⟩
    | dct ks ds =>
      obtain ⟨vs, e1, hl, r⟩ := w
      exact ⟨vs, by rw [upd_ne ne]; exact e1, hl, r.upd z⟩
    | ins c dx ns ds =>
      obtain ⟨n1, n2, vs, e1, e2, hl, r⟩ := w
      exact ⟨n1, n2, vs, by rw [upd_ne ne]; exact e1, by rw [upd_ne (fun y => by rw [y, hM] at n2; cases n2)]; exact e2, hl, r.upd z⟩
    | dcn ks ds =>
      obtain ⟨xs, e1, e2, e3, r1, r2⟩ := w
      exact ⟨xs, by rw [upd_ne ne]; exact e1, e2, e3, r1.upd z, r2.upd z⟩
    | dcz oz ks ds =>
      obtain ⟨xs, e1, e2, e3, r1, r2⟩ := w
      exact ⟨xs, by rw [upd_ne ne]; exact e1, e2, e3, r1.upd z, r2.upd z⟩
    | tpz ss =>
      obtain ⟨o, e1, e2⟩ := w
      exact ⟨o, by rw [upd_ne ne]; exact e1, e2⟩
    | tab nm =>
      obtain ⟨ps, e1, e2, e3⟩ := w
      refine ⟨ps, by rw [upd_ne ne]; exact e1, e2, fun pos cv hc => ?_⟩
      obtain ⟨c, r1, r2, r3⟩ := e3 pos cv hc
      exact ⟨c, r1, r2, by rw [upd_ne (zne r2 z)]; exact r3⟩
  · obtain ⟨z1, z2⟩ := m.ff a h
    refine ⟨z1, ?_⟩
    by_cases y : a = q
    · rw [y, upd_same]; exact fun y => nomatch y
    · rw [upd_ne y]; exact z2
theorem MemAt.show (m : MemAt Cs (Hid F q) M H) (g : Cs.gh F M H) : MemAt Cs F M H := by
  have l : ∀ a, Zf F M a → Zf (Hid F q) M a := fun a z => z.elim (fun y => .inl (.inl y)) .inr
  refine ⟨fun a n e => ?_, fun a h => m.ff a (.inl h), g⟩
  have w := m.at_ a n e
  cases n with
  | lst ds =>
    obtain ⟨vs, e1, r⟩ := w
    exact ⟨vs, e1, r.less l⟩
  | slt c dx os =>
    obtain ⟨n1, n2, vs, hs, r⟩ := w
    exact ⟨n1, n2, vs, hs, r.less l⟩
  | aux y => exact w
  | dct ks ds =>
    obtain ⟨vs, e1, hl, r⟩ := w
    exact ⟨vs, e1, hl, r.less l⟩
  | ins c dx ns ds =>
    obtain ⟨n1, n2, vs, e1, e2, hl, r⟩ := w
    exact ⟨n1, n2, vs, e1, e2, hl, r.less l⟩
  | dcn ks ds =>
    obtain ⟨xs, e1, e2, e3, r1, r2⟩ := w
    exact ⟨xs, e1, e2, e3, r1.less l, r2.less l⟩
  | dcz oz ks ds =>
    obtain ⟨xs, e1, e2, e3, r1, r2⟩ := w
    exact ⟨xs, e1, e2, e3, r1.less l, r2.less l⟩
  | tpz ss => exact w
  | tab nm =>
    obtain ⟨ps, e1, e2, e3⟩ := w
    exact ⟨ps, e1, e2, fun pos cv hc => let ⟨c, r1, r2, r3⟩ := e3 pos cv hc; ⟨c, r1, fun y => r2 (l _ y), r3⟩⟩
/-! the slots of a comprehension's own names -/
def wipeE (ρ : Env) : List Nat → Env
  | [] => ρ
  | v :: vs => (wipeE ρ vs).set v none
theorem wipe_get (σ : L2.St) (i : Nat) : ∀ vs : List Nat, (wipe σ vs)[i]? = if i ∈ vs then (σ[i]?).map fun _ => none else σ[i]?
  | [] => by simp [wipe]
  | v :: vs => by
    unfold wipe
    have ih := wipe_get σ i vs
    by_cases h : v = i
    · subst h
      rw [if_pos List.mem_cons_self, List.getElem?_set]
      simp only [if_pos]
      rw [wipe_length]
      by_cases hl : v < σ.length
      · rw [if_pos hl, List.getElem?_eq_getElem hl]; rfl
      · rw [if_neg hl, List.getElem?_eq_none_iff.mpr (by omega)]; rfl
    · rw [List.getElem?_set_ne h, ih]
      by_cases h2 : i ∈ vs
      · rw [if_pos h2, if_pos (List.mem_cons_of_mem _ h2)]
      · rw [if_neg h2, if_neg (fun z => (List.mem_cons.mp z).elim (fun y => h y.symm) h2)]
theorem wipeE_get (ρ : Env) (i : Nat) : ∀ vs : List Nat, (wipeE ρ vs)[i]? = if i ∈ vs then (ρ[i]?).map fun _ => none else ρ[i]?
  | [] => by simp [wipeE]
  | v :: vs => by
    unfold wipeE
    have ih := wipeE_get ρ i vs
    have hlen : (wipeE ρ vs).length = ρ.length := by
      clear ih
      induction vs with
      | nil => rfl
      | cons w ws ihw => unfold wipeE; rw [List.length_set, ihw]
    by_cases h : v = i
    · subst h
      rw [if_pos List.mem_cons_self, List.getElem?_set]
      simp only [if_pos]
      rw [hlen]
      by_cases hl : v < ρ.length
      · rw [if_pos hl, List.getElem?_eq_getElem hl]; rfl
      · rw [if_neg hl, List.getElem?_eq_none_iff.mpr (by omega)]; rfl
    · rw [List.getElem?_set_ne h, ih]
      by_cases h2 : i ∈ vs
      · rw [if_pos h2, if_pos (List.mem_cons_of_mem _ h2)]
      · rw [if_neg h2, if_neg (fun z => (List.mem_cons.mp z).elim (fun y => h y.symm) h2)]
theorem wipeE_length (ρ : Env) : ∀ vs : List Nat, (wipeE ρ vs).length = ρ.length
  | [] => rfl
  | v :: vs => by unfold wipeE; rw [List.length_set, wipeE_length ρ vs]
theorem wipe_set {σ : L2.St} {vs : List Nat} {j : Nat} {v : Option V} {τ : L2.St} (hj : j ∈ vs) (h : wipe τ vs = wipe σ vs) : wipe (τ.set j v) vs = wipe σ vs := by
  rw [← h]
  apply List.ext_getElem?
  intro i
  rw [wipe_get, wipe_get]
  by_cases hi : i ∈ vs
  · rw [if_pos hi, if_pos hi]
    by_cases hji : j = i
    · subst hji
      rw [List.getElem?_set]
      simp only [if_pos]
      by_cases hl : j < τ.length
      · rw [if_pos hl, List.getElem?_eq_getElem hl]; rfl
      · rw [if_neg hl, List.getElem?_eq_none_iff.mpr (by omega)]
    · rw [List.getElem?_set_ne hji]
  · rw [if_neg hi, if_neg hi, List.getElem?_set_ne (show j ≠ i from fun z => hi (by rw [← z]; exact hj))]
theorem wipe_wipe (σ : L2.St) (vs : List Nat) : wipe (wipe σ vs) vs = wipe σ vs := by
  apply List.ext_getElem?
  intro i
  rw [wipe_get, wipe_get]
  by_cases hi : i ∈ vs
  · rw [if_pos hi, if_pos hi]
    cases σ[i]? <;> rfl
  · rw [if_neg hi, if_neg hi]
theorem At.wipe {σ : L2.St} (A : At Cs F M H σ ρ) (vs : List Nat) : At Cs F M H (wipe σ vs) (wipeE ρ vs) :=
  ⟨A.mem, by rw [wipe_length, wipeE_length, A.len], fun i d e => by
    rw [wipeE_get] at e
    by_cases hi : i ∈ vs
    · rw [if_pos hi] at e
      cases h : ρ[i]? with
      | none => rw [h] at e; cases e
      | some o => rw [h] at e; cases e
    · rw [if_neg hi] at e
      obtain ⟨v, h1, h2⟩ := A.env i d e
      exact ⟨v, by rw [wipe_get, if_neg hi]; exact h1, h2⟩⟩
theorem At.hide {σ : L2.St} (A : At Cs F M H σ ρ) (hq : H q = none) : At Cs (Hid F q) M (upd H q o) σ ρ :=
  ⟨A.mem.hide hq, A.len, fun i d e => let ⟨v, h1, h2⟩ := A.env i d e; ⟨v, h1, (h2.avoid hq fun _ => zf_hid).upd (.inl (.inr rfl))⟩⟩
end
end DL
namespace DL
open PySem PySem.Spec PyProof.Rows L2
/-- the context of a comprehension's block -/
abbrev bX (X : Cx) (scope : Scope) (s : Shared) (H : Hp) (C : Addr) (cl : List (Str × Addr)) (fp : List Addr) : Cx := X.blk s H scope (compEnvC scope cl C X.env) fp
def semEB (X : Cx) (scope : Scope) (e : Expr) : TE := fun σ H Q => ∀ s0 H0 C cl fp, semE (bX X scope s0 H0 C cl fp) e σ H Q
def semTB (X : Cx) (scope : Scope) (e : Expr) : TT := fun σ H Q => ∀ s0 H0 C cl fp, semT (bX X scope s0 H0 C cl fp) e σ H Q
section
variable {X : Cx} {scope : Scope} {e : Expr}
theorem pe_semB (s0 : Shared) (H0 : Hp) (C : Addr) (cl : List (Str × Addr)) (fp : List Addr) : PE (bX X scope s0 H0 C cl fp) e (semEB X scope e) := ⟨fun pins s _ _ _ I h => h s0 H0 C cl fp pins s I⟩
end
/-- what a target does with a datum, among the own names vs -/
def TgR (Cs : Gc) (g : TG) (vs : List Nat) (step : D → Env → (Env → Prop) → Prop) : Prop := ∀ {F : Addr → Prop} {M : Mem} {H : Hp} {σ0 σ : L2.St} {ρ : Env} {v : V} {d : D} (K : Env → Prop) (Q : L2.St → Hp → Prop),
  At Cs F M H σ ρ → Rep Cs (Zf F M) H v d → wipe σ vs = wipe σ0 vs → step d ρ K → (∀ σ' ρ', At Cs F M H σ' ρ' → wipe σ' vs = wipe σ0 vs → K ρ' → Q σ' H) → g v σ H Q
def stN (j : Nat) : D → Env → (Env → Prop) → Prop := fun d ρ K => K (ρ.set j (some d))
theorem tg_name {Cs : Gc} {j : Nat} {vs : List Nat} (hj : j ∈ vs) : TgR Cs (gName j) vs (stN j) := fun K Q A r hw h k => k _ _ (A.set j r) (wipe_set hj hw) h
/-! ### a def -/
def startE (N : List Str) (ds : List D) : Env := ds.map some ++ List.replicate (N.length - ds.length) none
theorem at_start {Cs : Gc} {F : Addr → Prop} {M : Mem} {H : Hp} {N : List Str} {vs : List V} {ds : List D} (m : MemAt Cs F M H) (r : Reps Cs (Zf F M) H vs ds) : At Cs F M H (L2.start N vs) (startE N ds) := by
  refine ⟨m, by unfold L2.start startE; simp only [List.length_append, List.length_map, List.length_replicate, r.length], fun i d e => ?_⟩
  unfold startE at e
  by_cases hi : i < ds.length
  · rw [List.getElem?_append_left (by simpa using hi), List.getElem?_map] at e
    cases h : ds[i]? with
    | none => rw [h] at e; cases e
    | some d' =>
      rw [h] at e
      cases e
      obtain ⟨v, h1, h2⟩ := r.get h
      refine ⟨v, ?_, h2⟩
      unfold L2.start
      rw [List.getElem?_append_left (by rw [List.length_map, r.length]; exact hi), List.getElem?_map, h1]
      rfl
  · rw [List.getElem?_append_right (by simpa using hi), List.getElem?_replicate] at e
    split at e <;> cases e
/-- THE RULE for a def, told of data: dds are the defaults that fill up -/
theorem fn_D {Cs : Gc} {P : Program} {w : World} {K : PySem.W.Frag} {mg : Str → Option Value} {base : Heap} {k : Nat} {f : Addr} {fd : FuncData} {name qual : Str} {params : Arguments} {body : List Stmt} {scope : Scope} {dvs dws : List V} {kws : List (Str × V)} {ds : List Value}
    {N ps : List Str} {S : FS} (dds : List D) (Fd : FunD K name qual params body scope dvs kws f fd) (Sc : FnScope N ps scope) (hb : Binds K fd ps ds) (hd : Vals dws ds)
    (hdd : ∀ (Z : Addr → Prop) (H : Hp), Reps Cs Z H dws dds) (len : ∀ ds M Φ, S ds M Φ → (ds ++ dds).length = ps.length)
    (hbody : ∀ (cdv : Value) (A : Around) (outer : List PySem.Env) (s : Shared) (H : Hp) (as : List D) (M : Mem) (Φ : D → Mem → Prop), Rm k (cxOf CX0 P w K mg base N qual scope f cdv A outer s H E0).nox.A → S as M Φ →
      WSs Cs (cxOf CX0 P w K mg base N qual scope f cdv A outer s H E0).nox body (startE N (as ++ dds)) M { nx := fun _ M' => Φ .non M', rt := Φ }) :
    FnG P w K mg base CX0 (k + 1) f (spD Cs S) := by
  have G : FnG P w K mg base CX0 (k + 1) f (fun vs H Q E => (fun vs H Q E => ∃ ws, vs = ws ++ dws ∧ spD Cs S ws H Q E) (vs ++ dws) H Q E) := by
    refine fn_g (sp := fun vs H Q E => ∃ ws, vs = ws ++ dws ∧ spD Cs S ws H Q E) Fd Sc hb hd (fun vs H Q E h => ?_) fun cdv A outer s H vs Q E hr h => ?_
    · obtain ⟨ws, e, F, as, M, Φ, m, r, hs, q⟩ := h
      have l := len as M Φ hs
      rw [e, List.length_append, r.length, (hdd (Zf F M) H).length, ← List.length_append]
      exact l
    · obtain ⟨ws, rfl, F, as, M, Φ, m, r, hs, q⟩ := h
      refine ⟨semSs (cxOf CX0 P w K mg base N qual scope f cdv A outer s H E).nox body, PSs.nox pss_sem, ?_⟩
      have hW := hbody cdv A outer s H as M Φ hr hs
      refine fun pins s1 I => hW.run F (L2.start N (ws ++ dws)) H (at_start m (r.append (hdd _ _))) _ ⟨fun σ' ρ' H' M' p A' h => q _ _ H' M' p A'.mem .non h, q, fun _ _ _ _ _ _ h => h.elim, fun _ _ _ _ _ _ h => h.elim⟩ pins s1 I
  exact G.imp fun vs H Q E h => ⟨vs, rfl, h⟩
end DL
namespace DL
open PySem PySem.Spec PyProof.Rows L2
/-! ### facts of the top, read by a Hook -/
inductive Ty where
  | t (n : String) | c (x : Str)
def Ty.v (K : PySem.W.Frag) : Ty → Value
  | .t n => .type n
  | .c x => .ref (He.ga K x)
inductive Fc where
  | glo (x : Str) | free (x : Str) | int (x : Str) (i : Int) | str (x z : Str)
  | scls (x : Str) | slot (x f : Str) (i : Nat) | sisi (x : Str) | meth (x m : Str) | mkr (x : Str) | prop (x f : Str)
  | own (x m : Str) | selfF (x : Str) | notF (x y : Str) | kit (a b : Ty) (r : Bool) | nei (x : Str)
def propB (K : PySem.W.Frag) (C : Addr) (m : Str) : Bool := match PySem.W.recIn K (He.ma K C m) "property" with
  | some (.ref _ :: _) => true
  | _ => false
def Fc.ok (K : PySem.W.Frag) : Fc → Bool
  | .glo x => He.eqO (PySem.W.nsIn K mainGlobals x) (some (some (.ref (He.ga K x)))) && PySem.W.keepIn K (.ref (He.ga K x))
  | .free x => He.eqO (PySem.W.nsIn K mainGlobals x) (some none)
  | .int x i => (He.Fa.int x i).ok K
  | .str x z => (He.Fa.str x z).ok K
  | .scls x => PySem.W.plainGet K (He.ga K x) Str.empty && (PySem.W.isClsIn K (He.ga K x) && (PySem.W.plainOver K (He.ga K x) && He.eqO (PySem.W.findIn K (.ref (He.ga K x)) "__setattr__") (some (some (.builtin "object.__setattr__")))))
  | .slot x f i => He.eqO (PySem.W.findIn K (.ref (He.ga K x)) f) (some (some (.ref (He.ma K (He.ga K x) f)))) && (He.eqO (PySem.W.specialIn K (.ref (He.ma K (He.ga K x) f)) "__get__") (some (some (.builtin "member_descriptor.__get__"))) &&
      (decide (PySem.W.takesIn K (.ref (He.ma K (He.ga K x) f)) = some true) && (decide (PySem.W.typeIn K (.ref (He.ma K (He.ga K x) f)) = some (.type "member_descriptor")) && (decide (PySem.W.slotIn K (He.ma K (He.ga K x) f) (He.ga K x) = some i) && decide (i < 1000)))))
  | .sisi x => He.eqO (PySem.W.findIn K (.ref (He.ga K x)) "__class__") (some (some (.builtin "object.__class__"))) && (He.eqO (PySem.W.specialIn K (.builtin "object.__class__") "__get__") (some (some (.builtin "getset_descriptor.__get__"))) &&
      (decide (PySem.W.takesIn K (.builtin "object.__class__") = some true) && decide (PySem.W.mroIn K (He.ga K x) (.type "object") = some true)))
  | .meth x m => He.eqO (PySem.W.findIn K (.ref (He.ga K x)) m) (some (some (.ref (He.ma K (He.ga K x) m)))) && (PySem.W.isFn K (.ref (He.ma K (He.ga K x) m)) && PySem.W.keepIn K (.ref (He.ma K (He.ga K x) m)))
  | .mkr x => PySem.W.makesIn K (He.ga K x) && (He.eqO (PySem.W.findIn K (.ref (He.ga K x)) "__init__") (some (some (.ref (He.ma K (He.ga K x) "__init__")))) && (PySem.W.isFn K (.ref (He.ma K (He.ga K x) "__init__")) && PySem.W.keepIn K (.ref (He.ga K x))))
  | .prop x f => He.eqO (PySem.W.findIn K (.ref (He.ga K x)) f) (some (some (.ref (He.ma K (He.ga K x) f)))) && (He.eqO (PySem.W.specialIn K (.ref (He.ma K (He.ga K x) f)) "__get__") (some (some (.builtin "property.__get__"))) &&
      (decide (PySem.W.takesIn K (.ref (He.ma K (He.ga K x) f)) = some true) && propB K (He.ga K x) f))
  | .own x m => He.eqO (PySem.W.findIn K (.ref (He.ga K x)) m) (some (some (.ref (He.ma K (He.ga K x) m)))) && PySem.W.isFn K (.ref (He.ma K (He.ga K x) m))
  | .selfF x => PySem.W.selfFirst K (He.ga K x)
  | .notF x y => PySem.W.notFirst K (He.ga K x) (.ref (He.ga K y))
  | .kit a b r => decide (PySem.W.kitOne K (a.v K) (b.v K) = some r)
  | .nei x => He.eqO (PySem.W.findIn K (.ref (He.ga K x)) "__ne__") (some (some (.builtin "object.__ne__"))) && (decide (PySem.W.mroIn K (He.ga K x) (.type "object") = some true) && decide (PySem.W.mroIn K (He.ga K x) (.type "int") = some false))
section
variable {K : PySem.W.Frag} {h : Heap} {mg : Str → Option Value} {x y f m z : Str} {i : Nat}
theorem Fc.glo_ok (X : K.In h) (G : h.Ns mainGlobals mg) (c : (Fc.glo x).ok K = true) : mg x = some (.ref (He.ga K x)) ∧ PySem.W.keepIn K (.ref (He.ga K x)) = true := ⟨PySem.W.mg_of X G (He.eqO_ok (He.ba c).1), (He.ba c).2⟩
theorem Fc.free_ok (X : K.In h) (G : h.Ns mainGlobals mg) (c : (Fc.free x).ok K = true) : mg x = none := PySem.W.mg_none_of X G (He.eqO_ok c)
theorem Fc.int_ok (X : K.In h) (G : h.Ns mainGlobals mg) {n : Int} (c : (Fc.int x n).ok K = true) : ∃ t, mg x = some (.int n t) := He.int_ok X G c
theorem Fc.scls_ok (c : (Fc.scls x).ok K = true) : SlX.SCls K (He.ga K x) := by
  obtain ⟨h1, c⟩ := He.ba c
  obtain ⟨h2, c⟩ := He.ba c
  obtain ⟨h3, h4⟩ := He.ba c
  exact ⟨h1, h2, h3, He.eqO_ok h4⟩
theorem Fc.slot_ok (c : (Fc.slot x f i).ok K = true) : SlX.Slot1 K (He.ga K x) f (He.ma K (He.ga K x) f) i := by
  obtain ⟨h1, c⟩ := He.ba c
  obtain ⟨h2, c⟩ := He.ba c
  obtain ⟨h3, c⟩ := He.ba c
  obtain ⟨h4, c⟩ := He.ba c
  obtain ⟨h5, h6⟩ := He.ba c
  exact ⟨He.eqO_ok h1, He.eqO_ok h2, of_decide_eq_true h3, of_decide_eq_true h4, of_decide_eq_true h5, of_decide_eq_true h6⟩
theorem Fc.sisi_ok (c : (Fc.sisi x).ok K = true) : SlX.SIsi K (He.ga K x) := by
  obtain ⟨h1, c⟩ := He.ba c
  obtain ⟨h2, c⟩ := He.ba c
  obtain ⟨h3, h4⟩ := He.ba c
  exact ⟨He.eqO_ok h1, He.eqO_ok h2, of_decide_eq_true h3, of_decide_eq_true h4⟩
theorem Fc.meth_ok (c : (Fc.meth x m).ok K = true) : Meth K (He.ga K x) m (He.ma K (He.ga K x) m) := by
  obtain ⟨h1, c⟩ := He.ba c
  obtain ⟨h2, h3⟩ := He.ba c
  exact ⟨He.eqO_ok h1, h2, h3⟩
theorem Fc.mkr_ok (c : (Fc.mkr x).ok K = true) : Mk K (He.ga K x) (He.ma K (He.ga K x) "__init__") := by
  obtain ⟨h1, c⟩ := He.ba c
  obtain ⟨h2, c⟩ := He.ba c
  obtain ⟨h3, h4⟩ := He.ba c
  exact ⟨h1, He.eqO_ok h2, h3, h4⟩
/-- a property: what wat_prop asks -/
structure PropF (K : PySem.W.Frag) (C : Addr) (f : Str) (q g : Addr) : Prop where
  at_ : PySem.W.findIn K (.ref C) f = some (some (.ref q))
  get : PySem.W.specialIn K (.ref q) "__get__" = some (some (.builtin "property.__get__"))
  tk : PySem.W.takesIn K (.ref q) = some true
  rc : ∃ rest, PySem.W.recIn K q "property" = some (.ref g :: rest)
theorem Fc.prop_ok (c : (Fc.prop x f).ok K = true) : PropF K (He.ga K x) f (He.ma K (He.ga K x) f) (He5.wf K (He.ga K x) "property" f) := by
  obtain ⟨h1, c⟩ := He.ba c
  obtain ⟨h2, c⟩ := He.ba c
  obtain ⟨h3, h4⟩ := He.ba c
  refine ⟨He.eqO_ok h1, He.eqO_ok h2, of_decide_eq_true h3, ?_⟩
  unfold He5.wf
  unfold propB at h4
  split at h4
  · rename_i g r e
    exact ⟨r, by rw [e]⟩
  · cases h4
/-- a class with an own == and no own != -/
structure NeF (K : PySem.W.Frag) (C : Addr) : Prop where
  ne : PySem.W.findIn K (.ref C) "__ne__" = some (some (.builtin "object.__ne__"))
  ob : PySem.W.mroIn K C (.type "object") = some true
  no : PySem.W.mroIn K C (.type "int") = some false
theorem Fc.nei_ok (c : (Fc.nei x).ok K = true) : NeF K (He.ga K x) := by
  obtain ⟨h1, c⟩ := He.ba c
  obtain ⟨h2, h3⟩ := He.ba c
  exact ⟨He.eqO_ok h1, of_decide_eq_true h2, of_decide_eq_true h3⟩
theorem Fc.own_ok (c : (Fc.own x m).ok K = true) : PySem.W.findIn K (.ref (He.ga K x)) m = some (some (.ref (He.ma K (He.ga K x) m))) ∧ PySem.W.isFn K (.ref (He.ma K (He.ga K x) m)) = true := ⟨He.eqO_ok (He.ba c).1, (He.ba c).2⟩
theorem Fc.kit_ok {a b : Ty} {r : Bool} (c : (Fc.kit a b r).ok K = true) : PySem.W.kitOne K (a.v K) (b.v K) = some r := of_decide_eq_true c
end
/-! the built-ins' names -/
theorem bb_abs : bootBuiltins "abs" = some (.builtin "abs") := by decide +kernel
theorem bb_len : bootBuiltins "len" = some (.builtin "len") := by decide +kernel
theorem bb_max : bootBuiltins "max" = some (.builtin "max") := by decide +kernel
theorem bb_min : bootBuiltins "min" = some (.builtin "min") := by decide +kernel
theorem bb_all : bootBuiltins "all" = some (.builtin "all") := by decide +kernel
theorem bb_any : bootBuiltins "any" = some (.builtin "any") := by decide +kernel
theorem bb_isinstance : bootBuiltins "isinstance" = some (.builtin "isinstance") := by decide +kernel
theorem bb_repr : bootBuiltins "repr" = some (.builtin "repr") := by decide +kernel
theorem bt_int : bootBuiltins "int" = some (.type "int") := by decide +kernel
theorem bt_bool : bootBuiltins "bool" = some (.type "bool") := by decide +kernel
theorem bt_tuple : bootBuiltins "tuple" = some (.type "tuple") := by decide +kernel
/-! the Hook -/
def obsC (fa : List Fc) (fn : List He5.DefA) (K : PySem.W.Frag) : He.AlD := ((fa.all fun f => f.ok K) && fn.all fun d => d.ok K, fn.map fun d => He5.fnA K (d.at_ K))
def valC (fn : List He5.DefA) : He.AlD := (true, fn.map He5.DefA.val)
def SaysC (fa : List Fc) (fn : List He5.DefA) (K : PySem.W.Frag) : Prop := obsC fa fn K = valC fn
section
variable {fa : List Fc} {fn : List He5.DefA} {K : PySem.W.Frag}
theorem SaysC.fact (c : SaysC fa fn K) (i : Nat) {f : Fc} (h : fa[i]? = some f := by rfl) : f.ok K = true := by
  have c1 := (He.ba (show ((fa.all fun f => f.ok K) && fn.all fun d => d.ok K) = true from congrArg (fun z : He.AlD => z.1) c)).1
  exact List.all_eq_true.mp c1 f (List.mem_of_getElem? h)
theorem SaysC.def_ (c : SaysC fa fn K) (i : Nat) {d : He5.DefA} (h : fn[i]? = some d := by rfl) : ∃ fd, L2.FunD K d.name d.qual d.params d.body d.scope (d.dvs K) (d.kws K) (d.at_ K) fd := by
  have c2 := (He.ba (show ((fa.all fun f => f.ok K) && fn.all fun d => d.ok K) = true from congrArg (fun z : He.AlD => z.1) c)).2
  have e : fn.map (fun d => He5.fnA K (d.at_ K)) = fn.map He5.DefA.val := congrArg (fun z : He.AlD => z.2) c
  have e2 : (fn.map fun d => He5.fnA K (d.at_ K))[i]? = (fn.map He5.DefA.val)[i]? := by rw [e]
  rw [List.getElem?_map, List.getElem?_map, h] at e2
  exact He5.DefA.funD (Option.some.inj e2) (List.all_eq_true.mp c2 d (List.mem_of_getElem? h))
end
end DL
/-! ### gates: they look at the syntax alone -/
namespace DL
open PySem PySem.Spec PyProof.Rows L2
section
variable {Cs : Gc} {X : Cx} {ρ : Env} {M : Mem} {Φ : D → Mem → Prop} {e a : Expr} {es : List Expr} {kws : List Keyword} {p pos apos : Pos}
theorem at_name (x : Str) (h : WE Cs X (.Name x pos) ρ M Φ) : WE Cs X (.Name x pos) ρ M Φ := h
theorem at_call (x : Str) (h : WE Cs X (.Call (.Name x p) es kws pos) ρ M Φ) : WE Cs X (.Call (.Name x p) es kws pos) ρ M Φ := h
theorem at_meth (x : Str) (h : WE Cs X (.Call (.Attribute a x apos) es kws pos) ρ M Φ) : WE Cs X (.Call (.Attribute a x apos) es kws pos) ρ M Φ := h
theorem at_wat (x : Str) {d : D} (h : WAt Cs X x d M Φ) : WAt Cs X x d M Φ := h
/-- a module's int, its token unknown -/
theorem we_gintE {x : Str} {i : Int} (hm : ∃ t, X.mg x = some (.int i t)) (hg : Gl X x) (h : Φ (.int i) M) (hd : (x == ("__debug__" : Str)) = false := by decide) : WE Cs X (.Name x pos) ρ M Φ := let ⟨_, ht⟩ := hm; we_gint hg ht h hd
/-- a result that is known -/
theorem Res.eq {d d' : D} (e : d = d') (h : Φ d' M) : Φ d M := by rw [e]; exact h
end
/-! ### amounts: fractions in least terms -/
def amt (q : Rat) : D := .obj 0 [.int q.den, .int q.num]
def rt (q : Rat) : D := .tup [.int q.num, .int q.den]
structure Bz (B : Nat) (q : Rat) : Prop where
  n : q.num.natAbs < 2 ^ B
  d : q.den < 2 ^ B
theorem Bz.mono {B C : Nat} {q : Rat} (h : Bz B q) (l : B ≤ C) : Bz C q := ⟨Nat.lt_of_lt_of_le h.n (Nat.pow_le_pow_right (by decide) l), Nat.lt_of_lt_of_le h.d (Nat.pow_le_pow_right (by decide) l)⟩
theorem div_num_le (a : Int) (u : Int) : (Rat.divInt a u).num.natAbs ≤ a.natAbs := by
  rw [Rat.num_divInt]
  by_cases h : u = 0
  · subst h; simp
  · have hg : 0 < (u.gcd a : Int) := by
      have := Int.gcd_pos_of_ne_zero_left a h
      omega
    have h1 : (u.sign * a).natAbs = a.natAbs := by
      rw [Int.natAbs_mul, Int.natAbs_sign]
      simp [h]
    rw [Int.natAbs_ediv_of_dvd]
    · rw [h1]; exact Nat.div_le_self _ _
    · exact Int.dvd_trans (Int.gcd_dvd_right _ _) (Int.dvd_mul_left _ _)
theorem div_den_le (a : Int) (u : Int) (h : u ≠ 0) : (Rat.divInt a u).den ≤ u.natAbs := by
  rw [Rat.den_divInt, if_neg h]
  exact Nat.div_le_self _ _
theorem Bz.div {B : Nat} {a u : Int} (h : u ≠ 0) (ha : a.natAbs < 2 ^ B) (hu : u.natAbs < 2 ^ B) : Bz B (Rat.divInt a u) := ⟨Nat.lt_of_le_of_lt (div_num_le a u) ha, Nat.lt_of_le_of_lt (div_den_le a u h) hu⟩
end DL
namespace DL
theorem rat_den_pos (q : Rat) : (0 : Int) < q.den := by have := q.den_pos; omega
theorem rat_den_ne (q : Rat) : (q.den : Int) ≠ 0 := by have := q.den_pos; omega
theorem rat_gcd (q : Rat) : Int.gcd q.num q.den = 1 := by
  have h := q.reduced
  unfold Nat.Coprime at h
  unfold Int.gcd
  simpa using h
theorem rat_div_self (q : Rat) : Rat.divInt q.num q.den = q := Rat.num_divInt_den q
theorem rat_add (p q : Rat) : p + q = Rat.divInt (p.num * q.den + q.num * p.den) (p.den * q.den) := by
  conv => lhs; rw [← Rat.num_divInt_den p, ← Rat.num_divInt_den q]
  rw [Rat.divInt_add_divInt _ _ (rat_den_ne p) (rat_den_ne q)]
theorem rat_mul (p q : Rat) : p * q = Rat.divInt (p.num * q.num) (p.den * q.den) := by
  conv => lhs; rw [← Rat.num_divInt_den p, ← Rat.num_divInt_den q]
  rw [Rat.divInt_mul_divInt]
theorem rat_div (p q : Rat) : p / q = Rat.divInt (p.num * q.den) (p.den * q.num) := by
  rw [Rat.div_def, Rat.inv_def]
  conv => lhs; rw [← Rat.num_divInt_den p]
  rw [Rat.divInt_mul_divInt]
theorem sgn_eq {u : Int} (h : u ≠ 0) : (if u < 0 then (-1 : Int) else 1) = u.sign := by
  by_cases hu : u < 0
  · rw [if_pos hu, Int.sign_eq_neg_one_of_neg hu]
  · rw [if_neg hu, Int.sign_eq_one_of_pos (by omega)]
theorem top_eq {a u : Int} (h : u ≠ 0) : (if u < 0 then (-1 : Int) else 1) * a / (Int.gcd a u : Int) = (Rat.divInt a u).num := by
  rw [Rat.num_divInt, sgn_eq h, Int.gcd_comm]
theorem bot_eq {a u : Int} (h : u ≠ 0) : (if u < 0 then (-1 : Int) else 1) * u / (Int.gcd a u : Int) = ((Rat.divInt a u).den : Int) := by
  rw [Rat.den_divInt, if_neg h, sgn_eq h, Int.gcd_comm]
  have e : u.sign * u = (u.natAbs : Int) := Int.sign_mul_self u
  rw [e]
  rfl
theorem gcd_pos {a u : Int} (h : u ≠ 0) : (0 : Int) < (Int.gcd a u : Int) := by
  have := Int.gcd_pos_of_ne_zero_right a h
  omega
theorem gcd_lt {a u : Int} {B : Nat} (h : u ≠ 0) (hu : u.natAbs < 2 ^ B) : ((Int.gcd a u : Int)).natAbs < 2 ^ B := by
  refine Nat.lt_of_le_of_lt ?_ hu
  show Int.gcd a u ≤ _
  have : Int.gcd a u ∣ u.natAbs := Int.ofNat_dvd.mp (by rw [Int.dvd_natAbs]; exact Int.gcd_dvd_right a u)
  exact Nat.le_of_dvd (by omega) this
theorem mul_lt {B C : Nat} {x y : Int} (hx : x.natAbs < 2 ^ B) (hy : y.natAbs < 2 ^ C) : (x * y).natAbs < 2 ^ (B + C) := L2.wide_lt hx hy
theorem add_lt {B : Nat} {x y : Int} (hx : x.natAbs < 2 ^ B) (hy : y.natAbs < 2 ^ B) : (x + y).natAbs < 2 ^ (B + 1) := by
  have := Int.natAbs_add_le x y
  rw [Nat.pow_succ]
  omega
theorem den_lt {B : Nat} {q : Rat} (h : Bz B q) : ((q.den : Int)).natAbs < 2 ^ B := h.d
theorem Bz.add {B : Nat} {p q : Rat} (hp : Bz B p) (hq : Bz B q) : Bz (2 * B + 1) (p + q) := by
  rw [rat_add]
  have e : 2 * B + 1 = B + B + 1 := by omega
  rw [e]
  refine Bz.div ?_ ?_ ?_
  · exact Int.mul_ne_zero (rat_den_ne p) (rat_den_ne q)
  · exact add_lt (mul_lt hp.n (den_lt hq)) (mul_lt hq.n (den_lt hp))
  · exact Nat.lt_of_lt_of_le (mul_lt (den_lt hp) (den_lt hq)) (Nat.pow_le_pow_right (by decide) (by omega))
theorem Bz.mul {B : Nat} {p q : Rat} (hp : Bz B p) (hq : Bz B q) : Bz (2 * B) (p * q) := by
  rw [rat_mul]
  have e : 2 * B = B + B := by omega
  rw [e]
  exact Bz.div (Int.mul_ne_zero (rat_den_ne p) (rat_den_ne q)) (mul_lt hp.n hq.n) (mul_lt (den_lt hp) (den_lt hq))
theorem Bz.over {B : Nat} {p q : Rat} (h : q ≠ 0) (hp : Bz B p) (hq : Bz B q) : Bz (2 * B) (p / q) := by
  rw [rat_div]
  have e : 2 * B = B + B := by omega
  rw [e]
  refine Bz.div (Int.mul_ne_zero (rat_den_ne p) ?_) (mul_lt hp.n (den_lt hq)) (mul_lt (den_lt hp) hq.n)
  exact fun z => h (Rat.num_eq_zero.mp z)
theorem Bz.one : Bz 1 1 := ⟨by decide, by decide⟩
theorem num_nonneg {q : Rat} : 0 ≤ q.num ↔ 0 ≤ q := Rat.num_nonneg
theorem gcd_step {u v : Int} (hu : 0 ≤ u) (hv : 0 < v) : Int.gcd v (u % v) = Int.gcd u v := by
  obtain ⟨a, rfl⟩ := Int.eq_ofNat_of_zero_le hu
  obtain ⟨b, rfl⟩ := Int.eq_ofNat_of_zero_le (Int.le_of_lt hv)
  have e : ((a : Int) % (b : Int)) = ((a % b : Nat) : Int) := by simp
  rw [e]
  show Nat.gcd b (a % b) = Nat.gcd a b
  rw [Nat.gcd_comm b, Nat.gcd_comm a b]
  exact (Nat.gcd_rec b a).symm
end DL
namespace DL
open PySem PySem.Spec PyProof.Rows L2
section
variable {Cs : Gc} {F : Addr → Prop} {X : Cx} {ρ : Env} {M : Mem} {a b c e : Expr} {es : List Expr} {pos p apos : Pos} {Φ : D → Mem → Prop} {E : DE} {x y z : Str}
/-- an owned list is frozen -/
theorem frz {H : Hp} {q : Addr} {ds : List D} (m : MemAt Cs F M H) (hM : M q = some (.lst ds)) : Post M H (era M q) H ∧ MemAt Cs F (era M q) H ∧ Rep Cs (Zf F (era M q)) H (.ref q) (.lst ds) := by
  have p3 : Post M H (era M q) H := Post.sub fun b hb => by
    by_cases e1 : b = q
    · rw [e1, era_same] at hb; exact absurd rfl hb
    · rw [era_ne e1] at hb; exact hb
  obtain ⟨vs, e, r⟩ := m.at_ q _ hM
  refine ⟨p3, m.go p3 fun b nn hb => ?_, .lst (fun z => ?_) (.inl e) (r.go p3)⟩
  · have b1 : b ≠ q := fun z => by rw [z, era_same] at hb; cases hb
    rw [era_ne b1] at hb
    refine .inl ⟨hb, fun _ z => z, fun dx' z => ⟨fun _ z => z, ?_⟩⟩
    have w := ((m.at_ b _ hb).aux z).2
    rw [era_ne (fun z => by rw [z, hM] at w; cases w)]
    exact w
  · rcases z with z | z
    · have := (m.ff q z).1
      rw [hM] at this; cases this
    · rw [era_same] at z; exact z rfl
/-- the same for a name that holds it -/
theorem wss_frz {sts : List Stmt} {q : Addr} {ds : List D} (i : Nat) (hi : ρ[i]? = some (some (.ref q))) (hM : M q = some (.lst ds)) (h : WSs Cs X sts (ρ.set i (some (.lst ds))) (era M q) E) : WSs Cs X sts ρ M E :=
  .mk fun F σ H A Dn k => by
    obtain ⟨p3, m3, r3⟩ := frz A.mem hM
    obtain ⟨v, hv, rv⟩ := A.env i _ hi
    cases rv
    have A2 := (A.go p3 m3).set i r3
    have e : σ.set i (some (V.ref q)) = σ := by
      apply List.ext_getElem?
      intro j
      by_cases hj : i = j
      · subst hj
        rw [List.getElem?_set_self (List.getElem?_eq_some_iff.mp hv).1, hv]
      · rw [List.getElem?_set_ne hj]
    rw [e] at A2
    exact h.run F σ H A2 Dn (k.from p3)
end
/-! ### ratios -/
theorem rt_eqv (p q : Rat) : PyData.eqv (rt p).py (rt q).py = decide (p = q) := by
  have e : ∀ x : Rat, (rt x).py = .tuple [.int x.num, .int x.den] := fun x => by simp [rt, D.py, pys]
  have k : p = q ↔ p.num = q.num ∧ p.den = q.den := ⟨fun h => by rw [h]; exact ⟨rfl, rfl⟩, fun h => Rat.ext h.1 h.2⟩
  rw [e, e, Bool.eq_iff_iff, decide_eq_true_iff, k]
  simp [PyData.eqv, PyData.eqvAll]
  intro _
  exact Int.ofNat_inj
theorem rt_shaped (q : Rat) : SeqAt.shaped (rt q).py = true := by simp [rt, D.py, pys]; rfl
theorem rt_isPy (q : Rat) : (rt q).isPy = true := by simp [rt, D.isPy, arePy]
end DL
namespace DL
open PySem PySem.Spec PyProof.Rows L2
end DL
namespace DL
open PySem PySem.Spec PyProof.Rows L2
/-! ### the end of a law -/
/-- none of the top's own objects is a list -/
def noL (K : PySem.W.Frag) : Bool := K.all fun p => match p.2.cls with | .type n => !decide (n = "list") | _ => true
theorem noL_ok {K : PySem.W.Frag} (h : noL K = true) {a : Addr} {o : Obj} (e : K.lookup a = some o) : o.cls ≠ .type "list" := fun z => by
  have m : ∃ p ∈ K, p.2 = o := by
    clear h
    induction K with
    | nil => cases e
    | cons p K ih =>
      obtain ⟨b, o'⟩ := p
      rw [List.lookup_cons] at e
      split at e
      · cases e; exact ⟨_, List.mem_cons_self, rfl⟩
      · obtain ⟨p, h1, h2⟩ := ih e
        exact ⟨p, List.mem_cons_of_mem _ h1, h2⟩
  obtain ⟨p, h1, h2⟩ := m
  have w := List.all_eq_true.mp h p h1
  rw [h2, z] at w
  simp at w
def obsN (fa : List Fc) (fn : List He5.DefA) (K : PySem.W.Frag) : He.AlD := ((noL K && (Fc.glo "law").ok K) && (obsC fa fn K).1, (obsC fa fn K).2)
def SaysN (fa : List Fc) (fn : List He5.DefA) (K : PySem.W.Frag) : Prop := obsN fa fn K = valC fn
theorem SaysN.says {fa : List Fc} {fn : List He5.DefA} {K : PySem.W.Frag} (c : SaysN fa fn K) : noL K = true ∧ (Fc.glo "law").ok K = true ∧ SaysC fa fn K := by
  have c1 := He.ba (show ((noL K && (Fc.glo "law").ok K) && (obsC fa fn K).1) = true from congrArg (fun z : He.AlD => z.1) c)
  have c2 : (obsN fa fn K).2 = (valC fn).2 := congrArg (fun z : He.AlD => z.2) (show obsN fa fn K = valC fn from c)
  refine ⟨(He.ba c1.1).1, (He.ba c1.1).2, ?_⟩
  show obsC fa fn K = valC fn
  exact Prod.ext c1.2 c2
theorem room0 : Rm 60 callerA := ⟨⟨rfl, by decide, by decide⟩, rfl⟩
end DL
namespace DL
open PySem PySem.Spec PyProof.Rows L2
/-! ### != by an own ==, and products with an int -/
section
variable {M : Model} {A : Around} {Er : Value → Shared → Prop} {s : Shared} {K : PySem.W.Frag} {x C f : Addr} {y : Value} {ox : Obj} {od : Option Obj}
theorem ne_entry (hK : K.In s.heap) (J : PySem.W.InstAt s.heap x ox C od) (hs : PySem.W.findIn K (.ref C) "__eq__" = some (some (.ref f))) (hf : PySem.W.isFn K (.ref f) = true) (hu : A.units < cLine) {Q : Fin → Shared → Prop}
    (h : wpAny M A (call (.ref f) [.ref x, y]) (fun v s' => ∃ t, v = .bool t ∧ Q (.done (.ret (.bool (!t)))) s') Er s) : wpAny M A (Builtin.«object.__ne__» ⟨[.ref x, y], []⟩) Q Er s := by
  unfold Builtin.«object.__ne__»
  repeat (first
    | with_reducible refine wpAny_cRoomFor hu ?_
    | (refine wpAny_bind (m := callSpecialIfBound? (.ref x) (Str.ofString "__eq__") [y]) (PySem.W.ifBound_K hK J hs hf (wpAny_mono h (fun r s' hr => by
          obtain ⟨t, rfl, hq⟩ := hr
          repeat (first | exact hq | exact wpAny_pure hq | exact wpAny_truthy_bool hq | (refine wpAny_bind (m := truthy (.bool _)) (wpAny_truthy_bool ?_)) | wp_step)) fun _ _ z => z)))
    | wp_step)
theorem ifB {id : String} {name : Str} {args : List Value} {Q : Option Value → Shared → Prop} (hK : K.In s.heap) (J : PySem.W.InstAt s.heap x ox C od) (hs : PySem.W.findIn K (.ref C) name = some (some (.builtin id))) (hb : ∀ v, bindSpecial (.builtin id) v = pure (.builtin id, [v]))
    (h : wpAny M A (call (.builtin id) (.ref x :: args)) (fun v => Q (some v)) Er s) : wpAny M A (callSpecialIfBound? (.ref x) name args) Q Er s := by
  simp only [callSpecialIfBound?, bindSpecialIfBound?]
  refine wpAny_holding (wpAny_bind (wpAny_bind (wpAny_bind (J.type.here ((PySem.W.looks_findIn hK hs).here ?_)))))
  simp only [hb]
  refine wpAny_bind (wpAny_askSetting (wpAny_ite ?_))
  have last : wpAny M A (call (.builtin id) ([.ref x] ++ args) >>= fun v => pure (some v)) Q Er s := wpAny_bind (wpAny_mono h (fun v s' z => wpAny_pure z) fun _ _ z => z)
  split
  · exact wpAny_bind (wpAny_pure (wpAny_pure last))
  · exact wpAny_tryCatch (wpAny_bind (wpAny_pure (wpAny_pure last)))
end
section
variable {X : Cx} {pins : List (Addr × Obj)} {σ : L2.St} {H : Hp} {s : Shared} {Q : VK} {CX : CXT} {E : XK} {C g : Addr} {k : Nat} {sp : Sp}
theorem ne_g {a b dx dy : Addr} {vs ws : List (Option V)} (hne : PySem.W.findIn X.K (.ref C) "__ne__" = some (some (.builtin "object.__ne__"))) (hob : PySem.W.mroIn X.K C (.type "object") = some true)
    (hs : PySem.W.findIn X.K (.ref C) "__eq__" = some (some (.ref g))) (hf : PySem.W.isFn X.K (.ref g) = true) (F : FnG X.prog X.w X.K X.mg X.base CX k g sp) (hr : Rm (k + 1) X.A)
    (hx : ∀ (H : Hp) (s : Shared) (e : Value) (s' : Shared), CX X.stack H s E e s' → False) (I : Inv X pins σ H s) (ha : SlX.Slt H a C dx vs) (hb : SlX.Slt H b C dy ws) (q : sp [.ref a, .ref b] H (fun v H' => ∃ t, v = .bl t ∧ Q (.bl (!t)) H') E) :
    wpAny (model X.prog X.w) X.A (compareOp .NotEq (.ref a) (.ref b)) (EP X pins σ Q) X.xe s := by
  obtain ⟨sl, od, _, J, _⟩ := SlX.slt_inst I ha
  obtain ⟨sl', od', _, J', _⟩ := SlX.slt_inst I hb
  have inner : wpAny (model X.prog X.w) X.A.in1 (call (.ref g) [.ref a, .ref b]) (fun v s' => ∃ t, v = .bool t ∧ EP X pins σ Q (.bool (!t)) s') X.xe s := by
    refine wpAny_call (codeAny_mono (F X.A.in1 X.stack s H [.ref a, .ref b] [.ref a, .ref b] _ E hr.in1 I.env0.in1 (.cons rfl (.cons rfl .nil)) q) fun r s' hq => ?_)
    cases r with
    | error e => exact (hx _ _ _ _ hq).elim
    | ok fl =>
      cases fl with
      | ret u =>
        obtain ⟨v, H', I2, rv, t, rfl, q2⟩ := I.after hq
        obtain rfl : u = Value.bool t := rv
        exact ⟨t, rfl, .bl (!t), H', I2, rfl, q2⟩
      | next => exact False.elim hq
      | brk => exact False.elim hq
      | cont => exact False.elim hq
  have hi : PySem.W.Looks (model X.prog X.w) s.heap (isInstance (.ref a) (.type "object")) true := J.type.andThen (PySem.W.looks_mroIn I.kIn hob)
  have one : wpAny (model X.prog X.w) X.A (tryCompare (.ref a) "__ne__" (.ref b)) (fun r s' => ∃ v, r = some v ∧ EP X pins σ Q v s') X.xe s := by
    unfold tryCompare
    refine wpAny_bind (ifB I.kIn J hne PySem.F.cmp_object.ne.bind (wpAny_call (codeAny_call_builtin PySem.F.cmp_object.ne.plain PySem.F.cmpEntry_ne (PySem.W.check_slot PySem.F.cmpKind_ne PySem.F.cmpSplit_ne hi (PySem.F.cmpArgs_ne _ _)
      (ne_entry (A := X.A.in1) I.kIn J hs hf hr.in1.rm.units0 (wpAny_mono inner (fun v s' hv => ?_) fun _ _ z => z))))))
    obtain ⟨t, rfl, hq⟩ := hv
    exact ⟨t, rfl, wpAny_pure ⟨_, rfl, hq⟩⟩
  show wpAny _ _ (richCompare .NotEq (.ref a) (.ref b)) _ _ _
  unfold richCompare
  simp only [oneThing_ref]
  refine wpAny_holding (wpAny_bind (wpAny_cRoomFor hr.rm.units0 ?_))
  refine wpAny_bind (J.type.here (wpAny_bind (J'.type.here ?_)))
  rw [show (Value.ref C != Value.ref C) = false from by simp]
  simp only [Bool.false_eq_true, if_false]
  refine wpAny_bind (wpAny_pure ?_)
  simp only [Bool.false_eq_true, if_false]
  refine wpAny_bind (wpAny_mono one (fun r s' z => ?_) fun _ _ z => z)
  obtain ⟨v, rfl, hq⟩ := z
  exact wpAny_pure hq
end
section
variable {X : Cx} {pins : List (Addr × Obj)} {σ : L2.St} {H : Hp} {s : Shared} {Q : VK} {CX : CXT} {E : XK} {C g : Addr} {k : Nat} {sp : Sp}
/-- an instance times an int -/
theorem mulT_g {a dx gr : Addr} {vs : List (Option V)} {i : Int} {t : Tok} (hsf : PySem.W.selfFirst X.K C = true) (hs : PySem.W.findIn X.K (.ref C) "__mul__" = some (some (.ref g))) (hf : PySem.W.isFn X.K (.ref g) = true) (hr' : PySem.W.findIn X.K (.ref C) "__rmul__" = some (some (.ref gr)))
    (F : FnG X.prog X.w X.K X.mg X.base CX k g sp) (hr : Rm k X.A) (hx : Passes CX X E) (I : Inv X pins σ H s) (ha : SlX.Slt H a C dx vs) (q : sp [.ref a, .int i] H Q E) :
    wpAny (model X.prog X.w) X.A (binaryOp .Mult (.ref a) (.int i t)) (EP X pins σ Q) X.xe s := by
  obtain ⟨sl, od, _, J, _⟩ := SlX.slt_inst I ha
  obtain ⟨m, hF⟩ := I.fr
  refine PySem.W.ksp_binT (T := "int") (op := .Mult) (fo := some (.builtin "int.__mul__")) (ro := some (.builtin "int.__rmul__")) hF I.ok.mod.kin J rfl hsf hs hf hr' (.inr ⟨gr, rfl⟩) (by kernel_rfl) (by kernel_rfl) ?_ ?_
  · show (fastBuiltinMro "int").map (·.contains (Value.ref C)) = some false
    have e : fastBuiltinMro "int" = some [.type "int", .type "object"] := by kernel_rfl
    rw [e]
    simp
  · refine wpAny_mono (wpAny_call (run_g (us := [.ref a, .int i t]) (vs := [.ref a, .int i]) F hr hx I (.cons rfl (.cons ⟨t, rfl⟩ .nil)) q)) (fun w s' z => ?_) fun _ _ x => x
    obtain ⟨z', H', I', rz, qz⟩ := z
    exact SlX.cmpback rz ⟨z', H', I', rz, qz⟩
theorem int_declines {M : Model} {A : Around} {Er : Value → Shared → Prop} {a : Addr} {i : Int} {t : Tok} {ox : Obj} {R : Fin → Shared → Prop} (h : s.heap.get? a = some ox) (hd : ox.data = .plain) (q : R (.done (.ret .notImplemented)) s) :
    wpAny M A (Builtin.«int.__mul__» ⟨[.int i t, .ref a], []⟩) R Er s := by
  obtain ⟨hp, gg, d, tk, os⟩ := s
  unfold Builtin.«int.__mul__»
  repeat (first | with_reducible refine wpAny_load h ?_ | (with_reducible refine wpAny_loadPart_at h ?_) | wp_step)
  rw [hd]
  refine wpAny_pure ?_
  repeat (first | exact q | exact wpAny_pure q | wp_step)
/-- an int times an instance -/
theorem rmul_g {a dx g0 : Addr} {vs : List (Option V)} {i : Int} {t : Tok} (hsf : PySem.W.selfFirst X.K C = true) (hs : PySem.W.findIn X.K (.ref C) "__mul__" = some (some (.ref g0))) (hrs : PySem.W.findIn X.K (.ref C) "__rmul__" = some (some (.ref g))) (hf : PySem.W.isFn X.K (.ref g) = true)
    (hint : PySem.W.mroIn X.K C (.type "int") = some false) (F : FnG X.prog X.w X.K X.mg X.base CX k g sp) (hr : Rm k X.A) (hx : Passes CX X E) (I : Inv X pins σ H s) (ha : SlX.Slt H a C dx vs) (q : sp [.ref a, .int i] H Q E) :
    wpAny (model X.prog X.w) X.A (binaryOp .Mult (.int i t) (.ref a)) (EP X pins σ Q) X.xe s := by
  obtain ⟨sl, od, _, J, _⟩ := SlX.slt_inst I ha
  obtain ⟨cd, rest, hcd, hm⟩ := PySem.W.ksp_first hsf
  have two : wpAny (model X.prog X.w) X.A (tryMethod (.ref a) "__rmul__" (.int i t)) (fun r s' => ∃ v, r = some v ∧ EP X pins σ Q v s') X.xe s := by
    refine PySem.W.ksp_try I.kIn J hrs hf (wpAny_mono (wpAny_call (run_g (us := [.ref a, .int i t]) (vs := [.ref a, .int i]) F hr hx I (.cons rfl (.cons ⟨t, rfl⟩ .nil)) q)) (fun w s' z => ?_) fun _ _ x => x)
    obtain ⟨z', H', I', rz, qz⟩ := z
    exact SlX.cmpback rz ⟨z', H', I', rz, qz⟩
  have one : wpAny (model X.prog X.w) X.A (tryMethod (.int i t) (PySem.dunder "mul") (.ref a)) (fun r s' => r = none ∧ s' = s) X.xe s := by
    have hT := typeIs_int s i t
    have hS := PySem.F.slot_int_mul
    have hE := PySem.F.entry_int_mul
    have hA := PySem.F.args_int_mul_2 (.int i t) (.ref a)
    with_reducible refine wpAny_tryMethod_declines hT hS ?_
    with_reducible refine wpAny_call_entry hS hT hE ?_ hA
    exact int_declines J.at_ rfl ⟨_, rfl, rfl, rfl, rfl⟩
  have L2 : PySem.W.Looks (model X.prog X.w) s.heap (typeOf (.ref a)) (.ref C) := J.type
  have L4 : PySem.W.Looks (model X.prog X.w) s.heap (fillsNumberSlot (.ref C) "mul") true := PySem.W.fills_K I.kIn hcd hm hs
  have L5 : PySem.W.Looks (model X.prog X.w) s.heap (isSubtype (.ref C) (.type "int")) false := PySem.W.looks_mroIn I.kIn hint
  show wpAny _ _ (binaryOp .Mult (.int i t) (.ref a)) _ _ _
  have hi : (Operator.Mult).info = ("*", "mul") := rfl
  simp only [binaryOp, hi]
  refine wpAny_holding (wpAny_bind ?_)
  unfold binaryOp1
  refine wpAny_bind (wpAny_typeOf (typeIs_int s i t) (wpAny_bind (L2.here (wpAny_bind (wpAny_of_eq PySem.F.fills_int_mul ?_)))))
  have hne : (Value.type "int" == Value.ref C) = false := Bool.eq_false_iff.mpr fun q => by cases beq_iff_eq.mp q
  simp only [hne, Bool.false_eq_true, if_false]
  refine wpAny_bind (L4.here ?_)
  simp only [Bool.and_self, if_true]
  refine wpAny_bind (L5.here ?_)
  have hpy : numberSlotInPython (.type "int") "mul" = pure false := rfl
  simp only [Bool.false_eq_true, if_false, pure_bind, Bool.not_false, Bool.and_self, if_true, hpy]
  refine wpAny_bind (wpAny_mono one (fun r s' z => ?_) fun _ _ z => z)
  obtain ⟨rfl, rfl⟩ := z
  refine wpAny_bind (wpAny_mono two (fun r s' z => ?_) fun _ _ z => z)
  obtain ⟨v, rfl, hq⟩ := z
  exact wpAny_bind (wpAny_rule (wpAny_pure (wpAny_pure hq)))
end
section
variable {Cs : Gc} {X : Cx} {M : Mem} {Φ : D → Mem → Prop}
theorem wo_ne {n k : Nat} {g : Addr} {S : FS} {ds es : List D} (hne : PySem.W.findIn X.K (.ref (Cs n)) "__ne__" = some (some (.builtin "object.__ne__"))) (hob : PySem.W.mroIn X.K (Cs n) (.type "object") = some true)
    (hs : PySem.W.findIn X.K (.ref (Cs n)) "__eq__" = some (some (.ref g))) (hf : PySem.W.isFn X.K (.ref g) = true) (Fn : FnD Cs X k g S) (hr : Rm (k + 1) X.A)
    (h : S [.obj n ds, .obj n es] M fun d M1 => ∃ t, d = .bl t ∧ Φ (.bl (!t)) M1) : WO Cs X (compareOp .NotEq) (.obj n ds) (.obj n es) M Φ := .mk fun F H vx vy m rx ry Q k pins s σ v u I rv ru => by
  obtain ⟨q, dx, ws, rfl, hsl, _⟩ := rep_slt rx
  obtain ⟨q', dx', ws', rfl, hsl', _⟩ := rep_slt ry
  cases rv; cases ru
  refine ne_g (E := E0) hne hob hs hf Fn hr (fun _ _ _ _ z => z) I hsl hsl' ⟨F, _, M, _, m, .cons rx (.cons ry .nil), h, fun v d H' M' p m' r z => ?_⟩
  obtain ⟨t, rfl, z⟩ := z
  cases r
  exact ⟨t, rfl, k _ _ H' M' p m' (.bl _) z⟩
theorem wo_mulT {n k : Nat} {g gr : Addr} {S : FS} {ds : List D} {i : Int} (hsf : PySem.W.selfFirst X.K (Cs n) = true) (hs : PySem.W.findIn X.K (.ref (Cs n)) "__mul__" = some (some (.ref g))) (hf : PySem.W.isFn X.K (.ref g) = true) (hr' : PySem.W.findIn X.K (.ref (Cs n)) "__rmul__" = some (some (.ref gr)))
    (Fn : FnD Cs X k g S) (hr : Rm k X.A) (h : S [.obj n ds, .int i] M Φ) : WO Cs X (binaryOp .Mult) (.obj n ds) (.int i) M Φ := .mk fun F H vx vy m rx ry Q k pins s σ v u I rv ru => by
  obtain ⟨q, dx, ws, rfl, hsl, _⟩ := rep_slt rx
  cases ry
  obtain ⟨t, rfl⟩ := ru
  cases rv
  exact mulT_g (E := E0) hsf hs hf hr' Fn hr pass0 I hsl ⟨F, _, M, Φ, m, .cons rx (.cons (.int i) .nil), h, k⟩
theorem wo_rmul {n k : Nat} {g g0 : Addr} {S : FS} {ds : List D} {i : Int} (hsf : PySem.W.selfFirst X.K (Cs n) = true) (hs : PySem.W.findIn X.K (.ref (Cs n)) "__mul__" = some (some (.ref g0))) (hrs : PySem.W.findIn X.K (.ref (Cs n)) "__rmul__" = some (some (.ref g))) (hf : PySem.W.isFn X.K (.ref g) = true)
    (hint : PySem.W.mroIn X.K (Cs n) (.type "int") = some false) (Fn : FnD Cs X k g S) (hr : Rm k X.A) (h : S [.obj n ds, .int i] M Φ) : WO Cs X (binaryOp .Mult) (.int i) (.obj n ds) M Φ := .mk fun F H vx vy m rx ry Q k pins s σ v u I rv ru => by
  obtain ⟨q, dx, ws, rfl, hsl, _⟩ := rep_slt ry
  cases rx
  obtain ⟨t, rfl⟩ := rv
  cases ru
  exact rmul_g (E := E0) hsf hs hrs hf hint Fn hr pass0 I hsl ⟨F, _, M, Φ, m, .cons ry (.cons (.int i) .nil), h, k⟩
end
/-! ### ratios: equal pairs -/
theorem tup2_eqv (a b c d : D) : PyData.eqv (D.tup [a, b]).py (D.tup [c, d]).py = (PyData.eqv a.py c.py && PyData.eqv b.py d.py) := by
  simp [D.py, pys, PyData.eqv, PyData.eqvAll]
theorem rt2_shaped (p q : Rat) : SeqAt.shaped (D.tup [rt p, rt q]).py = true := by simp [rt, D.py, pys]; rfl
theorem rt2_isPy (p q : Rat) : (D.tup [rt p, rt q]).isPy = true := by simp [rt, D.isPy, arePy]
end DL
namespace DL
/-! ### sources put together: the mathematics -/
theorem divInt_one (n : Int) : Rat.divInt n 1 = (n : Rat) := Rat.num_divInt_den (n : Rat)
end DL
/-! ### gates by judgement and by form -/
namespace DL
open PySem PySem.Spec PyProof.Rows L2
section
variable {Cs : Gc} {X : Cx} {ρ : Env} {M : Mem} {Φ : D → Mem → Prop} {Ψ : Bool → Mem → Prop} {Θ : List D → Mem → Prop} {e a b : Expr} {es : List Expr} {kws : List Keyword} {p pos apos : Pos} {x : Str} {d d' : D} {st : Stmt} {sts : List Stmt} {E : DE} {f : Value → Value → Sem Value} {op : Operator} {ops : List CmpOp} {c : Const} {j : Nat} {oe : Option Expr}
theorem j_we (h : WE Cs X e ρ M Φ) : WE Cs X e ρ M Φ := h
theorem j_wa (h : WA Cs X es ρ M Θ) : WA Cs X es ρ M Θ := h
theorem j_wat (h : WAt Cs X x d M Φ) : WAt Cs X x d M Φ := h
theorem j_wo (h : WO Cs X f d d' M Φ) : WO Cs X f d d' M Φ := h
theorem j_wix (h : WIx Cs X d d' M Φ) : WIx Cs X d d' M Φ := h
theorem j_wss (h : WSs Cs X sts ρ M E) : WSs Cs X sts ρ M E := h
theorem j_ret (h : WS Cs X (.Return oe pos) ρ M E) : WS Cs X (.Return oe pos) ρ M E := h
theorem e_name (h : WE Cs X (.Name x pos) ρ M Φ) : WE Cs X (.Name x pos) ρ M Φ := h
theorem e_const (h : WE Cs X (.Constant c j pos) ρ M Φ) : WE Cs X (.Constant c j pos) ρ M Φ := h
theorem e_attr (h : WE Cs X (.Attribute e x pos) ρ M Φ) : WE Cs X (.Attribute e x pos) ρ M Φ := h
theorem e_bin (h : WE Cs X (.BinOp a op b pos) ρ M Φ) : WE Cs X (.BinOp a op b pos) ρ M Φ := h
theorem e_cmp (h : WE Cs X (.Compare a ops es pos) ρ M Φ) : WE Cs X (.Compare a ops es pos) ρ M Φ := h
theorem e_sub (h : WE Cs X (.Subscript a b pos) ρ M Φ) : WE Cs X (.Subscript a b pos) ρ M Φ := h
theorem e_call (h : WE Cs X (.Call (.Name x p) es kws pos) ρ M Φ) : WE Cs X (.Call (.Name x p) es kws pos) ρ M Φ := h
theorem e_callm (h : WE Cs X (.Call (.Attribute a x p) es kws pos) ρ M Φ) : WE Cs X (.Call (.Attribute a x p) es kws pos) ρ M Φ := h
theorem e_tup (h : WE Cs X (.Tuple es j pos) ρ M Φ) : WE Cs X (.Tuple es j pos) ρ M Φ := h
theorem t_cmp (h : WT Cs X (.Compare a ops es pos) ρ M Ψ) : WT Cs X (.Compare a ops es pos) ρ M Ψ := h
theorem at_bin (op : Operator) (h : WO Cs X (binaryOp op) d d' M Φ) : WO Cs X (binaryOp op) d d' M Φ := h
theorem at_cmp (op : CmpOp) (h : WO Cs X (compareOp op) d d' M Φ) : WO Cs X (compareOp op) d d' M Φ := h
theorem a_len {P : Prop} {n : Nat} (h : P) (hl : Nat.ble n 100000 = true) : n ≤ 100000 ∧ P := ⟨Nat.le_of_ble_eq_true hl, h⟩
theorem a_obj {c : Nat} {y : D} {P : List D → Prop} (h : ∃ ds, y = .obj c ds ∧ P ds) : ∃ ds, y = .obj c ds ∧ P ds := h
end
end DL
/-! ### how long what repr shows is -/
namespace DL
open PySem PySem.Spec PyProof.Rows L2
mutual
def _root_.DL.D.cost : D → Nat
  | .non => 4
  | .bl _ => 5
  | .int _ => 1921
  | .str x => (reprText x).length
  | .tup ds => 3 + costs ds
  | .lst ds => 3 + costs ds
  | _ => 4
def costs : List D → Nat
  | [] => 0
  | d :: ds => d.cost + 2 + costs ds
end
theorem textFrom_le : ∀ (ts : List Str) (k : Nat) (acc : Str), (textFrom k acc ts).length ≤ acc.length + piled ts
  | [], _, acc => by show acc.length ≤ acc.length + 0; omega
  | t :: r, k, acc => by
    have ih := textFrom_le r (k + 1) (acc ++ (if k > 0 then ", " else "" : String) ++ t)
    have e : (acc ++ (if k > 0 then ", " else "" : String) ++ t).length ≤ acc.length + 2 + t.length := by
      rw [strLen_append, strLen_append]
      split
      · exact Nat.le_refl _
      · show acc.length + 0 + t.length ≤ _; omega
    show (textFrom (k + 1) _ r).length ≤ _
    rw [piled_cons]; omega
theorem listText_le (ts : List Str) : (listText ts).length ≤ 2 + piled ts := by
  have h := textFrom_le ts 0 "["
  have e : (("[" : String) : Str).length = 1 := rfl
  show (textFrom 0 "[" ts ++ "]").length ≤ _
  rw [strLen_append]
  have e2 : (("]" : String) : Str).length = 1 := rfl
  omega
theorem tupleText_le (ts : List Str) : (tupleText ts).length ≤ 3 + piled ts := by
  unfold tupleText
  rw [strLen_append, strLen_append]
  have e1 : (("(" : String) : Str).length = 1 := rfl
  have e2 : (((if ts.length == 1 then ",)" else ")" : String)) : Str).length ≤ 2 := by split <;> decide
  by_cases h : ts = []
  · subst h
    have e3 : (Str.join ", " []).length = 0 := rfl
    omega
  · have := join_length_add ts h
    omega
mutual
theorem shown_le : ∀ (d : D), d.isPy = true → d.py.showable = true → d.py.shown.length ≤ d.cost
  | .non, _, _ => by simp only [D.py, PyData.shown, D.cost]; decide
  | .bl b, _, _ => by cases b <;> (simp only [D.py, PyData.shown, D.cost]; decide)
  | .int i, _, h => by
    simp only [D.py, PyData.showable, decide_eq_true_eq] at h
    simp only [D.py, PyData.shown, D.cost]
    have := int_text_length_le (k := 1920) (by decide) h
    rw [PySem.ofString_length]
    omega
  | .str x, _, _ => by simp only [D.py, PyData.shown, D.cost]; exact Nat.le_refl _
  | .tup ds, h1, h2 => by
    rw [D.isPy] at h1
    rw [D.py, PyData.showable] at h2
    rw [D.py, PyData.shown, D.cost]
    have := tupleText_le (PyData.shownAll (pys ds))
    have := showns_le ds h1 h2
    omega
  | .lst ds, h1, h2 => by
    rw [D.isPy] at h1
    rw [D.py, PyData.showable] at h2
    rw [D.py, PyData.shown, D.cost]
    have := listText_le (PyData.shownAll (pys ds))
    have := showns_le ds h1 h2
    omega
  | .ty _, h, _ => by simp [D.isPy] at h
  | .ref _, h, _ => by simp [D.isPy] at h
  | .obj _ _, h, _ => by simp [D.isPy] at h
  | .dct _ _, h, _ => by simp [D.isPy] at h
  | .exc _ _, h, _ => by simp [D.isPy] at h
  | .fn _ _ _, h, _ => by simp [D.isPy] at h
theorem showns_le : ∀ (ds : List D), arePy ds = true → PyData.showableAll (pys ds) = true → piled (PyData.shownAll (pys ds)) ≤ costs ds
  | [], _, _ => by rw [pys, PyData.shownAll, costs]; exact Nat.le_refl _
  | d :: ds, h1, h2 => by
    rw [arePy, Bool.and_eq_true] at h1
    rw [pys, PyData.showableAll, Bool.and_eq_true] at h2
    rw [pys, PyData.shownAll, costs, piled_cons]
    have := shown_le d h1.1 h2.1
    have := showns_le ds h1.2 h2.2
    omega
end
mutual
theorem noDict : ∀ (d : D), d.py.hasDict = false
  | .non => by simp [D.py, PyData.hasDict]
  | .bl _ => by simp [D.py, PyData.hasDict]
  | .int _ => by simp [D.py, PyData.hasDict]
  | .str _ => by simp [D.py, PyData.hasDict]
  | .tup ds => by rw [D.py, PyData.hasDict]; exact noDicts ds
  | .lst ds => by rw [D.py, PyData.hasDict]; exact noDicts ds
  | .ty _ => by simp [D.py, PyData.hasDict]
  | .ref _ => by simp [D.py, PyData.hasDict]
  | .obj _ _ => by simp [D.py, PyData.hasDict]
  | .dct _ _ => by simp [D.py, PyData.hasDict]
  | .exc _ _ => by simp [D.py, PyData.hasDict]
  | .fn _ _ _ => by simp [D.py, PyData.hasDict]
theorem noDicts : ∀ (ds : List D), PyData.hasDictAll (pys ds) = false
  | [] => by rw [pys, PyData.hasDictAll]
  | d :: ds => by rw [pys, PyData.hasDictAll, noDict d, noDicts ds]; rfl
end
/-- all that repr asks, told of data: n deep, c long at most -/
structure Shw (n c : Nat) (d : D) : Prop where
  py : d.isPy = true
  sh : d.py.showable = true
  dp : d.py.depth ≤ n
  co : d.cost ≤ c
theorem Shw.mono {n c n' c' : Nat} {d : D} (s : Shw n c d) (h1 : n ≤ n') (h2 : c ≤ c') : Shw n' c' d := ⟨s.py, s.sh, Nat.le_trans s.dp h1, Nat.le_trans s.co h2⟩
theorem wc_reprS {Cs : Gc} {X : Cx} {M : Mem} {Φ : D → Mem → Prop} {d : D} {k n c : Nat} (hr : Rm k X.A) (s : Shw n c d) (hn : n ≤ 60) (hc : c ≤ 16000000) (h : Φ (.str d.py.shown) M) : WC Cs X (.builtin "repr") [d] M Φ :=
  wc_repr hr s.py s.sh (noDict d) (Nat.le_trans s.dp hn) (by rw [sizeLine_eq]; have := shown_le d s.py s.sh; have := s.co; omega) h
theorem log_lt {a : Int} {B : Nat} (h : a.natAbs < 2 ^ B) (hB : B ≤ 1920) : a.natAbs.log2 < 1920 := by
  by_cases z : a.natAbs = 0
  · rw [z]; decide
  · exact (Nat.log2_lt z).mpr (Nat.lt_of_lt_of_le h (Nat.pow_le_pow_right (by decide) hB))
theorem Shw.bl (b : Bool) : Shw 0 5 (.bl b) := ⟨by simp [D.isPy], by simp [D.py, PyData.showable], by simp [D.py, PyData.depth], by simp [D.cost]⟩
theorem Shw.non : Shw 0 4 .non := ⟨by simp [D.isPy], by simp [D.py, PyData.showable], by simp [D.py, PyData.depth], by simp [D.cost]⟩
theorem Shw.int {i : Int} {B : Nat} (h : i.natAbs < 2 ^ B) (hB : B ≤ 1920) : Shw 0 1921 (.int i) := ⟨by simp [D.isPy], by simp [D.py, PyData.showable, log_lt h hB], by simp [D.py, PyData.depth], by simp [D.cost]⟩
theorem Shw.str (x : Str) : Shw 0 (reprText x).length (.str x) := ⟨by simp [D.isPy], by simp [D.py, PyData.showable], by simp [D.py, PyData.depth], by simp [D.cost]⟩
theorem shs_all {n c : Nat} : ∀ {ds : List D}, (∀ d ∈ ds, Shw n c d) → arePy ds = true ∧ PyData.showableAll (pys ds) = true ∧ PyData.depthAll (pys ds) ≤ n ∧ costs ds ≤ ds.length * (c + 2)
  | [], _ => ⟨by rw [arePy], by rw [pys, PyData.showableAll], by rw [pys, PyData.depthAll]; exact Nat.zero_le _, by rw [costs]; exact Nat.zero_le _⟩
  | d :: ds, h => by
    obtain ⟨h1, h2, h3, h4⟩ := shs_all (ds := ds) fun x hx => h x (List.mem_cons_of_mem _ hx)
    have hd := h d List.mem_cons_self
    refine ⟨by rw [arePy, hd.py, h1]; rfl, by rw [pys, PyData.showableAll, hd.sh, h2]; rfl, ?_, ?_⟩
    · rw [pys, PyData.depthAll]
      have := hd.dp
      omega
    · rw [costs, List.length_cons, Nat.succ_mul]
      have := hd.co
      omega
theorem Shw.tup {n c : Nat} {ds : List D} (h : ∀ d ∈ ds, Shw n c d) : Shw (n + 1) (3 + ds.length * (c + 2)) (.tup ds) := by
  obtain ⟨h1, h2, h3, h4⟩ := shs_all h
  exact ⟨by rw [D.isPy]; exact h1, by rw [D.py, PyData.showable]; exact h2, by rw [D.py, PyData.depth]; omega, by rw [D.cost]; omega⟩
theorem Shw.lst {n c : Nat} {ds : List D} (h : ∀ d ∈ ds, Shw n c d) : Shw (n + 1) (3 + ds.length * (c + 2)) (.lst ds) := by
  obtain ⟨h1, h2, h3, h4⟩ := shs_all h
  exact ⟨by rw [D.isPy]; exact h1, by rw [D.py, PyData.showable]; exact h2, by rw [D.py, PyData.depth]; omega, by rw [D.cost]; omega⟩
theorem Shw.tup2 {n c : Nat} {a b : D} (ha : Shw n c a) (hb : Shw n c b) : Shw (n + 1) (7 + 2 * c) (.tup [a, b]) := (Shw.tup (n := n) (c := c) (ds := [a, b]) fun d hd => by
  rcases List.mem_cons.mp hd with rfl | hd
  · exact ha
  · cases List.mem_singleton.mp hd; exact hb).mono (Nat.le_refl _) (by show 3 + 2 * (c + 2) ≤ _; omega)
theorem Shw.rt {q : Rat} (b : Bz 1900 q) : Shw 1 4000 (rt q) := (Shw.tup2 (Shw.int b.n (by decide)) (Shw.int (den_lt b) (by decide))).mono (by decide) (by decide)
end DL
/-! ### what is gone over -/
namespace DL
open PySem PySem.Spec PyProof.Rows L2
mutual
theorem Rep.far {Cs : Gc} {Z Z' : Addr → Prop} {H : Hp} (l : ∀ a, Z' a → Z a ∨ H a = none) : ∀ {v : V} {d : D}, Rep Cs Z H v d → Rep Cs Z' H v d
  | _, _, .non => .non
  | _, _, .bl b => .bl b
  | _, _, .int i => .int i
  | _, _, .str x => .str x
  | _, _, .ty n => .ty n
  | _, _, .ref a => .ref a
  | _, _, .tup hz h r => .tup (fun z => (l _ z).elim hz (fun y => rd_ne h y rfl)) h (Reps.far l r)
  | _, _, .lst hz h r => .lst (fun z => (l _ z).elim hz (fun y => rd_ne h y rfl)) h (Reps.far l r)
  | _, _, .obj hz hx h h2 r => .obj (fun z => (l _ z).elim hz (fun y => ne_of_none h y rfl)) (fun z => (l _ z).elim hx (fun y => ne_of_none h2 y rfl)) h h2 (Reps.far l r)
  | _, _, .dct hz h hl r => .dct (fun z => (l _ z).elim hz (fun y => rd_ne h y rfl)) h hl (Reps.far l r)
  | _, _, .exc hz hx h h2 r => .exc (fun z => (l _ z).elim hz (fun y => ne_of_none h y rfl)) (fun z => (l _ z).elim hx (fun y => ne_of_none h2 y rfl)) h h2 (Rep.far l r)
  | _, _, .fn hz hx h h2 => .fn (fun z => (l _ z).elim hz (fun y => ne_of_none h y rfl)) (fun z => (l _ z).elim hx (fun y => ne_of_none h2 y rfl)) h h2
theorem Reps.far {Cs : Gc} {Z Z' : Addr → Prop} {H : Hp} (l : ∀ a, Z' a → Z a ∨ H a = none) : ∀ {vs : List V} {ds : List D}, Reps Cs Z H vs ds → Reps Cs Z' H vs ds
  | _, _, .nil => .nil
  | _, _, .cons h r => .cons (Rep.far l h) (Reps.far l r)
end
def semI (X : Cx) (tg iter : Expr) : TI := fun σ H R => ∀ pins s, Inv X pins σ H s → wpAny (model X.prog X.w) X.A (eval iter X.env) (fun v s1 => wpAny (model X.prog X.w) X.A (pyIter v) (PIE X pins σ tg R) X.xe s1) X.xe s
section
variable {X : Cx} {tg iter : Expr} {σ : L2.St} {H : Hp}
theorem pi_sem : PI X tg iter (semI X tg iter) := ⟨fun pins s _ _ _ I h => h pins s I⟩
theorem _root_.L2.PI.sem {wi : TI} {R : It → Hp → Prop} (p : PI X tg iter wi) (h : wi σ H R) : semI X tg iter σ H R := fun pins s I => p.run pins s σ H R I h
end
/-- an iterator hands out the data ds, as long as U holds of what is owned -/
structure Src (Cs : Gc) (F : Addr → Prop) (M1 : Mem) (H1 : Hp) (U : Mem → Prop) (J : It) (ds : List D) : Prop where
  go : ∀ (F' : Addr → Prop) i H' M', (∀ a, F' a → F a ∨ H1 a = none) → Post M1 H1 M' H' → MemAt Cs F' M' H' → U M' → i < ds.length → J.go i H'
  yl : ∀ (F' : Addr → Prop) i v H' M' H2, (∀ a, F' a → F a ∨ H1 a = none) → Post M1 H1 M' H' → MemAt Cs F' M' H' → U M' → i < ds.length → J.yld i H' v H2 → ∃ d, ds[i]? = some d ∧ Post M' H' M' H2 ∧ MemAt Cs F' M' H2 ∧ Rep Cs (Zf F' M') H2 v d ∧ ∀ a o, H' a = some o → H2 a = some o
  st : ∀ (F' : Addr → Prop) i H' M', (∀ a, F' a → F a ∨ H1 a = none) → Post M1 H1 M' H' → MemAt Cs F' M' H' → U M' → ds.length ≤ i → J.stop i H'
structure WI (Cs : Gc) (X : Cx) (tg iter : Expr) (ρ : Env) (M : Mem) (K : (Mem → Prop) → List D → Mem → Prop) : Prop where
  run : ∀ (F : Addr → Prop) σ H, At Cs F M H σ ρ → ∀ R, (∀ J H1 M1 U ds, Post M H M1 H1 → MemAt Cs F M1 H1 → Src Cs F M1 H1 U J ds → K U ds M1 → R J H1) → semI X tg iter σ H R
section
variable {Cs : Gc} {F : Addr → Prop} {X : Cx} {ρ : Env} {M : Mem} {a b c e elt tg iter kx vx cond : Expr} {es : List Expr} {pos p apos cpos spos py : Pos} {Φ : D → Mem → Prop} {E : DE} {body : List Stmt} {x y : Str} {g : TG} {step : D → Env → (Env → Prop) → Prop} {K : (Mem → Prop) → List D → Mem → Prop}
def LoopU (Cs : Gc) (X : Cx) (tg : Expr) (body : List Stmt) (U : Mem → Prop) (ds : List D) (ρ : Env) (M : Mem) (E : DE) : Prop := ∃ I : Nat → Env → Mem → Prop, I 0 ρ M ∧ (∀ i ρ' M', i ≤ ds.length → I i ρ' M' → U M') ∧
  (∀ i d ρ' M', ds[i]? = some d → I i ρ' M' → WG Cs X tg d ρ' M' fun ρ2 M2 => WSs Cs X body ρ2 M2 { E with nx := I (i + 1), ct := I (i + 1), bk := E.nx }) ∧ ∀ ρ' M', I ds.length ρ' M' → E.nx ρ' M'
theorem ws_for (hp : PassesOwn (model X.prog X.w) X.A X.env X.xe) (hc : X.calm = true) (h : WI Cs X tg iter ρ M fun U ds M1 => LoopU Cs X tg body U ds ρ M1 E)
    (hs : ∀ x, foldedSetIterable iter X.env x = pure x := by intro _; rfl) : WS Cs X (.For tg iter body [] pos) ρ M E :=
  .mk fun F σ H A Dn k => (ps_for hp hc pi_sem pg_sem pss_sem hs).sem (h.run _ σ H A _ fun J H1 M1 U ds p1 m1 S ⟨I, h0, hu, ht, hd⟩ => by
    refine ⟨fun i m σ' H' => m = ds.length - i ∧ i ≤ ds.length ∧ ∃ ρ' M', Post M1 H1 M' H' ∧ At Cs F M' H' σ' ρ' ∧ I i ρ' M', ⟨ds.length, by simp, Nat.zero_le _, ρ, M1, .refl, A.go p1 m1, h0⟩, ?_⟩
    rintro i m σ' H' ⟨rfl, hi, ρ', M', p', A', q⟩
    have hU := hu i ρ' M' hi q
    by_cases hlt : i < ds.length
    · refine .inr ⟨S.go F i H' M' (fun _ z => .inl z) p' A'.mem hU hlt, fun σ3 H3 => ∃ ρ3 M3, Post M1 H1 M3 H3 ∧ At Cs F M3 H3 σ3 ρ3 ∧ I (i + 1) ρ3 M3, fun σ3 H3 z => ⟨ds.length - (i + 1), by omega, rfl, hlt, z⟩, fun v H2 y => ?_⟩
      obtain ⟨d, hd', p2, m2, r2, _⟩ := S.yl F i v H' M' H2 (fun _ z => .inl z) p' A'.mem hU hlt y
      exact loop_turn (k.from p1) (p'.trans p2) (A'.go p2 m2) r2 (ht i d ρ' M' hd' q)
    · have e : i = ds.length := by omega
      subst e
      exact .inl ⟨S.st F _ H' M' (fun _ z => .inl z) p' A'.mem hU (Nat.le_refl _), k.nx σ' ρ' H' M' (p1.trans p') A' (hd ρ' M' q)⟩)
/-! comprehensions -/
section
variable {scope : Scope} {vs : List Nat} {σ : L2.St} {H1 H' H2 : Hp} {M1 M' : Mem} {U : Mem → Prop} {J : It} {ds acc : List D} {ws : List V} {q : Addr} {Q : VK} {v : V} {d : D}
theorem lcu_at (A : At Cs F M1 H1 σ ρ) (hq : H1 q = none) (p' : Post M1 H1 M' H') (m' : MemAt Cs (Hid F q) M' H') (e : H' q = some (.lst ws)) : At Cs (Hid F q) M' H' (wipe σ vs) (wipeE ρ vs) := by
  have A1 := (A.hide (o := .lst ws) hq).wipe vs
  have p1 : Post M1 (upd H1 q (.lst ws)) M' H' := by
    refine ⟨fun b o hb ho => ?_, fun b hb => ?_⟩
    · by_cases z : b = q
      · subst z
        rw [upd_same] at ho
        cases ho
        exact .inl e
      · rw [upd_ne z] at ho
        exact p'.ex b o hb ho
    · by_cases z : b = q
      · subst z
        exact absurd (m'.ff b (.inr rfl)).1 hb
      · rcases p'.new b hb with y | y
        · exact .inl y
        · exact .inr (by rw [upd_ne z]; exact y)
  exact A1.go p1 m'
/-- an item has been reckoned -/
theorem lcu_add {I : Nat → List D → Mem → Prop} {i : Nat} {M4 : Mem} {H4 : Hp} {y : V} {dy : D} (g1 : Cs.gh F M1 H1) (hq : H1 q = none) (p' : Post M1 H1 M' H') (m' : MemAt Cs (Hid F q) M' H') (e : H' q = some (.lst ws)) (r : Reps Cs (Zf (Hid F q) M') H' ws acc) (hn : acc.length < 50000)
    (p4 : Post M' H' M4 H4) (m4 : MemAt Cs (Hid F q) M4 H4) (r4 : Rep Cs (Zf (Hid F q) M4) H4 y dy) (h4 : I i (acc ++ [dy]) M4) :
    H4 q = some (.lst ws) ∧ ws.length < sizeLine ∧ ∃ acc ws2 M', Post M1 H1 M' (upd H4 q (.lst (ws ++ [y]))) ∧ MemAt Cs (Hid F q) M' (upd H4 q (.lst (ws ++ [y]))) ∧ (upd H4 q (.lst (ws ++ [y]))) q = some (.lst ws2) ∧ Reps Cs (Zf (Hid F q) M') (upd H4 q (.lst (ws ++ [y]))) ws2 acc ∧ I i acc M' := by
  have e4 : H4 q = some (.lst ws) := p4.keep (m'.ff q (.inr rfl)).1 e fun _ z => nomatch z
  have zq : Zf (Hid F q) M4 q := .inl (.inr rfl)
  have pp := p'.trans p4
  have pq : Post M1 H1 M4 (upd H4 q (.lst (ws ++ [y]))) := ⟨fun b o hb ho => by rw [upd_ne (ne_of_none ho hq)]; exact pp.ex b o hb ho, pp.new⟩
  exact ⟨e4, by rw [r.length]; exact Nat.lt_of_lt_of_le hn (by decide), acc ++ [dy], ws ++ [y], M4, pq, m4.upd (.inr rfl) (Cs.up _ _ _ _ (fun _ h => .inl h) (Cs.cl _ _ _ _ _ g1 pq)), upd_same, ((r.go p4).append (.cons r4 .nil)).upd zq, h4⟩
/-- what the comprehension has come to behind i items -/
def LcS (Cs : Gc) (F : Addr → Prop) (M1 : Mem) (H1 : Hp) (q : Addr) (I : Nat → List D → Mem → Prop) (i : Nat) (H' : Hp) : Prop :=
  ∃ acc ws M', Post M1 H1 M' H' ∧ MemAt Cs (Hid F q) M' H' ∧ H' q = some (.lst ws) ∧ Reps Cs (Zf (Hid F q) M') H' ws acc ∧ I i acc M'
theorem lcs_start {I : Nat → List D → Mem → Prop} (m : MemAt Cs F M1 H1) (hq : H1 q = none) (h : I 0 [] M1) : LcS Cs F M1 H1 q I 0 (upd H1 q (.lst [])) := ⟨[], [], M1, post_new hq, m.hide hq, upd_same, .nil, h⟩
theorem lcs_end {I : Nat → List D → Mem → Prop} {n : Nat} (m : MemAt Cs F M1 H1) (hq : H1 q = none) (k : Res Cs F M1 H1 Φ Q) (h : LcS Cs F M1 H1 q I n H') (hd : ∀ acc M', I n acc M' → Φ (.lst acc) M') : Q (.ref q) H' := by
  obtain ⟨acc, ws, M', p', m', e, r, hi⟩ := h
  refine k _ _ H' M' p' (m'.show (Cs.cl _ _ _ _ _ m.gh p')) (.lst (fun z => ?_) (.inl e) (r.less fun a z => z.elim (fun y => .inl (.inl y)) .inr)) (hd acc M' hi)
  rcases z with z | z
  · exact (m.ff q z).2 hq
  · exact z (m'.ff q (.inr rfl)).1
/-- a comprehension with or without a test -/
def LcU (Cs : Gc) (X : Cx) (scope : Scope) (elt : Expr) (cnd : Option Expr) (vs : List Nat) (step : D → Env → (Env → Prop) → Prop) (U : Mem → Prop) (ds : List D) (ρ : Env) (M : Mem) (Φ : D → Mem → Prop) : Prop :=
  ds.length ≤ 40000 ∧ ∃ I : Nat → List D → Mem → Prop, I 0 [] M ∧ (∀ i acc M', i ≤ ds.length → I i acc M' → U M' ∧ acc.length ≤ i) ∧
    (∀ i d acc M', ds[i]? = some d → I i acc M' → step d (wipeE ρ vs) fun ρ2 => ∀ s0 H0 C cl fp, match cnd with
      | none => WE Cs (bX X scope s0 H0 C cl fp) elt ρ2 M' fun y M3 => I (i + 1) (acc ++ [y]) M3
      | some c => WT Cs (bX X scope s0 H0 C cl fp) c ρ2 M' fun t M2 => (t = true → ∀ s0 H0 C cl fp, WE Cs (bX X scope s0 H0 C cl fp) elt ρ2 M2 fun y M3 => I (i + 1) (acc ++ [y]) M3) ∧ (t = false → I (i + 1) acc M2)) ∧ ∀ acc M', I ds.length acc M' → Φ (.lst acc) M'
def ttOf (X : Cx) (scope : Scope) : Option Expr → TT
  | none => tYes
  | some c => semTB X scope c
theorem lcu_coreF {cnd : Option Expr} (A : At Cs F M1 H1 σ ρ) (hq : H1 q = none) (S : Src Cs F M1 H1 U J ds) (tgr : TgR Cs g vs step) (h : LcU Cs X scope elt cnd vs step U ds ρ M1 Φ) (fin : ∀ (I : Nat → List D → Mem → Prop) H', (∀ acc M', I ds.length acc M' → Φ (.lst acc) M') → LcS Cs F M1 H1 q I ds.length H' → Q (.ref q) H') :
    ∃ W : Nat → Nat → Hp → Prop, (∃ m, W 0 m (upd H1 q (.lst []))) ∧ ∀ i m H, W i m H → (J.stop i H ∧ Q (.ref q) H) ∨ (J.go i H ∧ ∃ Nx : Hp → Prop, (∀ H', Nx H' → ∃ m', m' < m ∧ W (i + 1) m' H') ∧ ∀ x H', J.yld i H x H' → g x (wipe σ vs) H' fun σ2 H2 => wipe σ2 vs = wipe σ vs ∧ ttOf X scope cnd σ2 H2 fun b H3 =>
      if b = true then semEB X scope elt σ2 H3 fun y H4 => ∃ acc, H4 q = some (.lst acc) ∧ acc.length < sizeLine ∧ Nx (upd H4 q (.lst (acc ++ [y]))) else Nx H3) := by
  obtain ⟨hl, I, h0, hu, ht, hd⟩ := h
  refine ⟨fun i m H' => m = ds.length - i ∧ i ≤ ds.length ∧ LcS Cs F M1 H1 q I i H', ⟨ds.length, by simp, Nat.zero_le _, lcs_start A.mem hq h0⟩, ?_⟩
  rintro i m H' ⟨rfl, hi, hP⟩
  obtain ⟨acc, ws, M', p', m', e, r, hI⟩ := id hP
  have hF : ∀ a, Hid F q a → F a ∨ H1 a = none := fun a z => z.elim .inl fun y => .inr (by rw [y]; exact hq)
  obtain ⟨hU, hla⟩ := hu i acc M' hi hI
  by_cases hlt : i < ds.length
  · refine .inr ⟨S.go _ i H' M' hF p' m' hU hlt, LcS Cs F M1 H1 q I (i + 1), fun H3 z => ⟨ds.length - (i + 1), by omega, rfl, hlt, z⟩, fun v H2 y => ?_⟩
    obtain ⟨d, hd', p2, m2, r2, keep⟩ := S.yl _ i v H' M' H2 hF p' m' hU hlt y
    have e2 := keep q _ e
    have A2 : At Cs (Hid F q) M' H2 (wipe σ vs) (wipeE ρ vs) := lcu_at A hq (p'.trans p2) m2 e2
    refine tgr _ _ A2 r2 (wipe_wipe σ vs) (ht i d acc M' hd' hI) fun σ2 ρ2 A3 hw hW => ⟨hw, ?_⟩
    cases cnd with
    | none =>
      simp only [ttOf, tYes, if_true]
      intro s0 H0 C cl fp
      refine (hW s0 H0 C cl fp).run _ σ2 H2 A3 _ fun y dy H4 M4 p4 m4 r4 h4 => ?_
      obtain ⟨z1, z2, z3⟩ := lcu_add (I := I) A.mem.gh hq (p'.trans p2) m2 e2 (r.go p2) (by omega) p4 m4 r4 h4
      exact ⟨ws, z1, z2, z3⟩
    | some c =>
      intro s0 H0 C cl fp
      refine (hW s0 H0 C cl fp).run _ σ2 H2 A3 _ fun t H3 M3 p3 m3 h3 => ?_
      have e3 : H3 q = some (.lst ws) := p3.keep (m2.ff q (.inr rfl)).1 e2 fun _ z => nomatch z
      cases t with
      | true =>
        rw [if_pos rfl]
        intro s0 H0 C cl fp
        refine (h3.1 rfl s0 H0 C cl fp).run _ σ2 H3 (A3.go p3 m3) _ fun y dy H4 M4 p4 m4 r4 h4 => ?_
        obtain ⟨z1, z2, z3⟩ := lcu_add (I := I) A.mem.gh hq ((p'.trans p2).trans p3) m3 e3 ((r.go p2).go p3) (by omega) p4 m4 r4 h4
        exact ⟨ws, z1, z2, z3⟩
      | false =>
        rw [if_neg Bool.false_ne_true]
        exact ⟨acc, ws, M3, (p'.trans p2).trans p3, m3, e3, (r.go p2).go p3, h3.2 rfl⟩
  · have ei : i = ds.length := by omega
    subst ei
    exact .inl ⟨S.st _ _ H' M' hF p' m' hU (Nat.le_refl _), fin I H' hd hP⟩
theorem lcu_core {cnd : Option Expr} (A : At Cs F M1 H1 σ ρ) (hq : H1 q = none) (S : Src Cs F M1 H1 U J ds) (tgr : TgR Cs g vs step) (h : LcU Cs X scope elt cnd vs step U ds ρ M1 Φ) (k : Res Cs F M1 H1 Φ Q) :
    ∃ W : Nat → Nat → Hp → Prop, (∃ m, W 0 m (upd H1 q (.lst []))) ∧ ∀ i m H, W i m H → (J.stop i H ∧ Q (.ref q) H) ∨ (J.go i H ∧ ∃ Nx : Hp → Prop, (∀ H', Nx H' → ∃ m', m' < m ∧ W (i + 1) m' H') ∧ ∀ x H', J.yld i H x H' → g x (wipe σ vs) H' fun σ2 H2 => wipe σ2 vs = wipe σ vs ∧ ttOf X scope cnd σ2 H2 fun b H3 =>
      if b = true then semEB X scope elt σ2 H3 fun y H4 => ∃ acc, H4 q = some (.lst acc) ∧ acc.length < sizeLine ∧ Nx (upd H4 q (.lst (acc ++ [y]))) else Nx H3) := lcu_coreF A hq S tgr h fun I H' hd hP => lcs_end A.mem hq k hP hd
end
/-- [elt for tg in iter] -/
theorem we_lc {scope : Scope} {own : List (Str × Nat)} (hc : X.calm = true) (hN : X.N.Nodup) (ok : BlkOk X.N X.env.scope scope own)
    (hG : ∀ (s : Shared) (H : Hp) (C : Addr) (cl : List (Str × Addr)) (fp : List Addr), PG (bX X scope s H C cl fp) tg g) (tgr : TgR Cs g (own.map (·.2)) step)
    (h : WI Cs X tg iter ρ M fun U ds M1 => LcU Cs X scope elt none (own.map (·.2)) step U ds ρ M1 Φ)
    (hs : ∀ x, foldedSetIterable iter X.env x = pure x := by intro _; rfl) : WE Cs X (.ListComp elt [⟨tg, iter, [], 0⟩] scope pos) ρ M Φ :=
  .mk fun F σ H A Q k => (pe_lc hc hN pi_sem ok hG (fun _ _ _ _ _ => pts_nil) pe_semB hs).sem (h.run _ σ H A _ fun J H1 M1 U ds p1 m1 S hL q hq => lcu_core (A.go p1 m1) hq S tgr hL (k.from p1))
/-! what may be gone over -/
theorem src_lst {H1 : Hp} {M1 : Mem} {K : PySem.W.Frag} {al : Addr} {vl : List V} {ds : List D} (hz : ¬ Zf F M1 al) (hr : Rd H1 al (.lst vl)) (rs : Reps Cs (Zf F M1) H1 vl ds) : Src Cs F M1 H1 (fun _ => True) (Itl K al) ds where
  go := fun F' i H' M' hF p m _ hi => ⟨vl, vl[i]'(by rw [rs.length]; exact hi), .inl (rd_ex p hz hr).1, by simp⟩
  yl := fun F' i v H' M' H2 hF p m _ hi y => by
    obtain ⟨e, y⟩ := y
    subst e
    have hv := y vl (.inl (rd_ex p hz hr).1)
    obtain ⟨d, hd, r⟩ := rs.getV hv
    exact ⟨d, hd, .refl, m, (r.far (Z' := Zf F' M1) fun a z => z.elim (fun y => (hF a y).elim (fun w => .inl (.inl w)) .inr) fun y => .inl (.inr y)).go p, fun _ _ z => z⟩
  st := fun F' i H' M' hF p m _ hi => ⟨vl, .inl (rd_ex p hz hr).1, by rw [rs.length]; exact hi⟩
theorem wi_lst (h : WE Cs X iter ρ M fun x M1 => ∃ ds, x = .lst ds ∧ K (fun _ => True) ds M1) : WI Cs X tg iter ρ M K :=
  .mk fun F σ H A R k => (pi_list pe_sem).sem (h.run _ σ H A _ fun v d H1 M1 p1 m1 r1 ⟨ds, e, hK⟩ => by
    subst e
    cases r1 with
    | lst hz hr rs => exact ⟨_, rfl, ⟨_, .inl hr⟩, k _ H1 M1 _ ds p1 m1 (src_lst hz hr rs) hK⟩)
theorem upTo_get {n i : Nat} (hi : i < n) : (upTo n)[i]? = some (.int (i : Int)) := by unfold upTo; rw [List.getElem?_map, List.getElem?_range hi]; rfl
theorem upTo_len (n : Nat) : (upTo n).length = n := by unfold upTo; rw [List.length_map, List.length_range]
theorem src_rng {H1 : Hp} {M1 : Mem} {n : Nat} : Src Cs F M1 H1 (fun _ => True) (Itr 0 ((n : Int).toNat)) (upTo n) where
  go := fun F' i H' M' hF p m _ hi => by
    have hi : i < n := by rw [upTo_len] at hi; exact hi
    show i < _
    omega
  yl := fun F' i v H' M' H2 hF p m _ hi y => by
    have hi : i < n := by rw [upTo_len] at hi; exact hi
    obtain ⟨rfl, rfl⟩ := y
    refine ⟨_, upTo_get hi, .refl, m, ?_, fun _ _ z => z⟩
    rw [Int.zero_add]
    exact .int _
  st := fun F' i H' M' hF p m _ hi => by
    have hi : n ≤ i := by rw [upTo_len] at hi; exact hi
    show _ ≤ i
    omega
theorem wi_range (hg : Gl X "range") (hm : X.mg "range" = none) (h : WE Cs X e ρ M fun x M1 => ∃ n : Nat, x = .int (n : Int) ∧ n ≤ 100000 ∧ K (fun _ => True) (upTo n) M1) (hst : starEach [e] X.env = [(false, eval e X.env)] := by rfl) : WI Cs X tg (.Call (.Name "range" p) [e] [] apos) ρ M K :=
  .mk fun F σ H A R k => (pi_range1 hg hm (pa_cons pe_sem pa_nil hst) hst).sem (h.run _ σ H A _ fun v d H1 M1 p1 m1 r1 ⟨n, ed, hn, hK⟩ => by
    subst ed
    cases r1
    exact ⟨(n : Int), rfl, by omega, by omega, k _ H1 M1 _ _ p1 m1 src_rng hK⟩)
/-! a new pair at each turn -/
/-! ### dicts that are gone over: locked from then on -/
def keyD : Key → D
  | .inl i => .int i
  | .inr x => .str x
end
end DL
/-! ### texts, parts of sequences, sums of sequences -/
namespace DL
open PySem PySem.Spec PyProof.Rows L2
section
variable {X : Cx}
theorem op_catR : OpR X (binaryOp .Add) (fun x y H Q => ∃ l b xs zs, x = .ref l ∧ y = .ref b ∧ Rd H l (.lst xs) ∧ Rd H b (.lst zs) ∧ xs.length + zs.length ≤ sizeLine ∧ ∀ p, H p = none → Q (.ref p) (upd H p (.lst (xs ++ zs)))) := by
  intro pins s σ H x y v u Q I rx ry h
  obtain ⟨l, b, xs, zs, rfl, rfl, hH, hB, hz, q⟩ := h
  cases rx
  cases ry
  obtain ⟨z, its, n, r, e⟩ := hH.ok I.hok
  obtain ⟨z2, its2, n2, r2, e2⟩ := hB.ok I.hok
  have l1 := r.length
  have l2 := r2.length
  refine PySem.P.add_list e e2 ?_ (by rw [List.size_toArray, List.size_toArray]; omega)
  have ea : its.toArray ++ its2.toArray = (its ++ its2).toArray := by simp
  rw [ea]
  exact ⟨.ref _, _, I.lnew (t' := s.toks) (r.append r2) (by rw [List.length_append]; omega), rfl, q _ I.fresh⟩
end
section
variable {Cs : Gc} {F : Addr → Prop} {X : Cx} {ρ : Env} {M : Mem} {a b c e o : Expr} {es : List Expr} {pos p apos : Pos} {Φ : D → Mem → Prop} {E : DE} {x y z : Str}
/-! built-ins over texts -/
theorem wix_str {i : Int} {c : Nat} (hl : x.length ≤ 100000) (hi : atI x.cps.toList i = some c) (h : Φ (.str ⟨#[c]⟩) M) : WIx Cs X (.str x) (.int i) M Φ := .mk fun F H vx vy m rx ry Q k => by
  cases rx; cases ry
  exact ix_str.sem ⟨x, i, c, rfl, rfl, sz_of hl, hi, k.here m (.str _) h⟩
theorem wo_addS (hl : x.length + y.length ≤ 100000) (h : Φ (.str (x ++ y)) M) : WO Cs X (binaryOp .Add) (.str x) (.str y) M Φ := .mk fun F H vx vy m rx ry Q k => by
  cases rx; cases ry
  exact op_add_str.sem ⟨x, y, rfl, rfl, sz_of hl, k.here m (.str _) h⟩
/-! a text in a row of texts -/
/-! methods of texts -/
/-! sums and parts of sequences -/
theorem wo_catL {ds fs : List D} (hl : ds.length + fs.length ≤ 100000) (h : Φ (.lst (ds ++ fs)) M) : WO Cs X (binaryOp .Add) (.lst ds) (.lst fs) M Φ := .mk fun F H vx vy m rx ry Q k => by
  cases rx with
  | lst hz hr rs =>
    cases ry with
    | lst hz' hr' rs' =>
      exact op_catR.sem ⟨_, _, _, _, rfl, rfl, hr, hr', by rw [rs.length, rs'.length]; exact sz_of hl, fun p hp => k _ _ _ M (post_new hp) (m.new hp) (.lst (m.notZ hp) (.inl upd_same) ((rs.append rs').go (post_new hp))) h⟩
theorem wo_catT {ds fs : List D} (hl : ds.length + fs.length ≤ 100000) (h : Φ (.tup (ds ++ fs)) M) : WO Cs X (binaryOp .Add) (.tup ds) (.tup fs) M Φ := .mk fun F H vx vy m rx ry Q k => by
  cases rx with
  | @tup a1 v1 _ hz hr rs =>
    cases ry with
    | @tup a2 v2 _ hz' hr' rs' =>
      refine op_catA.sem ⟨_, _, _, _, rfl, rfl, .inl hr, .inl hr', by rw [rs.length, rs'.length]; exact sz_of hl, fun e => ?_, fun _ e => ?_, fun _ _ p hp => k _ _ _ M (post_new hp) (m.new hp) (.tup (m.notZ hp) (.inl upd_same) ((rs.append rs').go (post_new hp))) h⟩
      · subst e
        cases rs
        exact k.here m (.tup hz' hr' rs') h
      · subst e
        cases rs'
        rw [List.append_nil] at h
        exact k.here m (.tup hz hr rs) h
theorem Reps.drop {Z : Addr → Prop} {H : Hp} : ∀ {vs : List V} {ds : List D} (n : Nat), Reps Cs Z H vs ds → Reps Cs Z H (vs.drop n) (ds.drop n)
  | _, _, 0, r => r
  | _, _, _ + 1, .nil => .nil
  | _, _, n + 1, .cons _ r => Reps.drop n r
theorem Reps.take {Z : Addr → Prop} {H : Hp} : ∀ {vs : List V} {ds : List D} (n : Nat), Reps Cs Z H vs ds → Reps Cs Z H (vs.take n) (ds.take n)
  | _, _, 0, _ => .nil
  | _, _, _ + 1, .nil => .nil
  | _, _, n + 1, .cons h r => .cons h (Reps.take n r)
/-- the bounds of a part -/
def semPO (X : Cx) (oe : Option Expr) : TO := fun σ H Q => ∀ pins s, Inv X pins σ H s → wpAny (model X.prog X.w) X.A (evalPart oe X.env) (fun u s' => ∃ o H', Inv X pins σ H' s' ∧ IsPart u o ∧ Q o H') X.xe s
structure WP (Cs : Gc) (X : Cx) (oe : Option Expr) (ρ : Env) (M : Mem) (Ψ : Option Int → Mem → Prop) : Prop where
  run : ∀ (F : Addr → Prop) σ H, At Cs F M H σ ρ → ∀ Q : Option Int → Hp → Prop, (∀ i H' M', Post M H M' H' → MemAt Cs F M' H' → Ψ i M' → Q i H') → semPO X oe σ H Q
/-! list(x), tuple(x) -/
/-! changes of an owned list -/
end
end DL
/-! ### dicts -/
namespace DL
open PySem PySem.Spec PyProof.Rows L2
def getK : List Key → List D → Key → Option D
  | k' :: ks, d :: ds, k => if k' = k then some d else getK ks ds k
  | _, _, _ => none
theorem val_rep {Cs : Gc} {Z : Addr → Prop} {H : Hp} : ∀ {ks : List Key} {vs : List V} {ds : List D}, Reps Cs Z H vs ds → ks.length = vs.length → ∀ k, (∀ d, getK ks ds k = some d → ∃ v, valV (ks.zip vs) k = some v ∧ Rep Cs Z H v d) ∧ (getK ks ds k = none → valV (ks.zip vs) k = none)
  | [], _, _, .nil, _, k => ⟨fun d h => (nomatch h), fun _ => rfl⟩
  | [], _, _, .cons _ _, h, _ => by simp at h
  | _ :: _, _, _, .nil, h, _ => by simp at h
  | k' :: ks, v :: vs, d :: ds, .cons r rs, h, k => by
    obtain ⟨h1, h2⟩ := val_rep (ks := ks) rs (by simpa using h) k
    rw [List.zip_cons_cons]
    by_cases e : k' = k
    · refine ⟨fun d' hd => ?_, fun hd => ?_⟩
      · unfold getK at hd
        rw [if_pos e] at hd
        cases hd
        exact ⟨v, valV_pos (p := (k', v)) e, r⟩
      · unfold getK at hd
        rw [if_pos e] at hd
        cases hd
    · refine ⟨fun d' hd => ?_, fun hd => ?_⟩
      · unfold getK at hd
        rw [if_neg e] at hd
        obtain ⟨v', hv, r'⟩ := h1 d' hd
        exact ⟨v', by rw [valV_neg (p := (k', v)) e]; exact hv, r'⟩
      · unfold getK at hd
        rw [if_neg e] at hd
        rw [valV_neg (p := (k', v)) e]
        exact h2 hd
theorem keyD_rel {Cs : Gc} {Z : Addr → Prop} {H : Hp} {v : V} {k : Key} (r : Rep Cs Z H v (keyD k)) : v = kV k := by
  cases k with
  | inl i => cases r; rfl
  | inr x => cases r; rfl
theorem rm_units {k : Nat} {A : Around} (r : Rm k A) : A.units + 1 < cLine := by have := r.rm.units; omega
section
variable {X : Cx}
theorem ixD (hu : X.A.units + 1 < cLine) : IxR X (fun x y H Q => ∃ a v, x = .ref a ∧ DGet H a y (some v) ∧ Q v H) := by
  intro value slice pins s σ H x y v u Q I rx ry h hs
  obtain ⟨a, w, rfl, g, q⟩ := h
  obtain rfl : v = Value.ref a := rx
  refine tail_any (ops := [.ref a, u]) (dict_typeIs I g) PySem.F.slot_dict_getitem.lookup ?_ hs
  exact d_getItem hu I g ry fun w' s3 I3 rw' => ⟨w, H, I3, rw', q⟩
/-- d == {}, d != {} -/
theorem opEqE (hu : X.A.units < cLine) : OpR X (compareOp .Eq) (fun x y H Q => ∃ a b ks, x = .ref a ∧ y = .ref b ∧ Rd H a (.dK ks) ∧ Rd H b (.dK []) ∧ Q (.bl ks.isEmpty) H) := by
  intro pins s σ H x y v u Q I rx ry h
  obtain ⟨a, b, ks, rfl, rfl, ea, eb, q⟩ := h
  obtain rfl : v = Value.ref a := rx
  obtain rfl : u = Value.ref b := ry
  obtain ⟨_, ya, va, ra, da⟩ := ea.ok I.hok
  obtain ⟨_, yb, vb, rb, db⟩ := eb.ok I.hok
  have lb : vb = [] := by cases rb; rfl
  subst lb
  have la := ra.length
  refine PySem.W.keq_eq (knd := mixKind X.prog X.w) (r := true) ya yb da db hu (fun h => ?_) (fin_bl I q ?_)
  · have : va = [] := List.length_eq_zero_iff.mp (by simpa using h)
    subst this
    exact .nil
  · cases ks <;> cases va <;> simp_all
theorem opNeE (hu : X.A.units < cLine) : OpR X (compareOp .NotEq) (fun x y H Q => ∃ a b ks, x = .ref a ∧ y = .ref b ∧ Rd H a (.dK ks) ∧ Rd H b (.dK []) ∧ Q (.bl (!ks.isEmpty)) H) := by
  intro pins s σ H x y v u Q I rx ry h
  obtain ⟨a, b, ks, rfl, rfl, ea, eb, q⟩ := h
  obtain rfl : v = Value.ref a := rx
  obtain rfl : u = Value.ref b := ry
  obtain ⟨_, ya, va, ra, da⟩ := ea.ok I.hok
  obtain ⟨_, yb, vb, rb, db⟩ := eb.ok I.hok
  have lb : vb = [] := by cases rb; rfl
  subst lb
  have la := ra.length
  refine PySem.W.keq_ne (knd := mixKind X.prog X.w) (r := true) ya yb da db hu (fun h => ?_) (fin_bl I q ?_)
  · have : va = [] := List.length_eq_zero_iff.mp (by simpa using h)
    subst this
    exact .nil
  · cases ks <;> cases va <;> simp_all
/-- xs == [], xs != [] -/
theorem opEqN (hu : X.A.units < cLine) : OpR X (compareOp .Eq) (fun x y H Q => ∃ a b xs, x = .ref a ∧ y = .ref b ∧ Rd H a (.lst xs) ∧ Rd H b (.lst []) ∧ Q (.bl xs.isEmpty) H) := by
  intro pins s σ H x y v u Q I rx ry h
  obtain ⟨a, b, xs, rfl, rfl, ea, eb, q⟩ := h
  obtain rfl : v = Value.ref a := rx
  obtain rfl : u = Value.ref b := ry
  obtain ⟨_, its, n, r, e⟩ := ea.ok I.hok
  obtain ⟨_, its2, n2, r2, e2⟩ := eb.ok I.hok
  cases r2
  have h1 : s.heap.IsList a its.toArray := ⟨_, e, rfl, n, rfl⟩
  have h2 : s.heap.IsList b #[] := ⟨_, e2, rfl, n2, rfl⟩
  cases r with
  | nil => exact PySem.SeqAt.eq_listAt (e := fun _ => true) h1 h2 rfl hu (fun j h1 _ => absurd h1 (by simp)) (fin_bl I q rfl)
  | cons _ _ => exact PySem.SeqAt.eq_list_lengthsAt h1 h2 (by simp) hu (fin_bl I q rfl)
end
section
variable {Cs : Gc} {F : Addr → Prop} {X : Cx} {ρ : Env} {M : Mem} {a b c e o i : Expr} {es : List Expr} {pos p apos : Pos} {Φ : D → Mem → Prop} {E : DE} {x y z f : Str} {k : Nat}
theorem dget_rep {H : Hp} {q : Addr} {vs : List V} {ks : List Key} {ds : List D} {key : Key} {d : D} (hr : Rd H q (.dK (ks.zip vs))) (hl : ks.length = vs.length) {Z : Addr → Prop} (rs : Reps Cs Z H vs ds) (hd : getK ks ds key = some d) : ∃ v, DGet H q (kV key) (some v) ∧ Rep Cs Z H v d := by
  obtain ⟨v, hv, r⟩ := (val_rep rs hl key).1 d hd
  exact ⟨v, .inl ⟨_, key, hr, rfl, hv.symm⟩, r⟩
theorem wix_dct {ks : List Key} {ds : List D} {key : Key} {d : D} (hr : Rm k X.A) (hd : getK ks ds key = some d) (h : Φ d M) : WIx Cs X (.dct ks ds) (keyD key) M Φ := .mk fun F H vx vy m rx ry Q k => by
  have ey := keyD_rel ry
  subst ey
  cases rx with
  | dct hz hrd hl rs =>
    obtain ⟨v, g, r⟩ := dget_rep hrd hl rs hd
    exact (ixD (rm_units hr)).sem ⟨_, v, rfl, g, k.here m r h⟩
theorem wix_dctO {q : Addr} {ks : List Key} {ds : List D} {key : Key} {d : D} (hr : Rm k X.A) (hM : M q = some (.dct ks ds)) (hd : getK ks ds key = some d) (h : Φ d M) : WIx Cs X (.ref q) (keyD key) M Φ := .mk fun F H vx vy m rx ry Q k => by
  have ey := keyD_rel ry
  subst ey
  cases rx
  obtain ⟨vs, e0, hl, rs⟩ := m.at_ q _ hM
  obtain ⟨v, g, r⟩ := dget_rep (.inl e0) hl rs hd
  exact (ixD (rm_units hr)).sem ⟨_, v, rfl, g, k.here m r h⟩
/-! {} -/
theorem we_dnew (h : Φ (.dct [] []) M) : WE Cs X (.Dict [] [] pos) ρ M Φ := .mk fun F σ H A Q k => pe_dnewK.sem fun p hp => k _ _ _ M (post_new hp) (A.mem.new hp) (.dct (vs := []) (A.mem.notZ hp) (.inl upd_same) rfl .nil) h
theorem empty_zip {ks : List Key} {vs : List V} (hl : ks.length = vs.length) : (ks.zip vs).isEmpty = ks.isEmpty := by
  cases ks <;> cases vs <;> simp_all
theorem wo_eqE {q : Addr} {ks : List Key} {ds : List D} (hr : Rm k X.A) (hM : M q = some (.dct ks ds)) (h : Φ (.bl ks.isEmpty) M) : WO Cs X (compareOp .Eq) (.ref q) (.dct [] []) M Φ := .mk fun F H vx vy m rx ry Q k => by
  cases rx
  cases ry with
  | dct hz hrd hl rs =>
    cases rs
    obtain ⟨vs, e0, hl0, rs⟩ := m.at_ q _ hM
    exact (opEqE hr.rm.units0).sem ⟨_, _, _, rfl, rfl, .inl e0, hrd, by rw [empty_zip hl0]; exact k.here m (.bl _) h⟩
theorem wo_neE {q : Addr} {ks : List Key} {ds : List D} (hr : Rm k X.A) (hM : M q = some (.dct ks ds)) (h : Φ (.bl (!ks.isEmpty)) M) : WO Cs X (compareOp .NotEq) (.ref q) (.dct [] []) M Φ := .mk fun F H vx vy m rx ry Q k => by
  cases rx
  cases ry with
  | dct hz hrd hl rs =>
    cases rs
    obtain ⟨vs, e0, hl0, rs⟩ := m.at_ q _ hM
    exact (opNeE hr.rm.units0).sem ⟨_, _, _, rfl, rfl, .inl e0, hrd, by rw [empty_zip hl0]; exact k.here m (.bl _) h⟩
theorem wo_eqNil {q : Addr} {ds : List D} (hr : Rm k X.A) (hM : M q = some (.lst ds)) (h : Φ (.bl ds.isEmpty) M) : WO Cs X (compareOp .Eq) (.ref q) (.lst []) M Φ := .mk fun F H vx vy m rx ry Q k => by
  cases rx
  cases ry with
  | lst hz hrd rs =>
    cases rs
    obtain ⟨vs, e0, rs⟩ := m.at_ q _ hM
    have e : vs.isEmpty = ds.isEmpty := by cases rs <;> rfl
    exact (opEqN hr.rm.units0).sem ⟨_, _, _, rfl, rfl, .inl e0, hrd, by rw [e]; exact k.here m (.bl _) h⟩
end
end DL
/-! ### instances that are owned -/
namespace DL
open PySem PySem.Spec PyProof.Rows L2
def getF : List Str → List D → Str → Option D
  | k' :: ks, d :: ds, k => if k' = k then some d else getF ks ds k
  | _, _, _ => none
theorem look_rep {Cs : Gc} {Z : Addr → Prop} {H : Hp} : ∀ {ks : List Str} {vs : List V} {ds : List D}, Reps Cs Z H vs ds → ks.length = vs.length → ∀ k, (∀ d, getF ks ds k = some d → ∃ v, (ks.zip vs).lookup k = some v ∧ Rep Cs Z H v d) ∧ (getF ks ds k = none → (ks.zip vs).lookup k = none)
  | [], _, _, .nil, _, k => ⟨fun d h => (nomatch h), fun _ => rfl⟩
  | [], _, _, .cons _ _, h, _ => by simp at h
  | _ :: _, _, _, .nil, h, _ => by simp at h
  | k' :: ks, v :: vs, d :: ds, .cons r rs, h, k => by
    obtain ⟨h1, h2⟩ := look_rep (ks := ks) rs (by simpa using h) k
    rw [List.zip_cons_cons]
    by_cases e : k' = k
    · refine ⟨fun d' hd => ?_, fun hd => ?_⟩
      · unfold getF at hd
        rw [if_pos e] at hd
        cases hd
        exact ⟨v, by rw [List.lookup_cons, e, beq_self_eq_true], r⟩
      · unfold getF at hd
        rw [if_pos e] at hd
        cases hd
    · have eb : (k == k') = false := beq_eq_false_iff_ne.mpr (Ne.symm e)
      refine ⟨fun d' hd => ?_, fun hd => ?_⟩
      · unfold getF at hd
        rw [if_neg e] at hd
        obtain ⟨v', hv, r'⟩ := h1 d' hd
        exact ⟨v', by rw [List.lookup_cons, eb]; exact hv, r'⟩
      · unfold getF at hd
        rw [if_neg e] at hd
        rw [List.lookup_cons, eb]
        exact h2 hd
theorem repO_get {Cs : Gc} {Z : Addr → Prop} {H : Hp} {vs : List (Option V)} {os : List (Option D)} (ro : RepO Cs Z H vs os) : ∀ {j : Nat} {d : D}, os[j]? = some (some d) → ∃ w, vs[j]? = some (some w) ∧ Rep Cs Z H w d := by
  induction ro with
  | nil => intro j d hi; simp at hi
  | none r ih =>
    intro j d hi
    cases j with
    | zero => simp at hi
    | succ j => simpa using ih (j := j) (by simpa using hi)
  | some hr r ih =>
    intro j d hi
    cases j with
    | zero => simp at hi; subst hi; exact ⟨_, rfl, hr⟩
    | succ j => simpa using ih (j := j) (by simpa using hi)
section
variable {X : Cx} {CX : CXT} {k n : Nat} {f g C : Addr} {sp : Sp} {E : XK} {m : Str} {pins : List (Addr × Obj)} {σ : L2.St} {H : Hp} {s : Shared} {Q : VK}
theorem getprop_i {b : Bool} {f : Str} {a dx p : Addr} {fs : List (Str × V)} (I : Inv X pins σ H s) (h : H a = some (.ins C dx fs)) (c : Cls X.K C) (at_ : PySem.W.findIn X.K (.ref C) f = some (some (.ref p))) (get : PySem.W.specialIn X.K (.ref p) "__get__" = some (some (.builtin "property.__get__")))
    (tk : PySem.W.takesIn X.K (.ref p) = some true) (rc : ∃ rest, PySem.W.recIn X.K p "property" = some (.ref g :: rest)) (F : FnG X.prog X.w X.K X.mg X.base CX n g sp) (hr : Rm (n + 1) X.A)
    (hx : ∀ (H : Hp) (s : Shared) (e : Value) (s' : Shared), CX X.stack H s E e s' → False) (q : sp [.ref a] H Q E) : wpAny (model X.prog X.w) X.A (getAttr (.ref a) f b) (EP X pins σ Q) X.xe s := by
  obtain ⟨mA, O, r, _, _, _⟩ := ins_get I.hok h
  obtain ⟨od, J, hl⟩ := O.look
  obtain ⟨rest, hrec⟩ := rc
  have I1 : Inv X pins σ H { s with toks := s.toks + 1 } := I.tok (s.toks + 1)
  have hic : PySem.W.isClsIn X.K C = true := by
    obtain ⟨cd, hc, _⟩ := PySem.W.any_some c.hd
    unfold PySem.W.isClsIn
    rw [hc]; rfl
  refine PySem.W.get_bind I.kIn J (PySem.W.plainGet_of (c.get f)).1 (PySem.W.findObj_data hic at_ get tk) (PySem.W.plainGet_of (c.get f)).2 (wpAny_call (PySem.W.prop_get (s := { s with toks := s.toks + 1 }) I.kIn hrec ?_))
  refine codeAny_mono (F X.A.in1 X.stack { s with toks := s.toks + 1 } H [.ref a] [.ref a] Q E hr.in1 I1.env0.in1 (.cons rfl .nil) q) fun r s' hq => ?_
  cases r with
  | error e => exact (hx _ _ _ _ hq).elim
  | ok fl =>
    cases fl with
    | ret u =>
      obtain ⟨v, H', I2, rv, q⟩ := I1.after hq
      exact wpAny_of_eq (PySem.W.handedOut_of (handed_of rv)) ⟨v, H', I2, rv, q⟩
    | next => exact False.elim hq
    | brk => exact False.elim hq
    | cont => exact False.elim hq
end
section
variable {Cs : Gc} {F : Addr → Prop} {X : Cx} {ρ : Env} {M : Mem} {a b c e o i : Expr} {es : List Expr} {pos p apos : Pos} {Φ : D → Mem → Prop} {E : DE} {x y z f m : Str} {k : Nat} {q dx : Addr} {cn : Nat} {ns : List Str} {ds : List D} {d : D}
/-- o.f, o an owned instance -/
theorem wat_ins (hc : Cls X.K (Cs cn)) (hn : NoAttr X.K (Cs cn) f) (hM : M q = some (.ins cn dx ns ds)) (hd : getF ns ds f = some d) (h : Φ d M) : WAt Cs X f (.ref q) M Φ := .mk fun F H vx m r Q k pins s σ v I rv => by
  cases r
  cases rv
  obtain ⟨_, _, vs, e1, _, hl, rs⟩ := m.at_ q _ hM
  obtain ⟨w, hw, rw'⟩ := (look_rep rs hl f).1 d hd
  exact getattr_ok I e1 hc hn hw fun u s' I' ru => ⟨w, H, I', ru, k.here m rw' h⟩
theorem wat_propI {g : Addr} {pq : Addr} {S : FS} (hc : Cls X.K (Cs cn)) (at_ : PySem.W.findIn X.K (.ref (Cs cn)) f = some (some (.ref pq))) (get : PySem.W.specialIn X.K (.ref pq) "__get__" = some (some (.builtin "property.__get__")))
    (tk : PySem.W.takesIn X.K (.ref pq) = some true) (rc : ∃ rest, PySem.W.recIn X.K pq "property" = some (.ref g :: rest)) (Fn : FnD Cs X k g S) (hr : Rm (k + 1) X.A) (hM : M q = some (.ins cn dx ns ds)) (h : S [.ref q] M Φ) : WAt Cs X f (.ref q) M Φ := .mk fun F H vx m r Q k pins s σ v I rv => by
  cases r
  cases rv
  obtain ⟨_, _, vs, e1, _, hl, rs⟩ := m.at_ q _ hM
  exact getprop_i (E := E0) I e1 hc at_ get tk rc Fn hr (fun _ _ _ _ z => z) ⟨_, _, M, Φ, m, .cons (.ref q) .nil, h, k⟩
/-- a slot of an instance that is being made -/
theorem wat_slt {ci j : Nat} {pq : Addr} {os : List (Option D)} (hc : SlX.SCls X.K (Cs ci)) (hs : SlX.Slot1 X.K (Cs ci) f pq j) (hM : M q = some (.slt ci dx os)) (hi : os[j]? = some (some d)) (h : Φ d M) : WAt Cs X f (.ref q) M Φ := .mk fun F H vx m r Q k pins s σ v I rv => by
  cases r
  cases rv
  obtain ⟨_, _, vs, hsl, ro⟩ := m.at_ q _ hM
  obtain ⟨w, hw, rw'⟩ := repO_get ro hi
  exact SlX.getslot_ok I hsl hc hs (v := w) hw fun u s' I' ru => ⟨w, H, I', ru, k.here m rw' h⟩
/-! views: the same heap, told otherwise -/
def Vw (Cs : Gc) (M M' : Mem) : Prop := ∀ (F : Addr → Prop) H, MemAt Cs F M H → MemAt Cs F M' H ∧ Post M H M' H
end
end DL
/-! ### errors: made, asked -/
namespace DL
open PySem PySem.Spec PyProof.Rows L2
/-- an error class: under ValueError, its __init__ the one at g, told of by the class at B -/
structure ErrC (K : PySem.W.Frag) (C B g : Addr) : Prop where
  oex : OexC K C
  ini : PySem.W.findIn K (.ref C) "__init__" = some (some (.ref g))
  fn : PySem.W.typeIn K (.ref g) = some (.type "function")
  val : PySem.W.findIn K (.ref C) "value" = some none
  sub : PySem.W.mroIn K C (.ref B) = some true
  sup : PySem.W.ks_superIn K C B "__init__" = some (some (.builtin "ValueError.__init__"))
  ve : PySem.W.subIn K (.ref C) (.type "ValueError") = some true
  xf : XfC K C
  ex : ExcC K C
/-- the def at g: super().__init__(value); self.value = value, within the class at B -/
structure SupI (K : PySem.W.Frag) (file : Str) (B g : Addr) : Prop where
  ex : ∃ (name qual : Str) (params : Arguments) (body : List Stmt) (scope : Scope) (dV kV doc pm : Value) (an : Option Addr) (cda : Addr) (ct : Value) (cc : Addr) (oc : Value) (od : Option Addr) (osl : Array (Option Value)),
    K.lookup g = some ⟨oc, od, .func (PySem.W.ksFn name qual params body scope dV kV doc pm an (.ref cda) ct cc), osl⟩ ∧ PySem.W.codeIn K (.ref cda) qual = true ∧
    (∃ ccl cdd vs ccs tf, K.lookup cda = some ⟨ccl, cdd, .fields vs, ccs⟩ ∧ vs[2]? = some (.str file tf)) ∧ (∃ cl cld csl, K.lookup cc = some ⟨cl, cld, .cell (some (.ref B)), csl⟩) ∧
    (∃ p0 p1 p2 p3 p4 p5 p6 p7 p8 p9, body = [.Expr (.Call (.Attribute (.Call (.Name "super" p0) [] [] p1) "__init__" p2) [.Name "value" p3] [] p4) p5, .Assign [.Attribute (.Name "self" p6) "value" p7] (.Name "value" p8) p9] ∧
      ∀ L : Addr, interactive (callEnv (PySem.W.ksFn name qual params body scope dV kV doc pm an (.ref cda) ct cc) L g) = false ∧ swapsWith (.Call (.Attribute (.Call (.Name "super" p0) [] [] p1) "__init__" p2) [.Name "value" p3] [] p4) none p5.line (callEnv (PySem.W.ksFn name qual params body scope dV kV doc pm an (.ref cda) ct cc) L g) = pure false ∧ swapsWith (.Name "value" p8) (some (.Attribute (.Name "self" p6) "value" p7)) p9.line (callEnv (PySem.W.ksFn name qual params body scope dV kV doc pm an (.ref cda) ct cc) L g) = pure false ∧
        ∃ pl : Sem Bool, eval (.Call (.Attribute (.Call (.Name "super" p0) [] [] p1) "__init__" p2) [.Name "value" p3] [] p4) (callEnv (PySem.W.ksFn name qual params body scope dV kV doc pm an (.ref cda) ct cc) L g) = (do
          let ov ← attributeBase (.Call (.Name "super" p0) [] [] p1) "__init__" (callEnv (PySem.W.ksFn name qual params body scope dV kV doc pm an (.ref cda) ct cc) L g) (eval (.Call (.Name "super" p0) [] [] p1) (callEnv (PySem.W.ksFn name qual params body scope dV kV doc pm an (.ref cda) ct cc) L g))
          standAt p2.atName
          let (f, first) ← holding [ov] (getMethod ov "__init__" pl)
          callWith p4 f first (backTo p4 (starEach [.Name "value" p3] (callEnv (PySem.W.ksFn name qual params body scope dV kV doc pm an (.ref cda) ct cc) L g))) [])) ∧
    (∃ ar, (params.posonlyargs ++ params.args).head? = some ar ∧ ar.arg = ("self" : Str)) ∧
    (∀ us : List Value, us.length = 2 → bindArgs (PySem.W.ksFn name qual params body scope dV kV doc pm an (.ref cda) ct cc) ⟨us, []⟩ = pure ([("self" : Str), "value"].zip us)) ∧
    scope.names.lookup ("super" : Str) = some .globalImplicit ∧ scope.names.lookup ("__class__" : Str) = some .free ∧ scope.names.lookup ("self" : Str) = some .local ∧ scope.names.lookup ("value" : Str) = some .local ∧
    (∀ x ∈ scope.names, x.2 ≠ .cell) ∧ scope.isCoroutine = false ∧ scope.isGenerator = false ∧ scope.kind = .function
  cl : ∃ cd, PySem.W.clsIn K B = some cd
  op : PySem.W.nsIn K cStatics "thirdparty.any" = some none
section
variable {P : Program} {w : World} {A : Around} {K : PySem.W.Frag} {h : Heap} {g : Array GenState} {d : Drawn} {t : Nat} {os : OsState} {C B gi e t0 : Addr} {v : Value} {R : Result → Shared → Prop}
theorem exc_init {mg mb : Str → Option Value} (E : ErrC K C B gi) (S : SupI K P.main.file B gi) (X : K.In h) (hg : h.Ns mainGlobals mg) (hmg : mg "super" = none) (hb : h.Ns builtinsNs mb) (hmb : ∀ x : Str, x ≠ "__name__" → mb x = bootBuiltins x) (hlim : h.NoLimit)
    (htop : (P.main.scope.names.lookup ("super" : Str)).isSome = false) (hroom : A.depth < recursionLimit) (hKe : K.lookup e = none) (he : h.get? e = some (PySem.HandSPX.excO C t0))
    (hR : ∀ h' t1 dx tk, (∀ b o, b ≠ e → h.get? b = some o → h'.get? b = some o) → h.objs.size ≤ dx → dx ≠ e → h'.get? e = some { cls := .ref C, dict := some dx, data := .fields #[.ref t1, .none, .none, .none, .bool false, .none] } →
      h'.Ns1 dx (fun y => if y = "value" then some v else none) → R (.ok (.ret .none)) ⟨h', g, d, tk, os⟩) :
    codeAny (model P w) A (.call (.ref gi) ⟨[.ref e, v], []⟩) R ⟨h, g, d, t, os⟩ := by
  obtain ⟨name, qual, params, body, scope, dV, kV, doc, pm, an, cda, ct, cc, oc, od, osl, lk, hcd, ⟨ccl, cdd, vs, ccs, tf, lc, hvs⟩, ⟨cl, cld, csl, lcc⟩, ⟨p0, p1, p2, p3, p4, p5, p6, p7, p8, p9, rfl, hfm⟩, ⟨ar, har, hself⟩, hbind, ks, kc, kself, kval, hcell, hco, hgen, hk⟩ := S.ex
  obtain ⟨cdB, hB⟩ := S.cl
  obtain ⟨nm, q, N, bs, bm, sn, sub, ab, col, dd, k0, k1, k2, k3, k5, hC, hbm⟩ := E.oex.cls
  have hcl : PySem.W.clsIn K C = some { name := nm, bases := bs, mro := .ref C :: bm, ns := N, qualname := q, hasDict := true, slotNames := sn, subclasses := sub, abstract := ab, collection := col, hasDel := false } := by
    unfold PySem.W.clsIn
    rw [hC] <;> rfl
  refine ks_codeAny_call_defAt (binds := [("self", .ref e), ("value", v)]) hroom (X _ _ lk) rfl hlim (PySem.W.codeRec_of X hcd) rfl (.of_eq (hbind _ rfl)) hcell (fun x hx => ?_) (fun h₁ hns hk₁ => ?_) hco hgen hk
  · simp only [List.mem_cons, List.not_mem_nil, or_false] at hx
    rcases hx with rfl | rfl
    · exact kself
    · exact kval
  generalize hL : h.objs.size = L at hns hk₁
  have X1 : K.In h₁ := X.keeps hk₁
  have he1 := hk₁ _ _ he
  have I1 : PySem.W.InstAt h₁ e (PySem.HandSPX.excO C t0) C none := ⟨he1, rfl, rfl, trivial⟩
  obtain ⟨oB, hB1, hB2⟩ : ∃ oB, h₁.get? B = some oB ∧ oB.data = .cls cdB := by
    unfold PySem.W.clsIn at hB
    split at hB
    · rename_i c d' cd' sl ho
      cases hB
      exact ⟨_, X1 _ _ ho, rfl⟩
    · cases hB
  have hz : h₁.Ns L (fun y => [(("self" : Str), Value.ref e), ("value", v)].reverse.lookup y) := hns
  obtain ⟨f1, f2, f3, pl, f4⟩ := hfm L
  refine ks_wpAt_execs_cons (ks_wpAt_Expr_any (ks_wpAt_MethodCall (pl := pl) ?_ f4) f1 f2)
  refine ks_wpAt_super_base ks kc (by decide) rfl (X1 _ _ lk) rfl har rfl (X1 _ _ lc) rfl hvs (beq_self_eq_true _) htop ?_
  refine PySem.W.ks_loadName_global hk ks (PySem.Calls.loadGlobal_builtin (hg.keeps hk₁) hmg (hb.keeps hk₁) ((hmb _ (by decide +kernel)).trans (by decide +kernel)) ⟨rfl, ?_⟩)
  refine wpAny_loadName_free hk kc rfl ⟨_, X1 _ _ lcc, rfl⟩ ?_
  rw [hself]
  refine wpAny_loadName_local hk kself hz (show _ = some (Value.ref e) from rfl) ?_
  refine ks_wpAny_isType_cls hB1 hB2 ⟨rfl, ?_⟩
  refine ks_wpAny_call_super hB1 hB2 he1 rfl (fun c z => nomatch z) (PySem.W.looks_mroIn X1 E.sub) fun h2 e2 kk2 => ?_
  generalize hS : h₁.objs.size = so at e2
  have X2 : K.In h2 := X1.keeps kk2
  have he2 := kk2 _ _ he1
  have I2 : PySem.W.InstAt h2 e (PySem.HandSPX.excO C t0) C none := ⟨he2, rfl, rfl, trivial⟩
  have hal := E.sup
  unfold PySem.W.ks_superIn at hal
  rw [hcl, Option.bind_some] at hal
  refine PySem.W.kxs_getMethod PySem.W.kxs_ValueError (x := e) (C := C) e2 (PySem.W.looks_opaque X2 S.op) ((PySem.W.looks_clsIn X2 hcl).andThen .now) rfl X2 hal (I2.type.andThen (PySem.W.looks_subIn X2 E.ve)) (PySem.W.ks_ne X2 I2 hcl) (by decide) ?_
  generalize hU : h2.objs.size = u
  have hu : (h2.push (PySem.W.kxs_mw "ValueError.__init__" e)).get? u = some (PySem.W.kxs_mw "ValueError.__init__" e) := by rw [← hU]; exact Heap.get?_push_at rfl rfl
  have kk3 : ∀ b o, h2.get? b = some o → (h2.push (PySem.W.kxs_mw "ValueError.__init__" e)).get? b = some o := fun b o z => Heap.get?_push_of_some _ z
  generalize (h2.push (PySem.W.kxs_mw "ValueError.__init__" e)) = h3 at hu kk3
  have he3 := kk3 _ _ he2
  have X3 : K.In h3 := X2.keeps kk3
  have hz3 : h3.Ns L (fun y => [(("self" : Str), Value.ref e), ("value", v)].reverse.lookup y) := (hz.keeps kk2).keeps kk3
  have argI : ∀ (bd : List Stmt) (u : Addr) (Q : Args → Shared → Prop) (E' : Value → Shared → Prop) (s' : Shared) (A' : Around), s'.heap.Ns L (fun y => [(("self" : Str), Value.ref e), ("value", v)].reverse.lookup y) → Q ⟨[v], []⟩ s' →
      wpAny (model P w) A' (evalArgs (.ref u) true (backTo p4 (starEach [Expr.Name "value" p3] (callEnv (PySem.W.ksFn name qual params bd scope dV kV doc pm an (.ref cda) ct cc) L gi))) []) Q E' s' := fun bd u Q E' s' A' hn hq => by
    refine PySem.Calls.evalArgs_plain (PySem.Calls.spliced_cons ?_)
    show wpAny _ _ (eval (.Name "value" p3) _) _ _ _
    exact wpAny_Name (wpAny_loadName_local hk kval hn (show _ = some v from rfl) (PySem.Calls.spliced_nil hq))
  refine PySem.W.kxs_callWith (i := "ValueError.__init__") (x := e) rfl (argI _ u _ _ _ _ hz3 ⟨hu, ?_⟩)
  show wpAny _ _ (call (.ref u) [v]) _ _ _
  have C3 := X3 _ _ hC
  refine wpAny_call (codeAny_of_tree ?_)
  show wpAny _ _ (callAny (.ref u) ⟨[v], []⟩) _ _ _
  unfold callAny
  refine wpAny_bind (wpAny_load hu ?_)
  dsimp only [PySem.W.kxs_mw]
  refine PySem.W.KFB.if_so (by decide) ?_
  refine wpAny_bind (PySem.W.check_bound_init F.excBase_ValueError.toExcCallFacts C3 he3 rfl (wpAny_bind (wpAny_pure (wpAny_pure ?_))))
  refine ⟨plainId_quiet F.excBase_ValueError.init.plain _, codeAny_builtin F.excBase_ValueError.initEntry ?_⟩
  refine PySem.W.exc_init_tree (cls := .ref C) (t0 := t0) (dv := none) (c2 := .none) (c3 := .none) (b4 := .bool false) he3 (by show 1 ≤ sizeLine; rw [sizeLine_eq]; omega) fun h4 kk4 he4 _ => ?_
  have hLe : L ≠ e := fun z => by
    have q := Heap.lt_size he
    rw [← z, ← hL] at q
    exact absurd q (Nat.lt_irrefl _)
  have kE : ∀ b o, b ≠ e → h.get? b = some o → h4.get? b = some o := fun b o hb z => kk4 b o hb (kk3 _ _ (kk2 _ _ (hk₁ _ _ z)))
  have X4 : K.In h4 := fun b o z => by
    by_cases hb : b = e
    · rw [hb, hKe] at z; cases z
    · exact kE b o hb (X _ _ z)
  obtain ⟨oL, es, ep, hoL, rL⟩ := hz3
  have hz4 : h4.Ns L (fun y => [(("self" : Str), Value.ref e), ("value", v)].reverse.lookup y) := ⟨oL, es, ep, kk4 _ _ hLe hoL, rL⟩
  show PySem.wpAt _ _ _ (execs [_] _) _ _ _
  refine ks_wpAt_execs_cons (ks_wpAt_Assign_Attr (PySem.wpAt_of_wpAny (wpAny_Name (wpAny_loadName_local hk kval hz4 (show _ = some v from rfl) (wpAny_Name (wpAny_loadName_local hk kself hz4 (show _ = some (Value.ref e) from rfl) ?_))))) f3)
  refine PySem.W.set_plain X4 (ox := PySem.HandSPX.excO C h3.objs.size) (od := none) ⟨he4, rfl, rfl, trivial⟩ E.oex.sa ?_
  refine PySem.HandSPX.exc_osa X4 he4 hcl (show PySem.HandSPX.refsVE (.ref C :: bm) = true from hbm) rfl E.val fun h5 tk dx kk5 dn dne hx hn => ?_
  refine PySem.wpAt_of_wpAny (wpAny_pure ?_)
  refine hR h5 _ dx tk (fun b o hb z => kk5 b o hb (kE b o hb z)) ?_ dne hx hn
  have q := Heap.lt_size (kk4 _ _ hLe hoL)
  rw [hL]
  exact Nat.le_trans (Nat.le_of_lt q) dn
end
end DL
namespace DL
open PySem PySem.Spec PyProof.Rows L2
/-! isinstance, fields -/
section
variable {P : Program} {w : World} {A : Around} {E' : Value → Shared → Prop} {s : Shared} {K : PySem.W.Frag} {x C : Addr} {ox od : Obj}
theorem exd_class {Q : Option Value → Shared → Prop} (T : ExcC K C) (X : K.In s.heap) (I : PySem.W.InstAt s.heap x ox C (some od)) (h : Q (some (.ref C)) { s with toks := s.toks + 1 }) : wpAny (model P w) A (getAttr? (.ref x) "__class__") Q E' s := by
  have hc : (PySem.W.clsIn K C).isSome = true := by
    obtain ⟨cd, hc, _⟩ := PySem.W.any_some T.hd
    rw [hc]; rfl
  have hf := PySem.W.findObj_data (od := od) hc T.ha T.hn T.ht
  obtain ⟨hp, g, d, t, os⟩ := s
  have Lt := I.type (M := model P w)
  have La := PySem.W.looks_findIn (M := model P w) X T.hg
  have Lb := PySem.W.looks_findIn (M := model P w) X T.hk
  have Lc := PySem.W.looks_find (M := model P w) X I hf
  have ex : PySem.W.Looks (model P w) hp (isInstance (.ref x) (.type "BaseException")) true := Lt.andThen (PySem.W.looks_subIn X T.hs)
  have z2 : (Value.builtin "BaseException.__getattribute__" == Value.builtin "object.__getattribute__") = false := by decide +kernel
  have z1 : (onTheHeap (Value.ref C) && Value.builtin "BaseException.__getattribute__" == Value.builtin "object.__getattribute__") = false := by rw [z2]; rfl
  unfold getAttr? getAttrBy? getAttrBy
  refine wpAny_bind (wpAny_mkText (wpAny_bind (wpAny_attempt (wpAny_holding (wpAny_bind (Lt.at (wpAny_bind (La.at ?_))))))))
  show wpAny _ _ (if (onTheHeap (Value.ref C) && Value.builtin "BaseException.__getattribute__" == Value.builtin "object.__getattribute__") = true then _ else _) _ _ _
  rw [z1, if_neg Bool.false_ne_true]
  unfold getAttrByItsOwn hookBefore
  refine wpAny_bind ?_
  rw [if_pos (show onTheHeap (Value.ref C) = true from rfl)]
  refine Lb.at (wpAny_bind (wpAny_attempt (wpAny_holding ?_)))
  unfold callGetattribute
  rw [if_neg (show ¬ ((false && onTheHeap (Value.builtin "BaseException.__getattribute__")) = true) from Bool.false_ne_true)]
  unfold boundAndCalled
  rw [PySem.F.excAttr_ValueError.ga.bind (.ref x)]
  refine wpAny_bind (wpAny_pure ?_)
  show wpAny _ _ (call (.builtin "BaseException.__getattribute__") [.ref x, .str "__class__" t]) _ _ _
  refine wpAny_call (codeAny_call_builtin PySem.F.excAttr_ValueError.ga.plain PySem.F.entry_bexc_ga ?_)
  refine @PySem.W.check_slot (model P w) _ _ ⟨hp, g, d, t + 1, os⟩ "BaseException.__getattribute__" "BaseException" "__getattribute__" (.ref x) [.str "__class__" t] [] _ (by decide +kernel) (by decide +kernel) ex (PySem.F.args_bexc_ga (.ref x) (.str "__class__" t)) ?_
  unfold Builtin.«object.__getattribute__»
  refine wpAny_bind (wpAny_of_eq (a := ((Value.ref x : Value), [Value.str "__class__" t])) (by first | rfl | (simp only [slotArgs]; rfl)) (wpAny_bind (wpAny_pure (wpAny_bind (Lt.at (wpAny_bind (Lc.at ?_)))))))
  show wpAny _ _ (holding [Value.builtin "object.__class__"] (call (.builtin "getset_descriptor.__get__") [.builtin "object.__class__", .ref x, .ref C]) >>= ret) _ _ _
  refine wpAny_bind (wpAny_holding (wpAny_call (PySem.W.class_get (s := ⟨hp, g, d, t + 1, os⟩) (ox := ox) (od := some od) X I T.hm (wpAny_pure ?_))))
  show wpAny _ _ (handedOut (.ref C)) _ _ _
  rw [PySem.W.handedOut_of (v := .ref C) rfl]
  first
    | exact wpAny_pure (wpAny_pure h)
    | exact wpAny_pure h
    | exact wpAny_pure (wpAny_bind (wpAny_pure (wpAny_pure h)))
/-- what isinstance asks of an error that has its dict -/
theorem kitx_exd (T : ExcC K C) : PySem.W.KitX K (.ref x) (.ref C) (fun h => ∃ ox od, PySem.W.InstAt h x ox C (some od)) where
  ty := fun _ _ _ ⟨_, _, I⟩ => I.type
  it := fun M h X q => by
    obtain ⟨ox, od, I⟩ := q
    obtain ⟨dd, hd, _⟩ := PySem.W.any_some T.hd
    unfold PySem.W.clsIn at hd
    split at hd
    · rename_i c1 c2 c3 c4 lo
      intro A' Q' E' s' kp hq
      unfold isType loadHead
      exact wpAny_bind (wpAny_loadPart (kp _ _ (X _ _ lo)) (wpAny_pure hq))
    · cases hd
  ne := fun h tp dd its n sl X htp => by
    obtain ⟨cd, hd, _⟩ := PySem.W.any_some T.hd
    refine Bool.eq_false_iff.mpr fun q => ?_
    obtain rfl : C = tp := Value.ref.inj (beq_iff_eq.mp q)
    unfold PySem.W.clsIn at hd
    split at hd
    · rename_i c1 c2 c3 c4 lo
      cases (X _ _ lo).symm.trans htp
    · cases hd
  ca := fun X I q => by
    obtain ⟨ox, od, I⟩ := I
    exact exd_class T X I q
end
section
variable {Cs : Gc} {F : Addr → Prop} {X : Cx} {ρ : Env} {M : Mem} {a b c e : Expr} {es : List Expr} {pos p apos : Pos} {Φ : D → Mem → Prop} {E : DE} {x y z f m : Str} {k n : Nat} {d : D} {C B gi : Addr}
theorem exv_at {P : Program} {w : World} {H : Hp} {h : Heap} {C dx a : Addr} {fs : List (Str × V)} (ok : HOk P w H h) (ha : H a = some (ExV C dx a)) (hd : H dx = some (.xd fs)) : ∃ ox od mA, PySem.W.InstAt h a ox C (some od) ∧ h.get? dx = some od ∧ h.Ns1 dx mA ∧ (∀ f, RelO (fs.lookup f) (mA f)) ∧ ∀ f, PySem.W.lookIn f od = some (mA f) := by
  obtain ⟨⟨oe, vs, e1, e2, e3⟩, _, _⟩ := show ObjOk P w H h a (.ext fun h => ∃ (oe : Obj) (vs : Array Value), h.get? a = some oe ∧ Zc (.ref C) (some dx) oe ∧ oe.data = .fields vs) from ok a _ ha
  obtain ⟨mA, hns, r⟩ := show ObjOk P w H h dx (.xd fs) from ok dx _ hd
  obtain ⟨od, ho, hl⟩ := lookIn_ns hns
  exact ⟨oe, od, mA, ⟨e1, e2.1, by unfold PySem.W.notCls; rw [e3] <;> rfl, by rw [e2.2]; exact ho⟩, ho, hns, r, hl⟩
/-- isinstance(x, T), x an error -/
theorem wc_isiE {y : D} {u : Value} {t : Bool} (hy : (∃ n, y = .ty n ∧ u = .type n) ∨ (∃ C, y = .ref C ∧ u = .ref C)) (T : ExcC X.K (Cs n)) (hk : PySem.W.kitOne X.K (.ref (Cs n)) u = some t) (h : Φ (.bl t) M) : WC Cs X (.builtin "isinstance") [.exc n d, y] M Φ := .mk fun F H vs m rs Q k pins s σ us I r => by
  obtain ⟨v, v', rfl, r1, r2⟩ := reps2 rs
  cases r1 with
  | exc hz hx ha hd rv =>
    cases r with
    | cons q1 r =>
      cases r with
      | @cons _ b2 _ _ q2 r =>
        cases r
        cases q1
        obtain ⟨ox, od, mA, J, _⟩ := exv_at I.hok ha hd
        have eu : b2 = u := by
          rcases hy with ⟨n, rfl, rfl⟩ | ⟨C, rfl, rfl⟩
          · cases r2; exact q2
          · cases r2; exact q2
        subst eu
        exact PySem.W.kia_one (kitx_exd T) I.kIn ⟨ox, od, J⟩ hk (fun z => nomatch z) fun tk => ⟨.bl t, H, I.kept (t' := tk) fun _ _ z => z, rfl, k.here m (.bl _) h⟩
/-- e.value, e an error -/
theorem wat_exc (E : ErrC X.K (Cs n) B gi) (h : Φ d M) : WAt Cs X "value" (.exc n d) M Φ := .mk fun F H vx m r Q k pins s σ v I rv => by
  cases r with
  | exc hz hx ha hd rd =>
    cases rv
    obtain ⟨ox, od, mA, J, _, _, hr, hl⟩ := exv_at I.hok ha hd
    obtain ⟨u, hu, ru⟩ := RelO.some_of (o := mA "value") (hr "value")
    exact HandSPX.exc_get I.kIn J E.xf.ga E.xf.gg E.xf.exC (PySem.W.findObj_own E.xf.hdC E.val rfl (by rw [hl, hu])) (handed_of ru) ⟨_, H, I.tok _, ru, k.here m rd h⟩
end
end DL
/-! ### further facts of the top: errors, classes with dicts -/
namespace DL
open PySem PySem.Spec PyProof.Rows L2
def oexB (K : PySem.W.Frag) (C : Addr) : Bool := match K.lookup C with
  | some ⟨.type t, _, .cls cd, sl⟩ => decide (t = "type") && (match cd.mro, sl.toList with
    | .ref C' :: bm, [_, _, _, _, some (.builtin n), _] => decide (C' = C) && (decide (n = "ValueError.__new__") && (!cd.hasDel && (cd.hasDict && PySem.HandSPX.refsVE bm)))
    | _, _ => false)
  | _ => false
theorem oexB_ok {K : PySem.W.Frag} {C : Addr} (h : oexB K C = true) : ∃ nm q N bs bm sn sub ab col dd k0 k1 k2 k3 k5, K.lookup C = some (excClassObj nm q C N bs bm true sn sub ab col dd k0 k1 k2 k3 k5 "ValueError.__new__") ∧ PySem.HandSPX.refsVE bm = true := by
  unfold oexB at h
  split at h
  · rename_i t dd cd sl lk
    obtain ⟨h1, h⟩ := He.ba h
    split at h
    · rename_i C' bm k0 k1 k2 k3 n k5 hm hs
      obtain ⟨h2, h⟩ := He.ba h
      obtain ⟨h3, h⟩ := He.ba h
      obtain ⟨h4, h⟩ := He.ba h
      obtain ⟨h5, h6⟩ := He.ba h
      obtain ⟨nm, bs, mro, ns, qn, hd, sn, sub, ab, col, del⟩ := cd
      dsimp only at hm h4 h5
      have z1 := of_decide_eq_true h1
      have z2 := of_decide_eq_true h2
      have z3 := of_decide_eq_true h3
      have z4 : del = false := by simpa using h4
      subst z1 z2 z3 z4 hm h5
      have e : sl = #[k0, k1, k2, k3, some (.builtin "ValueError.__new__"), k5] := by
        obtain ⟨l⟩ := sl
        simp only at hs
        rw [hs]
      subst e
      exact ⟨nm, qn, ns, bs, bm, sn, sub, ab, col, dd, k0, k1, k2, k3, k5, lk, h6⟩
    · cases h
  · cases h
inductive Fx where
  | err (x b : Str) | cls (x : Str) | noA (x f : Str) | sup (b q file : Str) | errs (xs : List Str) (b : Str) | kits (xs : List Str) (b : Str) | sysm | fnI (x m : Str) | notT (x : Str) (t : String) | glo (x : Str)
def supB (K : PySem.W.Frag) (B g : Addr) (qual file : Str) : Bool := match K.lookup g with
  | some ⟨_, _, .func fd, _⟩ => (match fd.code, fd.closure, fd.defaults with
    | .ref cda, [(n, cc)], .none => PySem.W.codeIn K (.ref cda) qual && (decide (n = "__class__") && ((match K.lookup cda with
        | some ⟨_, _, .fields vs, _⟩ => (match (vs[2]? : Option Value) with | some (.str f _) => decide (f = file) | _ => false)
        | _ => false) && (match K.lookup cc with
        | some ⟨_, _, .cell (some (.ref b)), _⟩ => decide (b = B)
        | _ => false)))
    | _, _, _ => false)
  | _ => false
def errB (K : PySem.W.Frag) (x b : Str) : Bool := oexB K (He.ga K x) && (He.eqO (PySem.W.findIn K (.ref (He.ga K x)) "__setattr__") (some (some (.builtin "object.__setattr__"))) && (decide (PySem.W.subIn K (.ref (He.ga K x)) (.type "BaseException") = some true) &&
      (decide (PySem.W.typeIn K (.ref (He.ga K x)) = some (.type "type")) && (PySem.W.keepIn K (.ref (He.ga K x)) && (He.eqO (PySem.W.findIn K (.ref (He.ga K x)) "__init__") (some (some (.ref (He.ma K (He.ga K b) "__init__")))) &&
      (decide (PySem.W.typeIn K (.ref (He.ma K (He.ga K b) "__init__")) = some (.type "function")) && (He.eqO (PySem.W.findIn K (.ref (He.ga K x)) "value") (some none) && (decide (PySem.W.mroIn K (He.ga K x) (.ref (He.ga K b)) = some true) &&
      (He.eqO (PySem.W.ks_superIn K (He.ga K x) (He.ga K b) "__init__") (some (some (.builtin "ValueError.__init__"))) && (decide (PySem.W.subIn K (.ref (He.ga K x)) (.type "ValueError") = some true) && (xfB K (He.ga K x) &&
      (He.eqO (PySem.W.findIn K (.ref (He.ga K x)) "__class__") (some (some (.builtin "object.__class__"))) && (He.eqO (PySem.W.specialIn K (.builtin "object.__class__") "__get__") (some (some (.builtin "getset_descriptor.__get__"))) &&
      (decide (PySem.W.takesIn K (.builtin "object.__class__") = some true) && decide (PySem.W.mroIn K (He.ga K x) (.type "object") = some true)))))))))))))))
def kitsB (K : PySem.W.Frag) (xs : List Str) (b : Str) : Bool := xs.all fun x => decide (PySem.W.kitOne K (.ref (He.ga K x)) (.type "ValueError") = some true) && xs.all fun y => decide (PySem.W.kitOne K (.ref (He.ga K x)) (.ref (He.ga K y)) = some (decide (x = y) || decide (y = b)))
def sysB (K : PySem.W.Frag) : Bool := match K.lookup sysModules with
  | some o => (match o.cls with | .type n => decide (n = "dict") | _ => false)
  | none => false
def Fx.ok (K : PySem.W.Frag) : Fx → Bool
  | .err x b => errB K x b
  | .errs xs b => xs.all fun x => errB K x b
  | .kits xs b => kitsB K xs b
  | .sysm => sysB K
  | .glo x => He.eqO (PySem.W.nsIn K mainGlobals x) (some (some (.ref (He.ga K x))))
  | .fnI x m => PySem.W.fnIn K (He.ma K (He.ga K x) m)
  | .notT x t => PySem.W.notFirst K (He.ga K x) (.type t)
  | .cls x => PySem.W.plainGet K (He.ga K x) Str.empty && (PySem.W.hasDictIn K (He.ga K x) && (PySem.W.plainOver K (He.ga K x) && He.eqO (PySem.W.findIn K (.ref (He.ga K x)) "__setattr__") (some (some (.builtin "object.__setattr__")))))
  | .noA x f => He.eqO (PySem.W.findIn K (.ref (He.ga K x)) f) (some none)
  | .sup b q file => supB K (He.ga K b) (He.ma K (He.ga K b) "__init__") q file && ((PySem.W.clsIn K (He.ga K b)).isSome && He.eqO (PySem.W.nsIn K cStatics "thirdparty.any") (some none))
section
variable {K : PySem.W.Frag} {x b f q file : Str}
theorem errB_ok (c : errB K x b = true) : ErrC K (He.ga K x) (He.ga K b) (He.ma K (He.ga K b) "__init__") := by
  obtain ⟨h1, c⟩ := He.ba c
  obtain ⟨h2, c⟩ := He.ba c
  obtain ⟨h3, c⟩ := He.ba c
  obtain ⟨h4, c⟩ := He.ba c
  obtain ⟨h5, c⟩ := He.ba c
  obtain ⟨h6, c⟩ := He.ba c
  obtain ⟨h7, c⟩ := He.ba c
  obtain ⟨h8, c⟩ := He.ba c
  obtain ⟨h9, c⟩ := He.ba c
  obtain ⟨h10, c⟩ := He.ba c
  obtain ⟨h11, c⟩ := He.ba c
  obtain ⟨h12, c⟩ := He.ba c
  obtain ⟨h13, c⟩ := He.ba c
  obtain ⟨h14, c⟩ := He.ba c
  obtain ⟨h15, h16⟩ := He.ba c
  have xf := xfB_ok h12
  exact ⟨⟨oexB_ok h1, He.eqO_ok h2, of_decide_eq_true h3, of_decide_eq_true h4, h5⟩, He.eqO_ok h6, of_decide_eq_true h7, He.eqO_ok h8, of_decide_eq_true h9, He.eqO_ok h10, of_decide_eq_true h11, xf,
    ⟨xf.ga, xf.gg, xf.exC, xf.hdC, He.eqO_ok h13, He.eqO_ok h14, of_decide_eq_true h15, of_decide_eq_true h16⟩⟩
end
theorem Fx.errs_ok {K : PySem.W.Frag} {b : Str} {xs : List Str} (c : (Fx.errs xs b).ok K = true) (x : Str) (hx : x ∈ xs) : ErrC K (He.ga K x) (He.ga K b) (He.ma K (He.ga K b) "__init__") := errB_ok (List.all_eq_true.mp c x hx)
theorem Fx.kits_ok {K : PySem.W.Frag} {b : Str} {xs : List Str} (c : (Fx.kits xs b).ok K = true) (x : Str) (hx : x ∈ xs) : PySem.W.kitOne K (.ref (He.ga K x)) (.type "ValueError") = some true ∧ ∀ y ∈ xs, PySem.W.kitOne K (.ref (He.ga K x)) (.ref (He.ga K y)) = some (decide (x = y) || decide (y = b)) := by
  obtain ⟨h1, h2⟩ := He.ba (List.all_eq_true.mp c x hx)
  exact ⟨of_decide_eq_true h1, fun y hy => of_decide_eq_true (List.all_eq_true.mp h2 y hy)⟩
theorem Fx.sysm_ok {K : PySem.W.Frag} (c : Fx.sysm.ok K = true) : ∃ o, K.lookup sysModules = some o ∧ o.cls = .type "dict" := by
  have c' : sysB K = true := c
  unfold sysB at c'
  split at c'
  · rename_i o lk
    split at c'
    · rename_i n e
      have z := of_decide_eq_true c'
      subst z
      exact ⟨o, lk, e⟩
    · cases c'
  · cases c'
/-- the def at a, what it closes over left out -/
def fnE (K : PySem.W.Frag) (a : Addr) : He5.FnW := (He5.fnA K a).map fun (n, q, p, b, s, g, _, bn) => (n, q, p, b, s, g, [], bn)
/-- what the text of such an __init__ must say -/
structure InitS (qual : Str) (params : Arguments) (body : List Stmt) (scope : Scope) : Prop where
  tx : ∃ p0 p1 p2 p3 p4 p5 p6 p7 p8 p9, body = [.Expr (.Call (.Attribute (.Call (.Name "super" p0) [] [] p1) "__init__" p2) [.Name "value" p3] [] p4) p5, .Assign [.Attribute (.Name "self" p6) "value" p7] (.Name "value" p8) p9] ∧
      ∀ (kV doc pm : Value) (an : Option Addr) (cda : Addr) (ct : Value) (cc g : Addr) (L : Addr), interactive (callEnv (PySem.W.ksFn "__init__" qual params body scope .none kV doc pm an (.ref cda) ct cc) L g) = false ∧
        swapsWith (.Call (.Attribute (.Call (.Name "super" p0) [] [] p1) "__init__" p2) [.Name "value" p3] [] p4) none p5.line (callEnv (PySem.W.ksFn "__init__" qual params body scope .none kV doc pm an (.ref cda) ct cc) L g) = pure false ∧
        swapsWith (.Name "value" p8) (some (.Attribute (.Name "self" p6) "value" p7)) p9.line (callEnv (PySem.W.ksFn "__init__" qual params body scope .none kV doc pm an (.ref cda) ct cc) L g) = pure false ∧
        ∃ pl : Sem Bool, eval (.Call (.Attribute (.Call (.Name "super" p0) [] [] p1) "__init__" p2) [.Name "value" p3] [] p4) (callEnv (PySem.W.ksFn "__init__" qual params body scope .none kV doc pm an (.ref cda) ct cc) L g) = (do
          let ov ← attributeBase (.Call (.Name "super" p0) [] [] p1) "__init__" (callEnv (PySem.W.ksFn "__init__" qual params body scope .none kV doc pm an (.ref cda) ct cc) L g) (eval (.Call (.Name "super" p0) [] [] p1) (callEnv (PySem.W.ksFn "__init__" qual params body scope .none kV doc pm an (.ref cda) ct cc) L g))
          standAt p2.atName
          let (f, first) ← holding [ov] (getMethod ov "__init__" pl)
          callWith p4 f first (backTo p4 (starEach [.Name "value" p3] (callEnv (PySem.W.ksFn "__init__" qual params body scope .none kV doc pm an (.ref cda) ct cc) L g))) [])
  ar : ∃ ar, (params.posonlyargs ++ params.args).head? = some ar ∧ ar.arg = ("self" : Str)
  bd : ∀ (kV doc pm : Value) (an : Option Addr) (cda : Addr) (ct : Value) (cc : Addr) (u v : Value), bindArgs (PySem.W.ksFn "__init__" qual params body scope .none kV doc pm an (.ref cda) ct cc) ⟨[u, v], []⟩ = pure ([("self" : Str), "value"].zip [u, v])
  sc : scope.names.lookup ("super" : Str) = some .globalImplicit ∧ scope.names.lookup ("__class__" : Str) = some .free ∧ scope.names.lookup ("self" : Str) = some .local ∧ scope.names.lookup ("value" : Str) = some .local ∧
    (∀ x ∈ scope.names, x.2 ≠ .cell) ∧ scope.isCoroutine = false ∧ scope.isGenerator = false ∧ scope.kind = .function
theorem supI_of {K : PySem.W.Frag} {b qual file : Str} {params : Arguments} {body : List Stmt} {scope : Scope} (e : fnE K (He.ma K (He.ga K b) "__init__") = (some (("__init__" : Str), qual, params, FuncBody.stmts body, scope, mainGlobals, ([] : List (Str × Addr)), builtinsNs) : He5.FnW))
    (c : (Fx.sup b qual file).ok K = true) (S : InitS qual params body scope) : SupI K file (He.ga K b) (He.ma K (He.ga K b) "__init__") := by
  obtain ⟨c1, c⟩ := He.ba c
  obtain ⟨c2, c3⟩ := He.ba c
  generalize He.ma K (He.ga K b) "__init__" = g at e c1
  generalize He.ga K b = B at c1 c2 c3
  obtain ⟨p0, p1, p2, p3, p4, p5, p6, p7, p8, p9, hbd, hfm⟩ := S.tx
  unfold supB at c1
  split at c1
  · rename_i oc od fd osl lk
    split at c1
    · rename_i cda n cc hcode hclo hdef
      obtain ⟨k1, c1⟩ := He.ba c1
      obtain ⟨k2, c1⟩ := He.ba c1
      obtain ⟨k3, k4⟩ := He.ba c1
      have k2' := of_decide_eq_true k2
      unfold fnE He5.fnA at e
      rw [lk] at e
      obtain ⟨n1, n2, n3, n4, n5, n6, n7, n8, n9, n10, n11, n12, n13, n14, n15⟩ := fd
      dsimp only at hcode hclo hdef
      have e2 : (some (n1, n2, n3, n4, n5, n6, ([] : List (Str × Addr)), n15) : He5.FnW) = (some (("__init__" : Str), qual, params, FuncBody.stmts body, scope, mainGlobals, ([] : List (Str × Addr)), builtinsNs) : He5.FnW) := e
      simp only [Option.some.injEq, Prod.mk.injEq] at e2
      obtain ⟨h1, h2, h3, h4, h5, h6, _, h8⟩ := e2
      subst h1 h2 h3 h4 h5 h6 h8 hcode hclo hdef k2'
      refine ⟨⟨_, _, _, body, _, .none, n9, n10, n11, n12, cda, n14, cc, oc, od, osl, lk, k1, ?_, ?_, ⟨p0, p1, p2, p3, p4, p5, p6, p7, p8, p9, hbd, fun L => hfm n9 n10 n11 n12 cda n14 cc g L⟩, S.ar, ?_, S.sc⟩, Option.isSome_iff_exists.mp c2, He.eqO_ok c3⟩
      · split at k3
        · rename_i a1 a2 vs a4 l2
          split at k3
          · rename_i f2 tf hv
            have z := of_decide_eq_true k3
            subst z
            exact ⟨_, _, vs, _, tf, l2, hv⟩
          · cases k3
        · cases k3
      · split at k4
        · rename_i a1 a2 b2 a4 l2
          have z := of_decide_eq_true k4
          subst z
          exact ⟨_, _, _, l2⟩
        · cases k4
      · intro us hl
        match us, hl with
        | [u, v], _ => exact S.bd n9 n10 n11 n12 cda n14 cc u v
    · cases c1
  · cases c1
/-! the Hook -/
def obsX (fa : List Fc) (fx : List Fx) (fn fs : List He5.DefA) (K : PySem.W.Frag) : He.AlD := ((fx.all fun f => f.ok K) && (obsN fa fn K).1, (obsN fa fn K).2 ++ fs.map fun d => fnE K (d.at_ K))
def valX (fn fs : List He5.DefA) : He.AlD := (true, (valC fn).2 ++ fs.map He5.DefA.val)
def SaysX (fa : List Fc) (fx : List Fx) (fn fs : List He5.DefA) (K : PySem.W.Frag) : Prop := obsX fa fx fn fs K = valX fn fs
section
variable {fa : List Fc} {fx : List Fx} {fn fs : List He5.DefA} {K : PySem.W.Frag}
theorem SaysX.says (c : SaysX fa fx fn fs K) : SaysN fa fn K ∧ (fx.all fun f => f.ok K) = true ∧ (fs.map fun d => fnE K (d.at_ K)) = fs.map He5.DefA.val := by
  have c1 := He.ba (show ((fx.all fun f => f.ok K) && (obsN fa fn K).1) = true from congrArg (fun z : He.AlD => z.1) c)
  have c2 : (obsN fa fn K).2 ++ (fs.map fun d => fnE K (d.at_ K)) = (valC fn).2 ++ fs.map He5.DefA.val := congrArg (fun z : He.AlD => z.2) c
  have hl : (obsN fa fn K).2.length = (valC fn).2.length := by
    show (fn.map fun d => He5.fnA K (d.at_ K)).length = (fn.map He5.DefA.val).length
    rw [List.length_map, List.length_map]
  obtain ⟨e1, e2⟩ := List.append_inj c2 hl
  exact ⟨Prod.ext c1.2 e1, c1.1, e2⟩
theorem SaysX.factX (c : SaysX fa fx fn fs K) (i : Nat) {f : Fx} (h : fx[i]? = some f := by rfl) : f.ok K = true := List.all_eq_true.mp c.says.2.1 f (List.mem_of_getElem? h)
theorem SaysX.defX (c : SaysX fa fx fn fs K) (i : Nat) {d : He5.DefA} (h : fs[i]? = some d := by rfl) : fnE K (d.at_ K) = d.val := by
  have e2 : (fs.map fun d => fnE K (d.at_ K))[i]? = (fs.map He5.DefA.val)[i]? := by rw [c.says.2.2]
  rw [List.getElem?_map, List.getElem?_map, h] at e2
  exact Option.some.inj e2
theorem SaysX.c (c : SaysX fa fx fn fs K) : SaysC fa fn K := c.says.1.says.2.2
end
end DL
/-! a Hook that looks at addresses told ahead (the closure of what the names reach costs the kernel too much) -/
namespace DL
open PySem PySem.Spec PyProof.Rows L2
/-! the run, looked at in parts -/
/-! module dicts: texts or numbers for keys, numbers for values -/
def keyO : Value → Option Key
  | .int i _ => some (.inl i)
  | .str x _ => some (.inr x)
  | _ => none
def entO (e : DictEntry) : Option (Key × Int) := match keyO e.key, e.val with
  | some k, .int i _ => some (k, i)
  | _, _ => none
abbrev DcV := Option (Bool × List (Option (Key × Int)) × List Int)
def dctO (K : PySem.W.Frag) (a : Addr) : DcV := match K.lookup a with
  | some ⟨.type t, none, .dict es _, sl⟩ => some (!(a == sysModules) && (decide (t = "dict") && sl.toList.isEmpty), es.toList.map entO, es.toList.map (·.hash))
  | _ => none
def dctW (w : World) (kvs : List (Key × Int)) : DcV := some (true, kvs.map some, kvs.map fun kv => keyH w kv.1)
structure DcK (K : PySem.W.Frag) (w : World) (a : Addr) (kvs : List (Key × Int)) : Prop where
  at_ : ∃ (o : Obj) (es : Array DictEntry) (ep : Nat), K.lookup a = some o ∧ o.ExactDict ∧ o.data = .dict es ep ∧ es.toList.map entO = kvs.map some ∧ es.toList.map (·.hash) = kvs.map fun kv => keyH w kv.1
  nd : (kvs.map (·.1)).Nodup
  ns : (a == sysModules) = false
  ln : kvs.length ≤ 100
theorem dcK_of {K : PySem.W.Frag} {w : World} {a : Addr} {kvs : List (Key × Int)} (h : dctO K a = dctW w kvs) (nd : (kvs.map (·.1)).Nodup) (ln : kvs.length ≤ 100) : DcK K w a kvs := by
  unfold dctO dctW at h
  split at h
  · rename_i t es ep sl lk
    have h := Option.some.inj h
    simp only [Prod.mk.injEq] at h
    obtain ⟨h1, h2, h3⟩ := h
    obtain ⟨h0, h1⟩ := He.ba h1
    obtain ⟨h4, h5⟩ := He.ba h1
    have h4 := of_decide_eq_true h4
    subst h4
    refine ⟨⟨_, es, ep, lk, ⟨rfl, rfl, ?_⟩, rfl, h2, h3⟩, nd, by simpa using h0, ln⟩
    obtain ⟨l⟩ := sl
    cases l with
    | nil => rfl
    | cons x l => cases h5
  · cases h
/-! the Hook with such dicts -/
abbrev Dci := Str × List (Key × Int)
abbrev AlM := He.AlD × List DcV
def obsM (fa : List Fc) (fx : List Fx) (fn fs : List He5.DefA) (dc : List Dci) (K : PySem.W.Frag) : AlM := (obsX fa fx fn fs K, dc.map fun d => dctO K (He.ga K d.1))
def valM (fn fs : List He5.DefA) (dc : List Dci) (w : World) : AlM := (valX fn fs, dc.map fun d => dctW w d.2)
def SaysM (fa : List Fc) (fx : List Fx) (fn fs : List He5.DefA) (dc : List Dci) (K : PySem.W.Frag) (w : World) : Prop := obsM fa fx fn fs dc K = valM fn fs dc w
def obsMG (as : List Addr) (fa : List Fc) (fx : List Fx) (fn fs : List He5.DefA) (dc : List Dci) (g : Addr → Option Obj) : AlM := obsM fa fx fn fs dc (He.frG g as)
section
variable {fa : List Fc} {fx : List Fx} {fn fs : List He5.DefA} {dc : List Dci} {K : PySem.W.Frag} {w : World}
theorem SaysM.x (c : SaysM fa fx fn fs dc K w) : SaysX fa fx fn fs K := congrArg Prod.fst c
theorem SaysM.dct (c : SaysM fa fx fn fs dc K w) (i : Nat) {d : Dci} (h : dc[i]? = some d := by rfl) (nd : (d.2.map (·.1)).Nodup := by decide) (ln : d.2.length ≤ 100 := by decide) : DcK K w (He.ga K d.1) d.2 := by
  have e : (dc.map fun d => dctO K (He.ga K d.1)) = dc.map fun d => dctW w d.2 := congrArg Prod.snd c
  have e2 : (dc.map fun d => dctO K (He.ga K d.1))[i]? = (dc.map fun d => dctW w d.2)[i]? := by rw [e]
  rw [List.getElem?_map, List.getElem?_map, h] at e2
  exact dcK_of (Option.some.inj e2) nd ln
end
end DL
/-! ### a Hook that tells of tables of code objects, too -/
namespace DL
open PySem PySem.Spec PyProof.Rows L2
def lamQ (n : Str) : Str := n ++ ".<locals>." ++ "<lambda>"
/-- a def that holds a lambda, and the name of its lambdas' code objects -/
abbrev Tf := List (He.Defn × Str)
abbrev tabA (K : PySem.W.Frag) (p : He.Defn × Str) : Addr := (He.cT K p.1).2
def tabM (K : PySem.W.Frag) (tf : Tf) : Mem := fun b => (tf.find? fun p => decide (tabA K p = b)).map fun p => .tab p.2
structure TabF (tf : Tf) (h : Heap) (K : PySem.W.Frag) : Prop where
  hd : ∀ p ∈ tf, PySem.W.codeHdIn K (He.cT K p.1).1 (tabA K p) = true
  out : ∀ p ∈ tf, K.lookup (tabA K p) = none
  empty : ∀ p ∈ tf, h.get? (tabA K p) = some { cls := .none, data := .fields #[] }
  nd : (tf.map (tabA K)).Nodup
def tabAll (g : Addr → Option Obj) (tf : Tf) (K : PySem.W.Frag) : Bool := He.tabsB g (tf.map (·.1)) K && ((tf.all fun p => (K.lookup (tabA K p)).isNone) && decide (tf.map (tabA K)).Nodup)
theorem tabF_of {tf : Tf} {h : Heap} {K : PySem.W.Frag} (e : tabAll h.get? tf K = true) : TabF tf h K := by
  unfold tabAll at e
  obtain ⟨h1, h2⟩ := He.ba e
  obtain ⟨h2, h3⟩ := He.ba h2
  have key : ∀ p ∈ tf, PySem.W.codeHdIn K (He.cT K p.1).1 (tabA K p) = true ∧ ∃ o, h.get? (tabA K p) = some o ∧ He.emptyTab o = true := fun p hp => by
    unfold He.tabsB at h1
    obtain ⟨q1, q2⟩ := He.ba (List.all_eq_true.mp h1 p.1 (List.mem_map.mpr ⟨p, hp, rfl⟩))
    refine ⟨q1, ?_⟩
    cases q : h.get? (tabA K p) with
    | none =>
      rw [show (He.cT K p.1).2 = tabA K p from rfl, q] at q2
      cases q2
    | some o =>
      rw [show (He.cT K p.1).2 = tabA K p from rfl, q] at q2
      exact ⟨o, rfl, q2⟩
  refine ⟨fun p hp => (key p hp).1, fun p hp => ?_, fun p hp => ?_, of_decide_eq_true h3⟩
  · have z := List.all_eq_true.mp h2 p hp
    cases q : K.lookup (tabA K p) with
    | none => rfl
    | some o => rw [q] at z; cases z
  · obtain ⟨_, o, q, z⟩ := key p hp
    rw [q, He.emptyTab_eq z]
abbrev AlTT := AlM × Bool
def obsTG (as : List Addr) (fa : List Fc) (fx : List Fx) (fn fs : List He5.DefA) (dc : List Dci) (tf : Tf) (g : Addr → Option Obj) : AlTT := (obsMG as fa fx fn fs dc g, tabAll g tf (He.frG g as))
def SaysT (fa : List Fc) (fx : List Fx) (fn fs : List He5.DefA) (dc : List Dci) (tf : Tf) (K : PySem.W.Frag) (w : World) (h : Heap) : Prop := SaysM fa fx fn fs dc K w ∧ TabF tf h K
def hookT (as : List Addr) (fa : List Fc) (fx : List Fx) (fn fs : List He5.DefA) (dc : List Dci) (tf : Tf) : PySem.W.Hook where
  α := AlTT
  obs := fun s => obsTG as fa fx fn fs dc tf s.heap.get?
  val := fun w => (valM fn fs dc w, true)
  says := fun w h => ∃ K : PySem.W.Frag, K.In h ∧ SaysT fa fx fn fs dc tf K w h
  of := fun _ _ e => ⟨_, He.frG_in, congrArg (fun z : AlTT => z.1) e, tabF_of (congrArg (fun z : AlTT => z.2) e)⟩
  keeps := fun _ _ _ ⟨K, hK, c, t⟩ k => ⟨K, PySem.W.Frag.In.keeps hK k, c, t.hd, t.out, fun p hp => k _ _ (t.empty p hp), t.nd⟩
theorem obsTG_eq {as : List Addr} {fa : List Fc} {fx : List Fx} {fn fs : List He5.DefA} {dc : List Dci} {tf : Tf} {g : Addr → Option Obj} {s : Shared} (h : ∀ a, g a = s.heap.get? a) : obsTG as fa fx fn fs dc tf g = (hookT as fa fx fn fs dc tf).obs s := by
  have e : g = s.heap.get? := funext h
  rw [e]
  rfl
/-! ### where a lambda stands -/
abbrev LamP := Arguments × Expr × Scope
def lam0 : LamP := (⟨[], [], none, [], [], none, []⟩, .Constant .none 0 ⟨0, 0, 0, 0⟩, ⟨.function, [], false, false, []⟩)
end DL
namespace Lw
open PySem PySem.Spec PyProof.Rows L2 DL
/-! ### places -/
def top (i : Nat) : Stmt := PySem.Challenge.pw_rangehunt_k02_sources_put_together.main.body.getD i (.Pass ⟨0, 0, 0, 0⟩)
abbrev s_common : Stmt := top 3
abbrev s_is_integer : Stmt := top 4
abbrev s_is_ratio : Stmt := top 5
abbrev s_Amount_init : Stmt := inClass (top 6) 1
abbrev s_Amount_pair : Stmt := inClass (top 6) 2
abbrev s_Amount_over : Stmt := inClass (top 6) 3
abbrev s_Amount_add : Stmt := inClass (top 6) 5
abbrev s_Amount_mul : Stmt := inClass (top 6) 7
abbrev s_Amount_eq : Stmt := inClass (top 6) 8
abbrev s_Amount_lt : Stmt := inClass (top 6) 9
abbrev s_Amount_le : Stmt := inClass (top 6) 10
abbrev s_amount_of : Stmt := top 7
abbrev s_nought : Stmt := top 8
abbrev s_unit : Stmt := top 9
abbrev s_check_ratio : Stmt := top 16
abbrev s_Source_init : Stmt := inClass (top 17) 1
abbrev s_Source_volts : Stmt := inClass (top 17) 2
abbrev s_Source_ohms : Stmt := inClass (top 17) 3
abbrev s_Source_add : Stmt := inClass (top 17) 6
abbrev s_Source_and : Stmt := inClass (top 17) 7
abbrev s_Source_mul : Stmt := inClass (top 17) 8
abbrev s_Source_rmul : Stmt := inClass (top 17) 9
abbrev s_Source_eq : Stmt := inClass (top 17) 12
abbrev s_source_of : Stmt := top 18
abbrev s_law_pot : Stmt := top 23
abbrev s_law_take : Stmt := top 24
abbrev s_law_of : Stmt := top 25
abbrev s_law_cells : Stmt := top 26
abbrev s_law_common : Stmt := top 27
abbrev s_law_pair : Stmt := top 28
abbrev s_law_plus : Stmt := top 29
abbrev s_law_times : Stmt := top 30
abbrev s_law_over : Stmt := top 31
abbrev s_law_told : Stmt := top 32
abbrev s_law_ratio : Stmt := top 33
abbrev s_law_is_so : Stmt := top 34
abbrev s_law_is_side_by_side : Stmt := top 35
abbrev s_law_are_refused : Stmt := top 36
abbrev s_law_pair_right : Stmt := top 37
abbrev s_law : Stmt := top 38
def clsN : Nat → Str
  | 0 => "Amount"
  | 30 => "MeterError"
  | 31 => "BadRatio"
  | 32 => "Short"
  | 33 => "BadMany"
  | 4 => "Source"
  | _ => "Amount"
def Cs (K : PySem.W.Frag) (w : World) : Gc := Gc.base (fun n => He.ga K (clsN n)) w
/-! ### scopes -/
theorem sc_common : FnScope ["one", "other"] ["one", "other"] (defScope s_common) := ⟨rfl, rfl, rfl, by decide +kernel, rfl, by decide +kernel, by decide +kernel⟩
theorem sc_is_integer : FnScope ["value", "low", "high"] ["value", "low", "high"] (defScope s_is_integer) := ⟨rfl, rfl, rfl, by decide +kernel, rfl, by decide +kernel, by decide +kernel⟩
theorem sc_is_ratio : FnScope ["value"] ["value"] (defScope s_is_ratio) := ⟨rfl, rfl, rfl, by decide +kernel, rfl, by decide +kernel, by decide +kernel⟩
theorem sc_Amount_init : FnScope ["self", "above", "under", "by", "sign"] ["self", "above", "under"] (defScope s_Amount_init) := ⟨rfl, rfl, rfl, by decide +kernel, rfl, by decide +kernel, by decide +kernel⟩
theorem sc_Amount_pair : FnScope ["self"] ["self"] (defScope s_Amount_pair) := ⟨rfl, rfl, rfl, by decide +kernel, rfl, by decide +kernel, by decide +kernel⟩
theorem sc_Amount_over : FnScope ["self", "other"] ["self", "other"] (defScope s_Amount_over) := ⟨rfl, rfl, rfl, by decide +kernel, rfl, by decide +kernel, by decide +kernel⟩
theorem sc_Amount_add : FnScope ["self", "other"] ["self", "other"] (defScope s_Amount_add) := ⟨rfl, rfl, rfl, by decide +kernel, rfl, by decide +kernel, by decide +kernel⟩
theorem sc_Amount_mul : FnScope ["self", "other"] ["self", "other"] (defScope s_Amount_mul) := ⟨rfl, rfl, rfl, by decide +kernel, rfl, by decide +kernel, by decide +kernel⟩
theorem sc_Amount_eq : FnScope ["self", "other"] ["self", "other"] (defScope s_Amount_eq) := ⟨rfl, rfl, rfl, by decide +kernel, rfl, by decide +kernel, by decide +kernel⟩
theorem sc_Amount_lt : FnScope ["self", "other"] ["self", "other"] (defScope s_Amount_lt) := ⟨rfl, rfl, rfl, by decide +kernel, rfl, by decide +kernel, by decide +kernel⟩
theorem sc_Amount_le : FnScope ["self", "other"] ["self", "other"] (defScope s_Amount_le) := ⟨rfl, rfl, rfl, by decide +kernel, rfl, by decide +kernel, by decide +kernel⟩
theorem sc_amount_of : FnScope ["ratio"] ["ratio"] (defScope s_amount_of) := ⟨rfl, rfl, rfl, by decide +kernel, rfl, by decide +kernel, by decide +kernel⟩
theorem sc_nought : FnScope [] [] (defScope s_nought) := ⟨rfl, rfl, rfl, by decide +kernel, rfl, by decide +kernel, by decide +kernel⟩
theorem sc_unit : FnScope [] [] (defScope s_unit) := ⟨rfl, rfl, rfl, by decide +kernel, rfl, by decide +kernel, by decide +kernel⟩
theorem sc_check_ratio : FnScope ["value"] ["value"] (defScope s_check_ratio) := ⟨rfl, rfl, rfl, by decide +kernel, rfl, by decide +kernel, by decide +kernel⟩
theorem sc_Source_init : FnScope ["self", "volts", "ohms"] ["self", "volts", "ohms"] (defScope s_Source_init) := ⟨rfl, rfl, rfl, by decide +kernel, rfl, by decide +kernel, by decide +kernel⟩
theorem sc_Source_volts : FnScope ["self"] ["self"] (defScope s_Source_volts) := ⟨rfl, rfl, rfl, by decide +kernel, rfl, by decide +kernel, by decide +kernel⟩
theorem sc_Source_ohms : FnScope ["self"] ["self"] (defScope s_Source_ohms) := ⟨rfl, rfl, rfl, by decide +kernel, rfl, by decide +kernel, by decide +kernel⟩
theorem sc_Source_add : FnScope ["self", "other"] ["self", "other"] (defScope s_Source_add) := ⟨rfl, rfl, rfl, by decide +kernel, rfl, by decide +kernel, by decide +kernel⟩
theorem sc_Source_and : FnScope ["self", "other", "ohms", "volts"] ["self", "other"] (defScope s_Source_and) := ⟨rfl, rfl, rfl, by decide +kernel, rfl, by decide +kernel, by decide +kernel⟩
theorem sc_Source_mul : FnScope ["self", "many"] ["self", "many"] (defScope s_Source_mul) := ⟨rfl, rfl, rfl, by decide +kernel, rfl, by decide +kernel, by decide +kernel⟩
theorem sc_Source_rmul : FnScope ["self", "many"] ["self", "many"] (defScope s_Source_rmul) := ⟨rfl, rfl, rfl, by decide +kernel, rfl, by decide +kernel, by decide +kernel⟩
theorem sc_Source_eq : FnScope ["self", "other"] ["self", "other"] (defScope s_Source_eq) := ⟨rfl, rfl, rfl, by decide +kernel, rfl, by decide +kernel, by decide +kernel⟩
theorem sc_source_of : FnScope ["volts", "ohms"] ["volts", "ohms"] (defScope s_source_of) := ⟨rfl, rfl, rfl, by decide +kernel, rfl, by decide +kernel, by decide +kernel⟩
theorem sc_law_pot : FnScope ["_law_script", "_law_place", "_law_cell", "_law_own", "_law_small"] ["_law_script", "_law_place"] (defScope s_law_pot) := ⟨rfl, rfl, rfl, by decide +kernel, rfl, by decide +kernel, by decide +kernel⟩
theorem sc_law_take : FnScope ["_law_pot_here", "_law_upto", "_law_digit", "_law_prime", "_law_mixed"] ["_law_pot_here", "_law_upto"] (defScope s_law_take) := ⟨rfl, rfl, rfl, by decide +kernel, rfl, by decide +kernel, by decide +kernel⟩
theorem sc_law_of : FnScope ["_law_pot_here", "_law_some"] ["_law_pot_here", "_law_some"] (defScope s_law_of) := ⟨rfl, rfl, rfl, by decide +kernel, rfl, by decide +kernel, by decide +kernel⟩
theorem sc_law_cells : FnScope ["_law_script", "_law_most"] ["_law_script", "_law_most"] (defScope s_law_cells) := ⟨rfl, rfl, rfl, by decide +kernel, rfl, by decide +kernel, by decide +kernel⟩
theorem sc_law_common : FnScope ["_law_one", "_law_other", "_law_left", "_law_right"] ["_law_one", "_law_other"] (defScope s_law_common) := ⟨rfl, rfl, rfl, by decide +kernel, rfl, by decide +kernel, by decide +kernel⟩
theorem sc_law_pair : FnScope ["_law_above", "_law_under", "_law_by"] ["_law_above", "_law_under"] (defScope s_law_pair) := ⟨rfl, rfl, rfl, by decide +kernel, rfl, by decide +kernel, by decide +kernel⟩
theorem sc_law_plus : FnScope ["_law_one", "_law_other"] ["_law_one", "_law_other"] (defScope s_law_plus) := ⟨rfl, rfl, rfl, by decide +kernel, rfl, by decide +kernel, by decide +kernel⟩
theorem sc_law_times : FnScope ["_law_one", "_law_other"] ["_law_one", "_law_other"] (defScope s_law_times) := ⟨rfl, rfl, rfl, by decide +kernel, rfl, by decide +kernel, by decide +kernel⟩
theorem sc_law_over : FnScope ["_law_one", "_law_other"] ["_law_one", "_law_other"] (defScope s_law_over) := ⟨rfl, rfl, rfl, by decide +kernel, rfl, by decide +kernel, by decide +kernel⟩
theorem sc_law_told : FnScope ["_law_look", "_law_caught", "_law_back", "error"] ["_law_look"] (defScope s_law_told) := ⟨rfl, rfl, rfl, by decide +kernel, rfl, by decide +kernel, by decide +kernel⟩
theorem sc_law_ratio : FnScope ["_law_pot_here", "_law_above"] ["_law_pot_here"] (defScope s_law_ratio) := ⟨rfl, rfl, rfl, by decide +kernel, rfl, by decide +kernel, by decide +kernel⟩
theorem sc_law_is_so : FnScope ["_law_told_here", "_law_due"] ["_law_told_here", "_law_due"] (defScope s_law_is_so) := ⟨rfl, rfl, rfl, by decide +kernel, rfl, by decide +kernel, by decide +kernel⟩
theorem sc_law_is_side_by_side : FnScope ["_law_one", "_law_other", "_law_first", "_law_second", "_law_caught", "_law_told_here", "_law_ohms", "_law_volts", "_law_shared"] ["_law_one", "_law_other", "_law_first", "_law_second"] (defScope s_law_is_side_by_side) := ⟨rfl, rfl, rfl, by decide +kernel, rfl, by decide +kernel, by decide +kernel⟩
theorem sc_law_are_refused : FnScope ["_law_pot_here", "_law_one", "_law_other", "_law_value", "_law_looks", "_law_look", "_law_due", "_law_caught"] ["_law_pot_here", "_law_one", "_law_other"] (defScope s_law_are_refused) := ⟨rfl, rfl, rfl, by decide +kernel, rfl, by decide +kernel, by decide +kernel⟩
theorem sc_law_pair_right : FnScope ["_law_pot_here", "_law_first", "_law_second", "_law_lap", "_law_way", "_law_many", "_law_one", "_law_other", "_law_due"] ["_law_pot_here"] (defScope s_law_pair_right) := ⟨rfl, rfl, rfl, by decide +kernel, rfl, by decide +kernel, by decide +kernel⟩
theorem sc_law : FnScope ["_law_script", "_law_place", "_law_pot_here", "_law_lap"] ["_law_script"] (defScope s_law) := ⟨rfl, rfl, rfl, by decide +kernel, rfl, by decide +kernel, by decide +kernel⟩
/-! ### facts -/
def P : Program := PySem.Challenge.pw_rangehunt_k02_sources_put_together
def errs : List Str := ["MeterError", "BadRatio", "Short", "BadMany"]
abbrev s_err_init : Stmt := inClass (top 11) 0
theorem init_ok : InitS "MeterError.__init__" (defArgs s_err_init) (defBody s_err_init) (defScope s_err_init) := ⟨⟨_, _, _, _, _, _, _, _, _, _, rfl, fun _ _ _ _ _ _ _ _ _ => ⟨rfl, rfl, rfl, _, rfl⟩⟩, ⟨_, rfl, rfl⟩, fun _ _ _ _ _ _ _ _ _ => rfl, ⟨rfl, rfl, rfl, rfl, by decide +kernel, rfl, rfl, rfl⟩⟩
def d_err_init : He5.DefA := ⟨fun K => He.ma K (He.ga K "MeterError") "__init__", "__init__", "MeterError.__init__", defArgs s_err_init, defBody s_err_init, defScope s_err_init, [], []⟩
theorem top_super : (P.main.scope.names.lookup ("super" : Str)).isSome = false := by decide +kernel
def d_common : He5.DefA := ⟨fun K => He.ga K "common", "common", "common", defArgs s_common, defBody s_common, defScope s_common, [], []⟩
def d_is_integer : He5.DefA := ⟨fun K => He.ga K "is_integer", "is_integer", "is_integer", defArgs s_is_integer, defBody s_is_integer, defScope s_is_integer, [.non, .non], []⟩
def d_is_ratio : He5.DefA := ⟨fun K => He.ga K "is_ratio", "is_ratio", "is_ratio", defArgs s_is_ratio, defBody s_is_ratio, defScope s_is_ratio, [], []⟩
def d_Amount_init : He5.DefA := ⟨fun K => He.ma K (He.ga K "Amount") "__init__", "__init__", "Amount.__init__", defArgs s_Amount_init, defBody s_Amount_init, defScope s_Amount_init, [.int 1], []⟩
def d_Amount_pair : He5.DefA := ⟨fun K => He5.wf K (He.ga K "Amount") "property" "pair", "pair", "Amount.pair", defArgs s_Amount_pair, defBody s_Amount_pair, defScope s_Amount_pair, [], []⟩
def d_Amount_over : He5.DefA := ⟨fun K => He.ma K (He.ga K "Amount") "over", "over", "Amount.over", defArgs s_Amount_over, defBody s_Amount_over, defScope s_Amount_over, [], []⟩
def d_Amount_add : He5.DefA := ⟨fun K => He.ma K (He.ga K "Amount") "__add__", "__add__", "Amount.__add__", defArgs s_Amount_add, defBody s_Amount_add, defScope s_Amount_add, [], []⟩
def d_Amount_mul : He5.DefA := ⟨fun K => He.ma K (He.ga K "Amount") "__mul__", "__mul__", "Amount.__mul__", defArgs s_Amount_mul, defBody s_Amount_mul, defScope s_Amount_mul, [], []⟩
def d_Amount_eq : He5.DefA := ⟨fun K => He.ma K (He.ga K "Amount") "__eq__", "__eq__", "Amount.__eq__", defArgs s_Amount_eq, defBody s_Amount_eq, defScope s_Amount_eq, [], []⟩
def d_Amount_lt : He5.DefA := ⟨fun K => He.ma K (He.ga K "Amount") "__lt__", "__lt__", "Amount.__lt__", defArgs s_Amount_lt, defBody s_Amount_lt, defScope s_Amount_lt, [], []⟩
def d_Amount_le : He5.DefA := ⟨fun K => He.ma K (He.ga K "Amount") "__le__", "__le__", "Amount.__le__", defArgs s_Amount_le, defBody s_Amount_le, defScope s_Amount_le, [], []⟩
def d_amount_of : He5.DefA := ⟨fun K => He.ga K "amount_of", "amount_of", "amount_of", defArgs s_amount_of, defBody s_amount_of, defScope s_amount_of, [], []⟩
def d_nought : He5.DefA := ⟨fun K => He.ga K "nought", "nought", "nought", defArgs s_nought, defBody s_nought, defScope s_nought, [], []⟩
def d_unit : He5.DefA := ⟨fun K => He.ga K "unit", "unit", "unit", defArgs s_unit, defBody s_unit, defScope s_unit, [], []⟩
def d_check_ratio : He5.DefA := ⟨fun K => He.ga K "check_ratio", "check_ratio", "check_ratio", defArgs s_check_ratio, defBody s_check_ratio, defScope s_check_ratio, [], []⟩
def d_Source_init : He5.DefA := ⟨fun K => He.ma K (He.ga K "Source") "__init__", "__init__", "Source.__init__", defArgs s_Source_init, defBody s_Source_init, defScope s_Source_init, [], []⟩
def d_Source_volts : He5.DefA := ⟨fun K => He5.wf K (He.ga K "Source") "property" "volts", "volts", "Source.volts", defArgs s_Source_volts, defBody s_Source_volts, defScope s_Source_volts, [], []⟩
def d_Source_ohms : He5.DefA := ⟨fun K => He5.wf K (He.ga K "Source") "property" "ohms", "ohms", "Source.ohms", defArgs s_Source_ohms, defBody s_Source_ohms, defScope s_Source_ohms, [], []⟩
def d_Source_add : He5.DefA := ⟨fun K => He.ma K (He.ga K "Source") "__add__", "__add__", "Source.__add__", defArgs s_Source_add, defBody s_Source_add, defScope s_Source_add, [], []⟩
def d_Source_and : He5.DefA := ⟨fun K => He.ma K (He.ga K "Source") "__and__", "__and__", "Source.__and__", defArgs s_Source_and, defBody s_Source_and, defScope s_Source_and, [], []⟩
def d_Source_mul : He5.DefA := ⟨fun K => He.ma K (He.ga K "Source") "__mul__", "__mul__", "Source.__mul__", defArgs s_Source_mul, defBody s_Source_mul, defScope s_Source_mul, [], []⟩
def d_Source_rmul : He5.DefA := ⟨fun K => He.ma K (He.ga K "Source") "__rmul__", "__rmul__", "Source.__rmul__", defArgs s_Source_rmul, defBody s_Source_rmul, defScope s_Source_rmul, [], []⟩
def d_Source_eq : He5.DefA := ⟨fun K => He.ma K (He.ga K "Source") "__eq__", "__eq__", "Source.__eq__", defArgs s_Source_eq, defBody s_Source_eq, defScope s_Source_eq, [], []⟩
def d_source_of : He5.DefA := ⟨fun K => He.ga K "source_of", "source_of", "source_of", defArgs s_source_of, defBody s_source_of, defScope s_source_of, [], []⟩
def d_law_pot : He5.DefA := ⟨fun K => He.ga K "_law_pot", "_law_pot", "_law_pot", defArgs s_law_pot, defBody s_law_pot, defScope s_law_pot, [], []⟩
def d_law_take : He5.DefA := ⟨fun K => He.ga K "_law_take", "_law_take", "_law_take", defArgs s_law_take, defBody s_law_take, defScope s_law_take, [], []⟩
def d_law_of : He5.DefA := ⟨fun K => He.ga K "_law_of", "_law_of", "_law_of", defArgs s_law_of, defBody s_law_of, defScope s_law_of, [], []⟩
def d_law_cells : He5.DefA := ⟨fun K => He.ga K "_law_cells", "_law_cells", "_law_cells", defArgs s_law_cells, defBody s_law_cells, defScope s_law_cells, [], []⟩
def d_law_common : He5.DefA := ⟨fun K => He.ga K "_law_common", "_law_common", "_law_common", defArgs s_law_common, defBody s_law_common, defScope s_law_common, [], []⟩
def d_law_pair : He5.DefA := ⟨fun K => He.ga K "_law_pair", "_law_pair", "_law_pair", defArgs s_law_pair, defBody s_law_pair, defScope s_law_pair, [], []⟩
def d_law_plus : He5.DefA := ⟨fun K => He.ga K "_law_plus", "_law_plus", "_law_plus", defArgs s_law_plus, defBody s_law_plus, defScope s_law_plus, [], []⟩
def d_law_times : He5.DefA := ⟨fun K => He.ga K "_law_times", "_law_times", "_law_times", defArgs s_law_times, defBody s_law_times, defScope s_law_times, [], []⟩
def d_law_over : He5.DefA := ⟨fun K => He.ga K "_law_over", "_law_over", "_law_over", defArgs s_law_over, defBody s_law_over, defScope s_law_over, [], []⟩
def d_law_told : He5.DefA := ⟨fun K => He.ga K "_law_told", "_law_told", "_law_told", defArgs s_law_told, defBody s_law_told, defScope s_law_told, [], []⟩
def d_law_ratio : He5.DefA := ⟨fun K => He.ga K "_law_ratio", "_law_ratio", "_law_ratio", defArgs s_law_ratio, defBody s_law_ratio, defScope s_law_ratio, [], []⟩
def d_law_is_so : He5.DefA := ⟨fun K => He.ga K "_law_is_so", "_law_is_so", "_law_is_so", defArgs s_law_is_so, defBody s_law_is_so, defScope s_law_is_so, [], []⟩
def d_law_is_side_by_side : He5.DefA := ⟨fun K => He.ga K "_law_is_side_by_side", "_law_is_side_by_side", "_law_is_side_by_side", defArgs s_law_is_side_by_side, defBody s_law_is_side_by_side, defScope s_law_is_side_by_side, [], []⟩
def d_law_are_refused : He5.DefA := ⟨fun K => He.ga K "_law_are_refused", "_law_are_refused", "_law_are_refused", defArgs s_law_are_refused, defBody s_law_are_refused, defScope s_law_are_refused, [], []⟩
def d_law_pair_right : He5.DefA := ⟨fun K => He.ga K "_law_pair_right", "_law_pair_right", "_law_pair_right", defArgs s_law_pair_right, defBody s_law_pair_right, defScope s_law_pair_right, [], []⟩
def d_law : He5.DefA := ⟨fun K => He.ga K "law", "law", "law", defArgs s_law, defBody s_law, defScope s_law, [], []⟩
def fn0 : List He5.DefA := [d_common, d_is_integer, d_is_ratio, d_Amount_init, d_Amount_pair, d_Amount_over, d_Amount_add, d_Amount_mul, d_Amount_eq, d_Amount_lt, d_Amount_le, d_amount_of, d_nought, d_unit, d_check_ratio, d_Source_init, d_Source_volts, d_Source_ohms, d_Source_add, d_Source_and, d_Source_mul, d_Source_rmul, d_Source_eq, d_source_of, d_law_pot, d_law_take, d_law_of, d_law_cells, d_law_common, d_law_pair, d_law_plus, d_law_times, d_law_over, d_law_told, d_law_ratio, d_law_is_so, d_law_is_side_by_side, d_law_are_refused, d_law_pair_right, d_law]
def fn : List He5.DefA := fn0
def fa0 : List Fc := [.glo "common", .glo "is_integer", .glo "is_ratio", .glo "amount_of", .glo "nought", .glo "unit", .glo "check_ratio", .glo "source_of", .glo "_law_pot", .glo "_law_take", .glo "_law_of", .glo "_law_cells", .glo "_law_common", .glo "_law_pair", .glo "_law_plus", .glo "_law_times", .glo "_law_over", .glo "_law_told", .glo "_law_ratio", .glo "_law_is_so", .glo "_law_is_side_by_side", .glo "_law_are_refused", .glo "_law_pair_right", .glo "Amount", .scls "Amount", .slot "Amount" "bottom" 0, .slot "Amount" "top" 1, .sisi "Amount", .selfF "Amount", .notF "Amount" "Amount"]
def fa1 : List Fc := [.kit (.c "Amount") (.c "Amount") true, .kit (.c "Amount") (.c "Source") false, .kit (.c "Amount") (.t "int") false, .kit (.c "Amount") (.t "bool") false, .glo "Source", .scls "Source", .slot "Source" "own_ohms" 0, .slot "Source" "own_volts" 1, .sisi "Source", .selfF "Source", .notF "Source" "Source", .kit (.c "Source") (.c "Amount") false, .kit (.c "Source") (.c "Source") true, .kit (.c "Source") (.t "int") false, .kit (.c "Source") (.t "bool") false, .mkr "Amount", .prop "Amount" "pair", .meth "Amount" "over", .own "Amount" "__add__", .own "Amount" "__mul__", .own "Amount" "__eq__", .own "Amount" "__lt__", .own "Amount" "__le__", .mkr "Source", .prop "Source" "volts", .prop "Source" "ohms", .own "Source" "__add__", .own "Source" "__and__", .own "Source" "__mul__", .own "Source" "__rmul__"]
def fa2 : List Fc := [.own "Source" "__eq__", .free "abs", .free "all", .free "bool", .free "int", .free "isinstance", .free "len", .free "list", .free "max", .free "min", .free "range", .free "repr", .free "super", .free "tuple", .int "PAIR" (2), .glo "MeterError", .glo "BadRatio", .glo "Short", .glo "BadMany", .kit (.t "NoneType") (.c "MeterError") false, .kit (.t "NoneType") (.c "BadRatio") false, .kit (.t "NoneType") (.c "Short") false, .kit (.t "NoneType") (.c "BadMany") false, .kit (.t "int") (.t "int") true, .kit (.t "int") (.t "bool") false, .kit (.t "int") (.c "Amount") false, .kit (.t "int") (.c "Source") false, .kit (.t "bool") (.t "int") true, .kit (.t "bool") (.t "bool") true, .kit (.t "bool") (.c "Amount") false]
def fa3 : List Fc := [.kit (.t "bool") (.c "Source") false, .kit (.t "tuple") (.t "int") false, .kit (.t "tuple") (.t "bool") false, .kit (.t "tuple") (.t "tuple") true, .kit (.t "tuple") (.c "Amount") false, .kit (.t "tuple") (.c "Source") false, .kit (.t "str") (.t "int") false, .kit (.t "str") (.t "bool") false, .kit (.t "str") (.c "Amount") false, .kit (.t "str") (.c "Source") false, .kit (.t "list") (.t "int") false, .kit (.t "list") (.t "bool") false, .kit (.t "list") (.c "Amount") false, .kit (.t "list") (.c "Source") false, .kit (.t "NoneType") (.t "int") false, .kit (.t "NoneType") (.t "bool") false, .kit (.t "NoneType") (.c "Amount") false, .kit (.t "NoneType") (.c "Source") false, .kit (.t "dict") (.t "int") false, .kit (.t "dict") (.t "bool") false, .kit (.t "dict") (.c "Amount") false, .kit (.t "dict") (.c "Source") false, .nei "Source"]
def fg0 : List Fc := fa0 ++ fa1 ++ fa2 ++ fa3
def fa : List Fc := fg0
def dc : List Dci := []
def fx : List Fx := [.errs errs "MeterError", .kits errs "MeterError", .sysm, .sup "MeterError" "MeterError.__init__" P.main.file]
def fs : List He5.DefA := [d_err_init]
structure Tx (K : PySem.W.Frag) (mg : Str → Option Value) (w : World) : Prop where
  g_common : mg "common" = some (.ref (He.ga K "common")) ∧ PySem.W.keepIn K (.ref (He.ga K "common")) = true
  g_is_integer : mg "is_integer" = some (.ref (He.ga K "is_integer")) ∧ PySem.W.keepIn K (.ref (He.ga K "is_integer")) = true
  g_is_ratio : mg "is_ratio" = some (.ref (He.ga K "is_ratio")) ∧ PySem.W.keepIn K (.ref (He.ga K "is_ratio")) = true
  g_amount_of : mg "amount_of" = some (.ref (He.ga K "amount_of")) ∧ PySem.W.keepIn K (.ref (He.ga K "amount_of")) = true
  g_nought : mg "nought" = some (.ref (He.ga K "nought")) ∧ PySem.W.keepIn K (.ref (He.ga K "nought")) = true
  g_unit : mg "unit" = some (.ref (He.ga K "unit")) ∧ PySem.W.keepIn K (.ref (He.ga K "unit")) = true
  g_check_ratio : mg "check_ratio" = some (.ref (He.ga K "check_ratio")) ∧ PySem.W.keepIn K (.ref (He.ga K "check_ratio")) = true
  g_source_of : mg "source_of" = some (.ref (He.ga K "source_of")) ∧ PySem.W.keepIn K (.ref (He.ga K "source_of")) = true
  g_law_pot : mg "_law_pot" = some (.ref (He.ga K "_law_pot")) ∧ PySem.W.keepIn K (.ref (He.ga K "_law_pot")) = true
  g_law_take : mg "_law_take" = some (.ref (He.ga K "_law_take")) ∧ PySem.W.keepIn K (.ref (He.ga K "_law_take")) = true
  g_law_of : mg "_law_of" = some (.ref (He.ga K "_law_of")) ∧ PySem.W.keepIn K (.ref (He.ga K "_law_of")) = true
  g_law_cells : mg "_law_cells" = some (.ref (He.ga K "_law_cells")) ∧ PySem.W.keepIn K (.ref (He.ga K "_law_cells")) = true
  g_law_common : mg "_law_common" = some (.ref (He.ga K "_law_common")) ∧ PySem.W.keepIn K (.ref (He.ga K "_law_common")) = true
  g_law_pair : mg "_law_pair" = some (.ref (He.ga K "_law_pair")) ∧ PySem.W.keepIn K (.ref (He.ga K "_law_pair")) = true
  g_law_plus : mg "_law_plus" = some (.ref (He.ga K "_law_plus")) ∧ PySem.W.keepIn K (.ref (He.ga K "_law_plus")) = true
  g_law_times : mg "_law_times" = some (.ref (He.ga K "_law_times")) ∧ PySem.W.keepIn K (.ref (He.ga K "_law_times")) = true
  g_law_over : mg "_law_over" = some (.ref (He.ga K "_law_over")) ∧ PySem.W.keepIn K (.ref (He.ga K "_law_over")) = true
  g_law_told : mg "_law_told" = some (.ref (He.ga K "_law_told")) ∧ PySem.W.keepIn K (.ref (He.ga K "_law_told")) = true
  g_law_ratio : mg "_law_ratio" = some (.ref (He.ga K "_law_ratio")) ∧ PySem.W.keepIn K (.ref (He.ga K "_law_ratio")) = true
  g_law_is_so : mg "_law_is_so" = some (.ref (He.ga K "_law_is_so")) ∧ PySem.W.keepIn K (.ref (He.ga K "_law_is_so")) = true
  g_law_is_side_by_side : mg "_law_is_side_by_side" = some (.ref (He.ga K "_law_is_side_by_side")) ∧ PySem.W.keepIn K (.ref (He.ga K "_law_is_side_by_side")) = true
  g_law_are_refused : mg "_law_are_refused" = some (.ref (He.ga K "_law_are_refused")) ∧ PySem.W.keepIn K (.ref (He.ga K "_law_are_refused")) = true
  g_law_pair_right : mg "_law_pair_right" = some (.ref (He.ga K "_law_pair_right")) ∧ PySem.W.keepIn K (.ref (He.ga K "_law_pair_right")) = true
  g_Amount : mg "Amount" = some (.ref (He.ga K "Amount")) ∧ PySem.W.keepIn K (.ref (He.ga K "Amount")) = true
  c_Amount : SlX.SCls K (He.ga K "Amount")
  sl_Amount_bottom : SlX.Slot1 K (He.ga K "Amount") "bottom" (He.ma K (He.ga K "Amount") "bottom") 0
  sl_Amount_top : SlX.Slot1 K (He.ga K "Amount") "top" (He.ma K (He.ga K "Amount") "top") 1
  i_Amount : SlX.SIsi K (He.ga K "Amount")
  sf_Amount : PySem.W.selfFirst K (He.ga K "Amount") = true
  nf_Amount : PySem.W.notFirst K (He.ga K "Amount") (.ref (He.ga K "Amount")) = true
  kt_Amount_Amount : PySem.W.kitOne K (.ref (He.ga K "Amount")) (.ref (He.ga K "Amount")) = some true
  kt_Amount_Source : PySem.W.kitOne K (.ref (He.ga K "Amount")) (.ref (He.ga K "Source")) = some false
  kt_Amount_int : PySem.W.kitOne K (.ref (He.ga K "Amount")) (.type "int") = some false
  kt_Amount_bool : PySem.W.kitOne K (.ref (He.ga K "Amount")) (.type "bool") = some false
  g_Source : mg "Source" = some (.ref (He.ga K "Source")) ∧ PySem.W.keepIn K (.ref (He.ga K "Source")) = true
  c_Source : SlX.SCls K (He.ga K "Source")
  sl_Source_own_ohms : SlX.Slot1 K (He.ga K "Source") "own_ohms" (He.ma K (He.ga K "Source") "own_ohms") 0
  sl_Source_own_volts : SlX.Slot1 K (He.ga K "Source") "own_volts" (He.ma K (He.ga K "Source") "own_volts") 1
  i_Source : SlX.SIsi K (He.ga K "Source")
  sf_Source : PySem.W.selfFirst K (He.ga K "Source") = true
  nf_Source : PySem.W.notFirst K (He.ga K "Source") (.ref (He.ga K "Source")) = true
  kt_Source_Amount : PySem.W.kitOne K (.ref (He.ga K "Source")) (.ref (He.ga K "Amount")) = some false
  kt_Source_Source : PySem.W.kitOne K (.ref (He.ga K "Source")) (.ref (He.ga K "Source")) = some true
  kt_Source_int : PySem.W.kitOne K (.ref (He.ga K "Source")) (.type "int") = some false
  kt_Source_bool : PySem.W.kitOne K (.ref (He.ga K "Source")) (.type "bool") = some false
  mk_Amount : Mk K (He.ga K "Amount") (He.ma K (He.ga K "Amount") "__init__")
  p_Amount_pair : PropF K (He.ga K "Amount") "pair" (He.ma K (He.ga K "Amount") "pair") (He5.wf K (He.ga K "Amount") "property" "pair")
  m_Amount_over : Meth K (He.ga K "Amount") "over" (He.ma K (He.ga K "Amount") "over")
  o_Amount_add : PySem.W.findIn K (.ref (He.ga K "Amount")) "__add__" = some (some (.ref (He.ma K (He.ga K "Amount") "__add__"))) ∧ PySem.W.isFn K (.ref (He.ma K (He.ga K "Amount") "__add__")) = true
  o_Amount_mul : PySem.W.findIn K (.ref (He.ga K "Amount")) "__mul__" = some (some (.ref (He.ma K (He.ga K "Amount") "__mul__"))) ∧ PySem.W.isFn K (.ref (He.ma K (He.ga K "Amount") "__mul__")) = true
  o_Amount_eq : PySem.W.findIn K (.ref (He.ga K "Amount")) "__eq__" = some (some (.ref (He.ma K (He.ga K "Amount") "__eq__"))) ∧ PySem.W.isFn K (.ref (He.ma K (He.ga K "Amount") "__eq__")) = true
  o_Amount_lt : PySem.W.findIn K (.ref (He.ga K "Amount")) "__lt__" = some (some (.ref (He.ma K (He.ga K "Amount") "__lt__"))) ∧ PySem.W.isFn K (.ref (He.ma K (He.ga K "Amount") "__lt__")) = true
  o_Amount_le : PySem.W.findIn K (.ref (He.ga K "Amount")) "__le__" = some (some (.ref (He.ma K (He.ga K "Amount") "__le__"))) ∧ PySem.W.isFn K (.ref (He.ma K (He.ga K "Amount") "__le__")) = true
  mk_Source : Mk K (He.ga K "Source") (He.ma K (He.ga K "Source") "__init__")
  p_Source_volts : PropF K (He.ga K "Source") "volts" (He.ma K (He.ga K "Source") "volts") (He5.wf K (He.ga K "Source") "property" "volts")
  p_Source_ohms : PropF K (He.ga K "Source") "ohms" (He.ma K (He.ga K "Source") "ohms") (He5.wf K (He.ga K "Source") "property" "ohms")
  o_Source_add : PySem.W.findIn K (.ref (He.ga K "Source")) "__add__" = some (some (.ref (He.ma K (He.ga K "Source") "__add__"))) ∧ PySem.W.isFn K (.ref (He.ma K (He.ga K "Source") "__add__")) = true
  o_Source_and : PySem.W.findIn K (.ref (He.ga K "Source")) "__and__" = some (some (.ref (He.ma K (He.ga K "Source") "__and__"))) ∧ PySem.W.isFn K (.ref (He.ma K (He.ga K "Source") "__and__")) = true
  o_Source_mul : PySem.W.findIn K (.ref (He.ga K "Source")) "__mul__" = some (some (.ref (He.ma K (He.ga K "Source") "__mul__"))) ∧ PySem.W.isFn K (.ref (He.ma K (He.ga K "Source") "__mul__")) = true
  o_Source_rmul : PySem.W.findIn K (.ref (He.ga K "Source")) "__rmul__" = some (some (.ref (He.ma K (He.ga K "Source") "__rmul__"))) ∧ PySem.W.isFn K (.ref (He.ma K (He.ga K "Source") "__rmul__")) = true
  o_Source_eq : PySem.W.findIn K (.ref (He.ga K "Source")) "__eq__" = some (some (.ref (He.ma K (He.ga K "Source") "__eq__"))) ∧ PySem.W.isFn K (.ref (He.ma K (He.ga K "Source") "__eq__")) = true
  f_abs : mg "abs" = none
  f_all : mg "all" = none
  f_bool : mg "bool" = none
  f_int : mg "int" = none
  f_isinstance : mg "isinstance" = none
  f_len : mg "len" = none
  f_list : mg "list" = none
  f_max : mg "max" = none
  f_min : mg "min" = none
  f_range : mg "range" = none
  f_repr : mg "repr" = none
  f_super : mg "super" = none
  f_tuple : mg "tuple" = none
  v_PAIR : ∃ t, mg "PAIR" = some (.int (2) t)
  g_MeterError : mg "MeterError" = some (.ref (He.ga K "MeterError")) ∧ PySem.W.keepIn K (.ref (He.ga K "MeterError")) = true
  g_BadRatio : mg "BadRatio" = some (.ref (He.ga K "BadRatio")) ∧ PySem.W.keepIn K (.ref (He.ga K "BadRatio")) = true
  g_Short : mg "Short" = some (.ref (He.ga K "Short")) ∧ PySem.W.keepIn K (.ref (He.ga K "Short")) = true
  g_BadMany : mg "BadMany" = some (.ref (He.ga K "BadMany")) ∧ PySem.W.keepIn K (.ref (He.ga K "BadMany")) = true
  kt_NoneType_MeterError : PySem.W.kitOne K (.type "NoneType") (.ref (He.ga K "MeterError")) = some false
  kt_NoneType_BadRatio : PySem.W.kitOne K (.type "NoneType") (.ref (He.ga K "BadRatio")) = some false
  kt_NoneType_Short : PySem.W.kitOne K (.type "NoneType") (.ref (He.ga K "Short")) = some false
  kt_NoneType_BadMany : PySem.W.kitOne K (.type "NoneType") (.ref (He.ga K "BadMany")) = some false
  kt_int_int : PySem.W.kitOne K (.type "int") (.type "int") = some true
  kt_int_bool : PySem.W.kitOne K (.type "int") (.type "bool") = some false
  kt_int_Amount : PySem.W.kitOne K (.type "int") (.ref (He.ga K "Amount")) = some false
  kt_int_Source : PySem.W.kitOne K (.type "int") (.ref (He.ga K "Source")) = some false
  kt_bool_int : PySem.W.kitOne K (.type "bool") (.type "int") = some true
  kt_bool_bool : PySem.W.kitOne K (.type "bool") (.type "bool") = some true
  kt_bool_Amount : PySem.W.kitOne K (.type "bool") (.ref (He.ga K "Amount")) = some false
  kt_bool_Source : PySem.W.kitOne K (.type "bool") (.ref (He.ga K "Source")) = some false
  kt_tuple_int : PySem.W.kitOne K (.type "tuple") (.type "int") = some false
  kt_tuple_bool : PySem.W.kitOne K (.type "tuple") (.type "bool") = some false
  kt_tuple_tuple : PySem.W.kitOne K (.type "tuple") (.type "tuple") = some true
  kt_tuple_Amount : PySem.W.kitOne K (.type "tuple") (.ref (He.ga K "Amount")) = some false
  kt_tuple_Source : PySem.W.kitOne K (.type "tuple") (.ref (He.ga K "Source")) = some false
  kt_str_int : PySem.W.kitOne K (.type "str") (.type "int") = some false
  kt_str_bool : PySem.W.kitOne K (.type "str") (.type "bool") = some false
  kt_str_Amount : PySem.W.kitOne K (.type "str") (.ref (He.ga K "Amount")) = some false
  kt_str_Source : PySem.W.kitOne K (.type "str") (.ref (He.ga K "Source")) = some false
  kt_list_int : PySem.W.kitOne K (.type "list") (.type "int") = some false
  kt_list_bool : PySem.W.kitOne K (.type "list") (.type "bool") = some false
  kt_list_Amount : PySem.W.kitOne K (.type "list") (.ref (He.ga K "Amount")) = some false
  kt_list_Source : PySem.W.kitOne K (.type "list") (.ref (He.ga K "Source")) = some false
  kt_NoneType_int : PySem.W.kitOne K (.type "NoneType") (.type "int") = some false
  kt_NoneType_bool : PySem.W.kitOne K (.type "NoneType") (.type "bool") = some false
  kt_NoneType_Amount : PySem.W.kitOne K (.type "NoneType") (.ref (He.ga K "Amount")) = some false
  kt_NoneType_Source : PySem.W.kitOne K (.type "NoneType") (.ref (He.ga K "Source")) = some false
  kt_dict_int : PySem.W.kitOne K (.type "dict") (.type "int") = some false
  kt_dict_bool : PySem.W.kitOne K (.type "dict") (.type "bool") = some false
  kt_dict_Amount : PySem.W.kitOne K (.type "dict") (.ref (He.ga K "Amount")) = some false
  kt_dict_Source : PySem.W.kitOne K (.type "dict") (.ref (He.ga K "Source")) = some false
  ne_Source : NeF K (He.ga K "Source")
  er : ∀ x ∈ errs, ErrC K (He.ga K x) (He.ga K "MeterError") (He.ma K (He.ga K "MeterError") "__init__")
  kx : ∀ x ∈ errs, PySem.W.kitOne K (.ref (He.ga K x)) (.type "ValueError") = some true ∧ ∀ y ∈ errs, PySem.W.kitOne K (.ref (He.ga K x)) (.ref (He.ga K y)) = some (decide (x = y) || decide (y = "MeterError"))
  sm : ∃ o, K.lookup sysModules = some o ∧ o.cls = .type "dict"
  si : SupI K P.main.file (He.ga K "MeterError") (He.ma K (He.ga K "MeterError") "__init__")
  e_common : ∃ fd, FunD K "common" "common" (defArgs s_common) (defBody s_common) (defScope s_common) [] [] (He.ga K "common") fd
  e_is_integer : ∃ fd, FunD K "is_integer" "is_integer" (defArgs s_is_integer) (defBody s_is_integer) (defScope s_is_integer) [.non, .non] [] (He.ga K "is_integer") fd
  e_is_ratio : ∃ fd, FunD K "is_ratio" "is_ratio" (defArgs s_is_ratio) (defBody s_is_ratio) (defScope s_is_ratio) [] [] (He.ga K "is_ratio") fd
  e_Amount_init : ∃ fd, FunD K "__init__" "Amount.__init__" (defArgs s_Amount_init) (defBody s_Amount_init) (defScope s_Amount_init) [.int 1] [] (He.ma K (He.ga K "Amount") "__init__") fd
  e_Amount_pair : ∃ fd, FunD K "pair" "Amount.pair" (defArgs s_Amount_pair) (defBody s_Amount_pair) (defScope s_Amount_pair) [] [] (He5.wf K (He.ga K "Amount") "property" "pair") fd
  e_Amount_over : ∃ fd, FunD K "over" "Amount.over" (defArgs s_Amount_over) (defBody s_Amount_over) (defScope s_Amount_over) [] [] (He.ma K (He.ga K "Amount") "over") fd
  e_Amount_add : ∃ fd, FunD K "__add__" "Amount.__add__" (defArgs s_Amount_add) (defBody s_Amount_add) (defScope s_Amount_add) [] [] (He.ma K (He.ga K "Amount") "__add__") fd
  e_Amount_mul : ∃ fd, FunD K "__mul__" "Amount.__mul__" (defArgs s_Amount_mul) (defBody s_Amount_mul) (defScope s_Amount_mul) [] [] (He.ma K (He.ga K "Amount") "__mul__") fd
  e_Amount_eq : ∃ fd, FunD K "__eq__" "Amount.__eq__" (defArgs s_Amount_eq) (defBody s_Amount_eq) (defScope s_Amount_eq) [] [] (He.ma K (He.ga K "Amount") "__eq__") fd
  e_Amount_lt : ∃ fd, FunD K "__lt__" "Amount.__lt__" (defArgs s_Amount_lt) (defBody s_Amount_lt) (defScope s_Amount_lt) [] [] (He.ma K (He.ga K "Amount") "__lt__") fd
  e_Amount_le : ∃ fd, FunD K "__le__" "Amount.__le__" (defArgs s_Amount_le) (defBody s_Amount_le) (defScope s_Amount_le) [] [] (He.ma K (He.ga K "Amount") "__le__") fd
  e_amount_of : ∃ fd, FunD K "amount_of" "amount_of" (defArgs s_amount_of) (defBody s_amount_of) (defScope s_amount_of) [] [] (He.ga K "amount_of") fd
  e_nought : ∃ fd, FunD K "nought" "nought" (defArgs s_nought) (defBody s_nought) (defScope s_nought) [] [] (He.ga K "nought") fd
  e_unit : ∃ fd, FunD K "unit" "unit" (defArgs s_unit) (defBody s_unit) (defScope s_unit) [] [] (He.ga K "unit") fd
  e_check_ratio : ∃ fd, FunD K "check_ratio" "check_ratio" (defArgs s_check_ratio) (defBody s_check_ratio) (defScope s_check_ratio) [] [] (He.ga K "check_ratio") fd
  e_Source_init : ∃ fd, FunD K "__init__" "Source.__init__" (defArgs s_Source_init) (defBody s_Source_init) (defScope s_Source_init) [] [] (He.ma K (He.ga K "Source") "__init__") fd
  e_Source_volts : ∃ fd, FunD K "volts" "Source.volts" (defArgs s_Source_volts) (defBody s_Source_volts) (defScope s_Source_volts) [] [] (He5.wf K (He.ga K "Source") "property" "volts") fd
  e_Source_ohms : ∃ fd, FunD K "ohms" "Source.ohms" (defArgs s_Source_ohms) (defBody s_Source_ohms) (defScope s_Source_ohms) [] [] (He5.wf K (He.ga K "Source") "property" "ohms") fd
  e_Source_add : ∃ fd, FunD K "__add__" "Source.__add__" (defArgs s_Source_add) (defBody s_Source_add) (defScope s_Source_add) [] [] (He.ma K (He.ga K "Source") "__add__") fd
  e_Source_and : ∃ fd, FunD K "__and__" "Source.__and__" (defArgs s_Source_and) (defBody s_Source_and) (defScope s_Source_and) [] [] (He.ma K (He.ga K "Source") "__and__") fd
  e_Source_mul : ∃ fd, FunD K "__mul__" "Source.__mul__" (defArgs s_Source_mul) (defBody s_Source_mul) (defScope s_Source_mul) [] [] (He.ma K (He.ga K "Source") "__mul__") fd
  e_Source_rmul : ∃ fd, FunD K "__rmul__" "Source.__rmul__" (defArgs s_Source_rmul) (defBody s_Source_rmul) (defScope s_Source_rmul) [] [] (He.ma K (He.ga K "Source") "__rmul__") fd
  e_Source_eq : ∃ fd, FunD K "__eq__" "Source.__eq__" (defArgs s_Source_eq) (defBody s_Source_eq) (defScope s_Source_eq) [] [] (He.ma K (He.ga K "Source") "__eq__") fd
  e_source_of : ∃ fd, FunD K "source_of" "source_of" (defArgs s_source_of) (defBody s_source_of) (defScope s_source_of) [] [] (He.ga K "source_of") fd
  e_law_pot : ∃ fd, FunD K "_law_pot" "_law_pot" (defArgs s_law_pot) (defBody s_law_pot) (defScope s_law_pot) [] [] (He.ga K "_law_pot") fd
  e_law_take : ∃ fd, FunD K "_law_take" "_law_take" (defArgs s_law_take) (defBody s_law_take) (defScope s_law_take) [] [] (He.ga K "_law_take") fd
  e_law_of : ∃ fd, FunD K "_law_of" "_law_of" (defArgs s_law_of) (defBody s_law_of) (defScope s_law_of) [] [] (He.ga K "_law_of") fd
  e_law_cells : ∃ fd, FunD K "_law_cells" "_law_cells" (defArgs s_law_cells) (defBody s_law_cells) (defScope s_law_cells) [] [] (He.ga K "_law_cells") fd
  e_law_common : ∃ fd, FunD K "_law_common" "_law_common" (defArgs s_law_common) (defBody s_law_common) (defScope s_law_common) [] [] (He.ga K "_law_common") fd
  e_law_pair : ∃ fd, FunD K "_law_pair" "_law_pair" (defArgs s_law_pair) (defBody s_law_pair) (defScope s_law_pair) [] [] (He.ga K "_law_pair") fd
  e_law_plus : ∃ fd, FunD K "_law_plus" "_law_plus" (defArgs s_law_plus) (defBody s_law_plus) (defScope s_law_plus) [] [] (He.ga K "_law_plus") fd
  e_law_times : ∃ fd, FunD K "_law_times" "_law_times" (defArgs s_law_times) (defBody s_law_times) (defScope s_law_times) [] [] (He.ga K "_law_times") fd
  e_law_over : ∃ fd, FunD K "_law_over" "_law_over" (defArgs s_law_over) (defBody s_law_over) (defScope s_law_over) [] [] (He.ga K "_law_over") fd
  e_law_told : ∃ fd, FunD K "_law_told" "_law_told" (defArgs s_law_told) (defBody s_law_told) (defScope s_law_told) [] [] (He.ga K "_law_told") fd
  e_law_ratio : ∃ fd, FunD K "_law_ratio" "_law_ratio" (defArgs s_law_ratio) (defBody s_law_ratio) (defScope s_law_ratio) [] [] (He.ga K "_law_ratio") fd
  e_law_is_so : ∃ fd, FunD K "_law_is_so" "_law_is_so" (defArgs s_law_is_so) (defBody s_law_is_so) (defScope s_law_is_so) [] [] (He.ga K "_law_is_so") fd
  e_law_is_side_by_side : ∃ fd, FunD K "_law_is_side_by_side" "_law_is_side_by_side" (defArgs s_law_is_side_by_side) (defBody s_law_is_side_by_side) (defScope s_law_is_side_by_side) [] [] (He.ga K "_law_is_side_by_side") fd
  e_law_are_refused : ∃ fd, FunD K "_law_are_refused" "_law_are_refused" (defArgs s_law_are_refused) (defBody s_law_are_refused) (defScope s_law_are_refused) [] [] (He.ga K "_law_are_refused") fd
  e_law_pair_right : ∃ fd, FunD K "_law_pair_right" "_law_pair_right" (defArgs s_law_pair_right) (defBody s_law_pair_right) (defScope s_law_pair_right) [] [] (He.ga K "_law_pair_right") fd
  e_law : ∃ fd, FunD K "law" "law" (defArgs s_law) (defBody s_law) (defScope s_law) [] [] (He.ga K "law") fd
theorem tx_mk {K : PySem.W.Frag} {h : Heap} {mg : Str → Option Value} {w : World} (X : K.In h) (G : h.Ns mainGlobals mg) (cm : SaysM fa fx fn fs dc K w) : Tx K mg w where
  g_common := Fc.glo_ok X G (cm.x.c.fact 0 rfl)
  g_is_integer := Fc.glo_ok X G (cm.x.c.fact 1 rfl)
  g_is_ratio := Fc.glo_ok X G (cm.x.c.fact 2 rfl)
  g_amount_of := Fc.glo_ok X G (cm.x.c.fact 3 rfl)
  g_nought := Fc.glo_ok X G (cm.x.c.fact 4 rfl)
  g_unit := Fc.glo_ok X G (cm.x.c.fact 5 rfl)
  g_check_ratio := Fc.glo_ok X G (cm.x.c.fact 6 rfl)
  g_source_of := Fc.glo_ok X G (cm.x.c.fact 7 rfl)
  g_law_pot := Fc.glo_ok X G (cm.x.c.fact 8 rfl)
  g_law_take := Fc.glo_ok X G (cm.x.c.fact 9 rfl)
  g_law_of := Fc.glo_ok X G (cm.x.c.fact 10 rfl)
  g_law_cells := Fc.glo_ok X G (cm.x.c.fact 11 rfl)
  g_law_common := Fc.glo_ok X G (cm.x.c.fact 12 rfl)
  g_law_pair := Fc.glo_ok X G (cm.x.c.fact 13 rfl)
  g_law_plus := Fc.glo_ok X G (cm.x.c.fact 14 rfl)
  g_law_times := Fc.glo_ok X G (cm.x.c.fact 15 rfl)
  g_law_over := Fc.glo_ok X G (cm.x.c.fact 16 rfl)
  g_law_told := Fc.glo_ok X G (cm.x.c.fact 17 rfl)
  g_law_ratio := Fc.glo_ok X G (cm.x.c.fact 18 rfl)
  g_law_is_so := Fc.glo_ok X G (cm.x.c.fact 19 rfl)
  g_law_is_side_by_side := Fc.glo_ok X G (cm.x.c.fact 20 rfl)
  g_law_are_refused := Fc.glo_ok X G (cm.x.c.fact 21 rfl)
  g_law_pair_right := Fc.glo_ok X G (cm.x.c.fact 22 rfl)
  g_Amount := Fc.glo_ok X G (cm.x.c.fact 23 rfl)
  c_Amount := Fc.scls_ok (cm.x.c.fact 24 rfl)
  sl_Amount_bottom := Fc.slot_ok (cm.x.c.fact 25 rfl)
  sl_Amount_top := Fc.slot_ok (cm.x.c.fact 26 rfl)
  i_Amount := Fc.sisi_ok (cm.x.c.fact 27 rfl)
  sf_Amount := (cm.x.c.fact 28 rfl)
  nf_Amount := (cm.x.c.fact 29 rfl)
  kt_Amount_Amount := Fc.kit_ok (cm.x.c.fact 30 rfl)
  kt_Amount_Source := Fc.kit_ok (cm.x.c.fact 31 rfl)
  kt_Amount_int := Fc.kit_ok (cm.x.c.fact 32 rfl)
  kt_Amount_bool := Fc.kit_ok (cm.x.c.fact 33 rfl)
  g_Source := Fc.glo_ok X G (cm.x.c.fact 34 rfl)
  c_Source := Fc.scls_ok (cm.x.c.fact 35 rfl)
  sl_Source_own_ohms := Fc.slot_ok (cm.x.c.fact 36 rfl)
  sl_Source_own_volts := Fc.slot_ok (cm.x.c.fact 37 rfl)
  i_Source := Fc.sisi_ok (cm.x.c.fact 38 rfl)
  sf_Source := (cm.x.c.fact 39 rfl)
  nf_Source := (cm.x.c.fact 40 rfl)
  kt_Source_Amount := Fc.kit_ok (cm.x.c.fact 41 rfl)
  kt_Source_Source := Fc.kit_ok (cm.x.c.fact 42 rfl)
  kt_Source_int := Fc.kit_ok (cm.x.c.fact 43 rfl)
  kt_Source_bool := Fc.kit_ok (cm.x.c.fact 44 rfl)
  mk_Amount := Fc.mkr_ok (cm.x.c.fact 45 rfl)
  p_Amount_pair := Fc.prop_ok (cm.x.c.fact 46 rfl)
  m_Amount_over := Fc.meth_ok (cm.x.c.fact 47 rfl)
  o_Amount_add := Fc.own_ok (cm.x.c.fact 48 rfl)
  o_Amount_mul := Fc.own_ok (cm.x.c.fact 49 rfl)
  o_Amount_eq := Fc.own_ok (cm.x.c.fact 50 rfl)
  o_Amount_lt := Fc.own_ok (cm.x.c.fact 51 rfl)
  o_Amount_le := Fc.own_ok (cm.x.c.fact 52 rfl)
  mk_Source := Fc.mkr_ok (cm.x.c.fact 53 rfl)
  p_Source_volts := Fc.prop_ok (cm.x.c.fact 54 rfl)
  p_Source_ohms := Fc.prop_ok (cm.x.c.fact 55 rfl)
  o_Source_add := Fc.own_ok (cm.x.c.fact 56 rfl)
  o_Source_and := Fc.own_ok (cm.x.c.fact 57 rfl)
  o_Source_mul := Fc.own_ok (cm.x.c.fact 58 rfl)
  o_Source_rmul := Fc.own_ok (cm.x.c.fact 59 rfl)
  o_Source_eq := Fc.own_ok (cm.x.c.fact 60 rfl)
  f_abs := Fc.free_ok X G (cm.x.c.fact 61 rfl)
  f_all := Fc.free_ok X G (cm.x.c.fact 62 rfl)
  f_bool := Fc.free_ok X G (cm.x.c.fact 63 rfl)
  f_int := Fc.free_ok X G (cm.x.c.fact 64 rfl)
  f_isinstance := Fc.free_ok X G (cm.x.c.fact 65 rfl)
  f_len := Fc.free_ok X G (cm.x.c.fact 66 rfl)
  f_list := Fc.free_ok X G (cm.x.c.fact 67 rfl)
  f_max := Fc.free_ok X G (cm.x.c.fact 68 rfl)
  f_min := Fc.free_ok X G (cm.x.c.fact 69 rfl)
  f_range := Fc.free_ok X G (cm.x.c.fact 70 rfl)
  f_repr := Fc.free_ok X G (cm.x.c.fact 71 rfl)
  f_super := Fc.free_ok X G (cm.x.c.fact 72 rfl)
  f_tuple := Fc.free_ok X G (cm.x.c.fact 73 rfl)
  v_PAIR := Fc.int_ok X G (cm.x.c.fact 74 rfl)
  g_MeterError := Fc.glo_ok X G (cm.x.c.fact 75 rfl)
  g_BadRatio := Fc.glo_ok X G (cm.x.c.fact 76 rfl)
  g_Short := Fc.glo_ok X G (cm.x.c.fact 77 rfl)
  g_BadMany := Fc.glo_ok X G (cm.x.c.fact 78 rfl)
  kt_NoneType_MeterError := Fc.kit_ok (cm.x.c.fact 79 rfl)
  kt_NoneType_BadRatio := Fc.kit_ok (cm.x.c.fact 80 rfl)
  kt_NoneType_Short := Fc.kit_ok (cm.x.c.fact 81 rfl)
  kt_NoneType_BadMany := Fc.kit_ok (cm.x.c.fact 82 rfl)
  kt_int_int := Fc.kit_ok (cm.x.c.fact 83 rfl)
  kt_int_bool := Fc.kit_ok (cm.x.c.fact 84 rfl)
  kt_int_Amount := Fc.kit_ok (cm.x.c.fact 85 rfl)
  kt_int_Source := Fc.kit_ok (cm.x.c.fact 86 rfl)
  kt_bool_int := Fc.kit_ok (cm.x.c.fact 87 rfl)
  kt_bool_bool := Fc.kit_ok (cm.x.c.fact 88 rfl)
  kt_bool_Amount := Fc.kit_ok (cm.x.c.fact 89 rfl)
  kt_bool_Source := Fc.kit_ok (cm.x.c.fact 90 rfl)
  kt_tuple_int := Fc.kit_ok (cm.x.c.fact 91 rfl)
  kt_tuple_bool := Fc.kit_ok (cm.x.c.fact 92 rfl)
  kt_tuple_tuple := Fc.kit_ok (cm.x.c.fact 93 rfl)
  kt_tuple_Amount := Fc.kit_ok (cm.x.c.fact 94 rfl)
  kt_tuple_Source := Fc.kit_ok (cm.x.c.fact 95 rfl)
  kt_str_int := Fc.kit_ok (cm.x.c.fact 96 rfl)
  kt_str_bool := Fc.kit_ok (cm.x.c.fact 97 rfl)
  kt_str_Amount := Fc.kit_ok (cm.x.c.fact 98 rfl)
  kt_str_Source := Fc.kit_ok (cm.x.c.fact 99 rfl)
  kt_list_int := Fc.kit_ok (cm.x.c.fact 100 rfl)
  kt_list_bool := Fc.kit_ok (cm.x.c.fact 101 rfl)
  kt_list_Amount := Fc.kit_ok (cm.x.c.fact 102 rfl)
  kt_list_Source := Fc.kit_ok (cm.x.c.fact 103 rfl)
  kt_NoneType_int := Fc.kit_ok (cm.x.c.fact 104 rfl)
  kt_NoneType_bool := Fc.kit_ok (cm.x.c.fact 105 rfl)
  kt_NoneType_Amount := Fc.kit_ok (cm.x.c.fact 106 rfl)
  kt_NoneType_Source := Fc.kit_ok (cm.x.c.fact 107 rfl)
  kt_dict_int := Fc.kit_ok (cm.x.c.fact 108 rfl)
  kt_dict_bool := Fc.kit_ok (cm.x.c.fact 109 rfl)
  kt_dict_Amount := Fc.kit_ok (cm.x.c.fact 110 rfl)
  kt_dict_Source := Fc.kit_ok (cm.x.c.fact 111 rfl)
  ne_Source := Fc.nei_ok (cm.x.c.fact 112 rfl)
  er := Fx.errs_ok (cm.x.factX 0 rfl)
  kx := Fx.kits_ok (cm.x.factX 1 rfl)
  sm := Fx.sysm_ok (cm.x.factX 2 rfl)
  si := supI_of (cm.x.defX 0 (d := d_err_init) rfl) (cm.x.factX 3 rfl) init_ok
  e_common := cm.x.c.def_ 0 (d := d_common) rfl
  e_is_integer := cm.x.c.def_ 1 (d := d_is_integer) rfl
  e_is_ratio := cm.x.c.def_ 2 (d := d_is_ratio) rfl
  e_Amount_init := cm.x.c.def_ 3 (d := d_Amount_init) rfl
  e_Amount_pair := cm.x.c.def_ 4 (d := d_Amount_pair) rfl
  e_Amount_over := cm.x.c.def_ 5 (d := d_Amount_over) rfl
  e_Amount_add := cm.x.c.def_ 6 (d := d_Amount_add) rfl
  e_Amount_mul := cm.x.c.def_ 7 (d := d_Amount_mul) rfl
  e_Amount_eq := cm.x.c.def_ 8 (d := d_Amount_eq) rfl
  e_Amount_lt := cm.x.c.def_ 9 (d := d_Amount_lt) rfl
  e_Amount_le := cm.x.c.def_ 10 (d := d_Amount_le) rfl
  e_amount_of := cm.x.c.def_ 11 (d := d_amount_of) rfl
  e_nought := cm.x.c.def_ 12 (d := d_nought) rfl
  e_unit := cm.x.c.def_ 13 (d := d_unit) rfl
  e_check_ratio := cm.x.c.def_ 14 (d := d_check_ratio) rfl
  e_Source_init := cm.x.c.def_ 15 (d := d_Source_init) rfl
  e_Source_volts := cm.x.c.def_ 16 (d := d_Source_volts) rfl
  e_Source_ohms := cm.x.c.def_ 17 (d := d_Source_ohms) rfl
  e_Source_add := cm.x.c.def_ 18 (d := d_Source_add) rfl
  e_Source_and := cm.x.c.def_ 19 (d := d_Source_and) rfl
  e_Source_mul := cm.x.c.def_ 20 (d := d_Source_mul) rfl
  e_Source_rmul := cm.x.c.def_ 21 (d := d_Source_rmul) rfl
  e_Source_eq := cm.x.c.def_ 22 (d := d_Source_eq) rfl
  e_source_of := cm.x.c.def_ 23 (d := d_source_of) rfl
  e_law_pot := cm.x.c.def_ 24 (d := d_law_pot) rfl
  e_law_take := cm.x.c.def_ 25 (d := d_law_take) rfl
  e_law_of := cm.x.c.def_ 26 (d := d_law_of) rfl
  e_law_cells := cm.x.c.def_ 27 (d := d_law_cells) rfl
  e_law_common := cm.x.c.def_ 28 (d := d_law_common) rfl
  e_law_pair := cm.x.c.def_ 29 (d := d_law_pair) rfl
  e_law_plus := cm.x.c.def_ 30 (d := d_law_plus) rfl
  e_law_times := cm.x.c.def_ 31 (d := d_law_times) rfl
  e_law_over := cm.x.c.def_ 32 (d := d_law_over) rfl
  e_law_told := cm.x.c.def_ 33 (d := d_law_told) rfl
  e_law_ratio := cm.x.c.def_ 34 (d := d_law_ratio) rfl
  e_law_is_so := cm.x.c.def_ 35 (d := d_law_is_so) rfl
  e_law_is_side_by_side := cm.x.c.def_ 36 (d := d_law_is_side_by_side) rfl
  e_law_are_refused := cm.x.c.def_ 37 (d := d_law_are_refused) rfl
  e_law_pair_right := cm.x.c.def_ 38 (d := d_law_pair_right) rfl
  e_law := cm.x.c.def_ 39 (d := d_law) rfl
def errB : Nat → Bool
  | 30 => true
  | 31 => true
  | 32 => true
  | 33 => true
  | _ => false
theorem er_ok {K : PySem.W.Frag} {mg : Str → Option Value} {w : World} (T : Tx K mg w) : ∀ n, errB n = true → ErrC K ((Cs K w) n) (He.ga K "MeterError") (He.ma K (He.ga K "MeterError") "__init__")
  | 30, _ => T.er "MeterError" (by decide)
  | 31, _ => T.er "BadRatio" (by decide)
  | 32, _ => T.er "Short" (by decide)
  | 33, _ => T.er "BadMany" (by decide)
theorem ie_Short {K : PySem.W.Frag} {mg : Str → Option Value} {w : World} (T : Tx K mg w) : ∀ n, errB n = true → ExcC K ((Cs K w) n) ∧ PySem.W.kitOne K (.ref ((Cs K w) n)) (.ref ((Cs K w) 32)) = some (Nat.beq n 32 || Nat.beq 32 30)
  | 30, _ => ⟨(T.er "MeterError" (by decide)).ex, ((T.kx "MeterError" (by decide)).2 "Short" (by decide)).trans (by decide +kernel)⟩
  | 31, _ => ⟨(T.er "BadRatio" (by decide)).ex, ((T.kx "BadRatio" (by decide)).2 "Short" (by decide)).trans (by decide +kernel)⟩
  | 32, _ => ⟨(T.er "Short" (by decide)).ex, ((T.kx "Short" (by decide)).2 "Short" (by decide)).trans (by decide +kernel)⟩
  | 33, _ => ⟨(T.er "BadMany" (by decide)).ex, ((T.kx "BadMany" (by decide)).2 "Short" (by decide)).trans (by decide +kernel)⟩
theorem ie_BadMany {K : PySem.W.Frag} {mg : Str → Option Value} {w : World} (T : Tx K mg w) : ∀ n, errB n = true → ExcC K ((Cs K w) n) ∧ PySem.W.kitOne K (.ref ((Cs K w) n)) (.ref ((Cs K w) 33)) = some (Nat.beq n 33 || Nat.beq 33 30)
  | 30, _ => ⟨(T.er "MeterError" (by decide)).ex, ((T.kx "MeterError" (by decide)).2 "BadMany" (by decide)).trans (by decide +kernel)⟩
  | 31, _ => ⟨(T.er "BadRatio" (by decide)).ex, ((T.kx "BadRatio" (by decide)).2 "BadMany" (by decide)).trans (by decide +kernel)⟩
  | 32, _ => ⟨(T.er "Short" (by decide)).ex, ((T.kx "Short" (by decide)).2 "BadMany" (by decide)).trans (by decide +kernel)⟩
  | 33, _ => ⟨(T.er "BadMany" (by decide)).ex, ((T.kx "BadMany" (by decide)).2 "BadMany" (by decide)).trans (by decide +kernel)⟩
def tf : Tf := [(("_law_is_side_by_side", none), lamQ "_law_is_side_by_side"), (("_law_are_refused", none), lamQ "_law_are_refused")]
class TbC (K : PySem.W.Frag) (mg : Str → Option Value) (base : Heap) : Prop where
  ok : ∀ p ∈ tf, LamX.TabB base mg (He.cT K p.1).1 (tabA K p)
/-- the tables of code objects are ours -/
structure Tabs (K : PySem.W.Frag) (M : Mem) : Prop where
  t_law_is_side_by_side : M (tabA K (("_law_is_side_by_side", none), lamQ "_law_is_side_by_side")) = some (.tab (lamQ "_law_is_side_by_side"))
  t_law_are_refused : M (tabA K (("_law_are_refused", none), lamQ "_law_are_refused")) = some (.tab (lamQ "_law_are_refused"))
theorem Tabs.put {K : PySem.W.Frag} {M : Mem} (t : Tabs K M) {q : Addr} {n : MO} (h : M q = none) : Tabs K (put M q n) := ⟨by rw [put_ne (fun z => by rw [← z, t.t_law_is_side_by_side] at h; cases h)]; exact t.t_law_is_side_by_side, by rw [put_ne (fun z => by rw [← z, t.t_law_are_refused] at h; cases h)]; exact t.t_law_are_refused⟩
theorem Tabs.of {K : PySem.W.Frag} {M : Mem} (h : ∀ p ∈ tf, M (tabA K p) = some (.tab p.2)) : Tabs K M := ⟨h _ (List.mem_of_getElem? (i := 0) rfl), h _ (List.mem_of_getElem? (i := 1) rfl)⟩
/-! ### the run of the top -/
abbrev R : PySem.W.OpenRow := PySem.W.OpenLaw.row PySem.Challenge.rw_rangehunt_k02_sources_put_together
def ln0 : List PySem.Str := ["_wall", "PAIR", "common", "is_integer", "is_ratio", "Amount", "amount_of", "nought", "unit", "MeterError", "BadRatio", "Short", "BadMany", "check_ratio", "Source", "source_of", "share_beside", "read_beside", "is_as_strong", "_law_pot", "_law_take", "_law_of", "_law_cells", "_law_common", "_law_pair", "_law_plus", "_law_times", "_law_over", "_law_told", "_law_ratio"]
def ln1 : List PySem.Str := ["_law_is_so", "_law_is_side_by_side", "_law_are_refused", "_law_pair_right"]
def loose : List PySem.Str := ln0 ++ ln1
def lawAt : Nat := 38
end Lw
namespace Lw
open PySem PySem.Spec PyProof.Rows L2 DL
def asL : List Addr := (List.range 456).filter fun a => !([8, 16, 23, 31, 38, 54, 61, 69, 76, 83, 90, 97, 104, 111, 118, 125, 133, 140, 147, 163, 179, 191, 203, 212, 227, 234, 242, 250, 257, 264, 271, 278, 285, 292, 299, 306, 313, 321, 328, 335, 342, 349, 356, 363, 370, 377, 384, 391, 398, 405, 412, 419, 426, 433, 440, 447, 452] : List Nat).contains a
abbrev hkN : PySem.W.Hook := hookT asL fa fx fn fs dc tf
def obN (s : PySem.W.SharedT) : AlTT := obsTG asL fa fx fn fs dc tf (HandSHeadRun.getT s)
theorem obN_eq (s : PySem.W.SharedT) : obN s = hkN.obs s.abs := obsTG_eq (HandSHeadRun.getT_eq s)
theorem run (w : World) : HandSHeadRun.RunEq R (PySem.W.view R.prog [lawAt]) hkN obN 12000 loose w := by
  intro os
  kernel_rfl
end Lw
/-! ### repr of data with dicts -/
namespace DL
open PySem PySem.Spec PyProof.Rows L2
def keyPy : Key → PyData
  | .inl i => .int i
  | .inr x => .str x
def keyC : Key → Nat
  | .inl _ => 1921
  | .inr x => (reprText x).length
def zipPy : List Key → List PyData → List (PyData × PyData)
  | k :: ks, d :: ds => (keyPy k, d) :: zipPy ks ds
  | _, _ => []
mutual
def _root_.DL.D.pz : D → PyData
  | .non => .none
  | .bl b => .bool b
  | .int i => .int i
  | .str x => .str x
  | .tup ds => .tuple (pzs ds)
  | .lst ds => .list (pzs ds)
  | .dct ks ds => .dict (zipPy ks (pzs ds))
  | _ => .none
def pzs : List D → List PyData
  | [] => []
  | d :: ds => d.pz :: pzs ds
end
/-- all that repr asks: n deep, c long at most -/
inductive Shz : Nat → Nat → D → Prop
  | non {n c : Nat} (h : 5 ≤ c) : Shz n c .non
  | bl {n c : Nat} (b : Bool) (h : 5 ≤ c) : Shz n c (.bl b)
  | int {n c : Nat} (i : Int) (hi : i.natAbs < 2 ^ 1900) (h : 1921 ≤ c) : Shz n c (.int i)
  | str {n c : Nat} (x : Str) (h : (reprText x).length ≤ c) : Shz n c (.str x)
  | tup {n c k : Nat} {ds : List D} (h : ∀ d ∈ ds, Shz n k d) (hc : 3 + ds.length * (k + 2) ≤ c) : Shz (n + 1) c (.tup ds)
  | lst {n c k : Nat} {ds : List D} (h : ∀ d ∈ ds, Shz n k d) (hc : 3 + ds.length * (k + 2) ≤ c) : Shz (n + 1) c (.lst ds)
  | dct {n c k : Nat} {ks : List Key} {ds : List D} (h : ∀ d ∈ ds, Shz n k d) (hk : ∀ q ∈ ks, keyC q ≤ k ∧ ∀ i, q = .inl i → i.natAbs < 2 ^ 1900) (hl : ks.length = ds.length) (hc : 3 + ds.length * (2 * k + 4) ≤ c) : Shz (n + 1) c (.dct ks ds)
theorem Shz.mono {n c : Nat} {d : D} (s : Shz n c d) : ∀ {n' c' : Nat}, n ≤ n' → c ≤ c' → Shz n' c' d := by
  induction s with
  | non h => intro n' c' h1 h2; exact .non (by omega)
  | bl b h => intro n' c' h1 h2; exact .bl b (by omega)
  | int i hi h => intro n' c' h1 h2; exact .int i hi (by omega)
  | str x h => intro n' c' h1 h2; exact .str x (by omega)
  | tup h hc ih =>
    intro n' c' h1 h2
    obtain ⟨m, rfl⟩ : ∃ m, n' = m + 1 := ⟨n' - 1, by omega⟩
    exact .tup (fun d hd => ih d hd (by omega) (Nat.le_refl _)) (by omega)
  | lst h hc ih =>
    intro n' c' h1 h2
    obtain ⟨m, rfl⟩ : ∃ m, n' = m + 1 := ⟨n' - 1, by omega⟩
    exact .lst (fun d hd => ih d hd (by omega) (Nat.le_refl _)) (by omega)
  | dct h hk hl hc ih =>
    intro n' c' h1 h2
    obtain ⟨m, rfl⟩ : ∃ m, n' = m + 1 := ⟨n' - 1, by omega⟩
    exact .dct (fun d hd => ih d hd (by omega) (Nat.le_refl _)) hk hl (by omega)
theorem pzs_all {p : PyData → Prop} : ∀ {ds : List D}, (∀ d ∈ ds, p d.pz) → ∀ x ∈ pzs ds, p x
  | [], _, x, hx => by rw [pzs] at hx; cases hx
  | d :: ds, h, x, hx => by
    rw [pzs] at hx
    rcases List.mem_cons.mp hx with rfl | hx
    · exact h d List.mem_cons_self
    · exact pzs_all (fun y hy => h y (List.mem_cons_of_mem _ hy)) x hx
theorem pzs_length : ∀ (ds : List D), (pzs ds).length = ds.length
  | [] => by rw [pzs]; rfl
  | d :: ds => by rw [pzs, List.length_cons, List.length_cons, pzs_length ds]
structure ShP (n c : Nat) (x : PyData) : Prop where
  sh : x.showable = true
  dp : x.depth ≤ n
  le : x.shown.length ≤ c
theorem shp_all {n k : Nat} : ∀ {xs : List PyData}, (∀ x ∈ xs, ShP n k x) → PyData.showableAll xs = true ∧ PyData.depthAll xs ≤ n ∧ piled (PyData.shownAll xs) ≤ xs.length * (k + 2)
  | [], _ => ⟨by rw [PyData.showableAll], by rw [PyData.depthAll]; exact Nat.zero_le _, by rw [PyData.shownAll]; exact Nat.zero_le _⟩
  | x :: xs, h => by
    obtain ⟨h1, h2, h3⟩ := shp_all (xs := xs) fun y hy => h y (List.mem_cons_of_mem _ hy)
    have hx := h x List.mem_cons_self
    refine ⟨by rw [PyData.showableAll, hx.sh, h1]; rfl, ?_, ?_⟩
    · rw [PyData.depthAll]
      have := hx.dp
      omega
    · rw [PyData.shownAll, piled_cons, List.length_cons, Nat.succ_mul]
      have := hx.le
      omega
theorem int_le {i : Int} (h : i.natAbs < 2 ^ 1900) : ShP 0 1921 (.int i) := by
  have l := log_lt h (by decide)
  refine ⟨by rw [PyData.showable]; exact decide_eq_true l, by rw [PyData.depth]; exact Nat.zero_le _, ?_⟩
  rw [PyData.shown]
  have := int_text_length_le (k := 1920) (by decide) l
  rw [PySem.ofString_length]
  omega
theorem key_le {q : Key} {k : Nat} (h : keyC q ≤ k) (hi : ∀ i, q = .inl i → i.natAbs < 2 ^ 1900) : ShP 0 k (keyPy q) := by
  cases q with
  | inl i =>
    have z := int_le (hi i rfl)
    exact ⟨z.sh, z.dp, Nat.le_trans z.le h⟩
  | inr x => exact ⟨by show PyData.showable (.str x) = true; rw [PyData.showable], by show PyData.depth (.str x) ≤ 0; rw [PyData.depth]; exact Nat.zero_le _, by show (PyData.shown (.str x)).length ≤ k; rw [PyData.shown]; exact h⟩
theorem shp_kv {n k : Nat} : ∀ {ks : List Key} {xs : List PyData}, (∀ x ∈ xs, ShP n k x) → (∀ q ∈ ks, keyC q ≤ k ∧ ∀ i, q = .inl i → i.natAbs < 2 ^ 1900) → PyData.showableKv (zipPy ks xs) = true ∧ PyData.depthKv (zipPy ks xs) ≤ n ∧ piled (PyData.shownKv (zipPy ks xs)) ≤ xs.length * (2 * k + 4)
  | [], _, _, _ => by unfold zipPy; exact ⟨by rw [PyData.showableKv], by rw [PyData.depthKv]; exact Nat.zero_le _, by rw [PyData.shownKv]; exact Nat.zero_le _⟩
  | _ :: _, [], _, _ => by unfold zipPy; exact ⟨by rw [PyData.showableKv], by rw [PyData.depthKv]; exact Nat.zero_le _, by rw [PyData.shownKv]; exact Nat.zero_le _⟩
  | q :: ks, x :: xs, h, hk => by
    obtain ⟨h1, h2, h3⟩ := shp_kv (ks := ks) (xs := xs) (fun y hy => h y (List.mem_cons_of_mem _ hy)) (fun y hy => hk y (List.mem_cons_of_mem _ hy))
    have hx := h x List.mem_cons_self
    obtain ⟨k1, k2⟩ := hk q List.mem_cons_self
    have hq := key_le k1 k2
    unfold zipPy
    refine ⟨by rw [PyData.showableKv, hq.sh, hx.sh, h1]; rfl, ?_, ?_⟩
    · rw [PyData.depthKv]
      have := hx.dp
      have := hq.dp
      omega
    · rw [PyData.shownKv, piled_cons, List.length_cons, Nat.succ_mul, strLen_append, strLen_append]
      have := hx.le
      have := hq.le
      have e : ((": " : String) : Str).length = 2 := rfl
      omega
theorem dictText_le (ps : List Str) : (dictText ps).length ≤ 2 + piled ps := by
  have e : (dictText ps).length = 1 + (Str.join ", " ps).length + 1 := by
    unfold dictText
    rw [strLen_append, strLen_append]; rfl
  by_cases h : ps = []
  · subst h
    have : (Str.join ", " ([] : List Str)).length = 0 := rfl
    omega
  · have := join_length_add ps h
    omega
theorem Shz.p {n c : Nat} {d : D} (s : Shz n c d) : ShP n c d.pz := by
  induction s with
  | non h => rw [D.pz]; exact ⟨by rw [PyData.showable], by rw [PyData.depth]; exact Nat.zero_le _, by rw [PyData.shown]; exact Nat.le_trans (by decide) h⟩
  | bl b h => rw [D.pz]; exact ⟨by rw [PyData.showable], by rw [PyData.depth]; exact Nat.zero_le _, by rw [PyData.shown]; exact Nat.le_trans (by cases b <;> decide) h⟩
  | int i hi h =>
    have z := int_le hi
    rw [D.pz]
    exact ⟨z.sh, Nat.le_trans z.dp (Nat.zero_le _), Nat.le_trans z.le h⟩
  | str x h => rw [D.pz]; exact ⟨by rw [PyData.showable], by rw [PyData.depth]; exact Nat.zero_le _, by rw [PyData.shown]; exact h⟩
  | tup h hc ih =>
    obtain ⟨h1, h2, h3⟩ := shp_all (pzs_all ih)
    rw [pzs_length] at h3
    rw [D.pz]
    refine ⟨by rw [PyData.showable]; exact h1, by rw [PyData.depth]; omega, ?_⟩
    rw [PyData.shown]
    exact Nat.le_trans (tupleText_le _) (by omega)
  | lst h hc ih =>
    obtain ⟨h1, h2, h3⟩ := shp_all (pzs_all ih)
    rw [pzs_length] at h3
    rw [D.pz]
    refine ⟨by rw [PyData.showable]; exact h1, by rw [PyData.depth]; omega, ?_⟩
    rw [PyData.shown]
    exact Nat.le_trans (listText_le _) (by omega)
  | dct h hk hl hc ih =>
    obtain ⟨h1, h2, h3⟩ := shp_kv (pzs_all ih) hk
    rw [pzs_length] at h3
    rw [D.pz]
    refine ⟨by rw [PyData.showable]; exact h1, by rw [PyData.depth]; omega, ?_⟩
    rw [PyData.shown]
    exact Nat.le_trans (dictText_le _) (by omega)
section
variable {Cs : Gc} {X : Cx} {pins : List (Addr × Obj)} {σ : L2.St} {H : Hp} {s : Shared} {Z : Addr → Prop}
theorem keys_read {P : Program} {w : World} {h : Heap} : ∀ {es : List DictEntry} {kvs : List (Key × Value)} {xs : List PyData}, Pairs (mixKind P w) es kvs → xs.length = kvs.length → ReadsAll h (es.map (·.key)) ((zipPy (kvs.map (·.1)) xs).map (·.1)) [] ∧ (zipPy (kvs.map (·.1)) xs).map (·.2) = xs ∧ es.map (·.val) = kvs.map (·.2)
  | _, _, xs, .nil, h => by
    have e : xs = [] := by simpa using h
    subst e
    exact ⟨.nil, rfl, rfl⟩
  | _, _, [], .cons _ _ _, h => by simp at h
  | e :: es, kv :: kvs, x :: xs, .cons hk hv r, h => by
    obtain ⟨h1, h2, h3⟩ := keys_read (h := _) (xs := xs) r (by simpa using h)
    refine ⟨?_, ?_, ?_⟩
    · show ReadsAll _ (e.key :: _) (keyPy kv.1 :: _) ([] ++ [])
      refine .cons ?_ h1
      rcases keyIs_shape hk with ⟨i, t, e1, e2⟩ | ⟨y, t, e1, e2⟩
      · rw [e1, e2]; exact .int i t
      · rw [e1, e2]; exact .str y t
    · show x :: _ = x :: xs
      exact congrArg _ h2
    · show e.val :: _ = kv.2 :: _
      rw [hv, h3]
theorem kv_split : ∀ {ks : List Key} {vs : List V} {kvs : List (Key × Value)}, KV (ks.zip vs) kvs → ks.length = vs.length → kvs.map (·.1) = ks ∧ Vals vs (kvs.map (·.2))
  | [], [], _, h, _ => by cases h; exact ⟨rfl, .nil⟩
  | [], _ :: _, _, _, h => by simp at h
  | _ :: _, [], _, _, h => by simp at h
  | k :: ks, v :: vs, _, h, hl => by
    rw [List.zip_cons_cons] at h
    cases h with
    | cons h1 h2 =>
      obtain ⟨e1, e2⟩ := kv_split (ks := ks) (vs := vs) h2 (by simpa using hl)
      obtain ⟨z1, z2⟩ := h1
      refine ⟨?_, .cons z2 e2⟩
      rw [List.map_cons, e1, ← z1]
mutual
theorem Rep.readz (I : Inv X pins σ H s) (hs : ∃ o, X.K.lookup sysModules = some o ∧ o.cls = .type "dict") : ∀ {v : V} {d : D} {n c : Nat}, Rep Cs Z H v d → Shz n c d → ∀ {u : Value}, RelV v u → ∃ as, Reads s.heap u d.pz as ∧ sysModules ∉ as
  | _, _, _, _, .non, _, u, ru => by cases ru; rw [D.pz]; exact ⟨_, .none, by simp⟩
  | _, _, _, _, .bl b, _, u, ru => by cases ru; rw [D.pz]; exact ⟨_, .bool b, by simp⟩
  | _, _, _, _, .int i, _, u, ru => by obtain ⟨t, rfl⟩ := ru; rw [D.pz]; exact ⟨_, .int i t, by simp⟩
  | _, _, _, _, .str x, _, u, ru => by obtain ⟨t, rfl⟩ := ru; rw [D.pz]; exact ⟨_, .str x t, by simp⟩
  | _, _, _, _, .ty n, h, _, _ => by cases h
  | _, _, _, _, .ref a, h, _, _ => by cases h
  | _, _, _, _, .tup hz hr rs, h, u, ru => by
    cases ru
    cases h with
    | tup h hc =>
      obtain ⟨_, its, rv, o, ho, hcl, n, hd⟩ := hr.ok I.hok
      obtain ⟨as, q1, q2⟩ := Reps.readz I hs rs h rv
      rw [D.pz]
      exact ⟨as, .tuple ho hcl hd q1, q2⟩
  | _, _, _, _, .lst hz hr rs, h, u, ru => by
    cases ru
    cases h with
    | lst h hc =>
      obtain ⟨_, its, n, rv, ho⟩ := hr.ok I.hok
      obtain ⟨as, q1, q2⟩ := Reps.readz I hs rs h rv
      rw [D.pz]
      refine ⟨_, .list ho rfl rfl q1, fun z => ?_⟩
      rcases List.mem_cons.mp z with z | z
      · obtain ⟨o, lo, hc⟩ := hs
        have e := I.kIn _ _ lo
        rw [z, ho] at e
        cases e
        exact absurd (Value.type.inj hc) (by decide)
      · exact q2 z
  | _, _, _, _, .obj _ _ _ _ _, h, _, _ => by cases h
  | _, _, _, _, .dct (ks := ks) (ds := ds) hz hr hl rs, h, u, ru => by
    cases ru
    cases h with
    | dct h hk hl2 hc =>
      obtain ⟨_, hsm, kvs, hkv, o, es, ep, ho, hex, hd, _, hp, _⟩ := hr.ok I.hok
      obtain ⟨e1, e2⟩ := kv_split hkv hl
      obtain ⟨as, q1, q2⟩ := Reps.readz I hs rs h e2
      have hlen : (pzs ds).length = kvs.length := by
        rw [pzs_length, ← hl2, ← e1, List.length_map]
      obtain ⟨k1, k2, k3⟩ := keys_read (h := s.heap) (xs := pzs ds) hp hlen
      rw [e1] at k1 k2
      rw [D.pz]
      refine ⟨_, .dict ho hex.1 hd k1 (by rw [k2, k3]; exact q1), fun z => ?_⟩
      rcases List.mem_append.mp z with z | z
      · rcases List.mem_cons.mp z with z | z
        · rw [← z] at hsm
          exact absurd hsm (by simp)
        · cases z
      · exact q2 z
  | _, _, _, _, .exc _ _ _ _ _, h, _, _ => by cases h
  | _, _, _, _, .fn _ _ _ _, h, _, _ => by cases h
theorem Reps.readz (I : Inv X pins σ H s) (hs : ∃ o, X.K.lookup sysModules = some o ∧ o.cls = .type "dict") : ∀ {vs : List V} {ds : List D} {n c : Nat}, Reps Cs Z H vs ds → (∀ d ∈ ds, Shz n c d) → ∀ {us : List Value}, Vals vs us → ∃ as, ReadsAll s.heap us (pzs ds) as ∧ sysModules ∉ as
  | _, _, _, _, .nil, _, us, ru => by cases ru; rw [pzs]; exact ⟨_, .nil, by simp⟩
  | _, _, _, _, .cons h r, hd, us, ru => by
    cases ru with
    | cons r1 r2 =>
      obtain ⟨as, q1, q2⟩ := Rep.readz I hs h (hd _ List.mem_cons_self) r1
      obtain ⟨bs, q3, q4⟩ := Reps.readz I hs r (fun d h => hd d (List.mem_cons_of_mem _ h)) r2
      rw [pzs]
      exact ⟨_, .cons q1 q3, fun z => (List.mem_append.mp z).elim q2 q4⟩
end
end
section
variable {Cs : Gc} {X : Cx} {ρ : Env} {M : Mem} {Φ : D → Mem → Prop}
theorem wc_reprZ {d : D} {k n c : Nat} (hs : ∃ o, X.K.lookup sysModules = some o ∧ o.cls = .type "dict") (hr : Rm k X.A) (z : Shz n c d) (hn : n ≤ 60) (hc : c ≤ 16000000) (h : Φ (.str d.pz.shown) M) : WC Cs X (.builtin "repr") [d] M Φ := .mk fun F H vs m rs Q k pins s σ us I rv => by
  obtain ⟨v, rfl, r⟩ := reps1 rs
  obtain ⟨u, rfl, ru⟩ := rv.one
  obtain ⟨as, rd, hna⟩ := Rep.readz I hs r z ru
  have sp := z.p
  have h5 : d.pz.shown.length ≤ sizeLine := by rw [sizeLine_eq]; have := sp.le; omega
  have h4 : d.pz.depth ≤ 60 := Nat.le_trans sp.dp hn
  have hu := hr.rm.units
  cases r with
  | non =>
    cases ru
    exact P.repr_of_none ⟨.str "None", H, I.tok _, ⟨_, rfl⟩, k.here m (.str _) (by simpa [D.pz, PyData.shown] using h)⟩
  | bl b =>
    cases ru
    exact P.repr_of_bool ⟨.str (if b then "True" else "False"), H, I.tok _, ⟨_, rfl⟩, k.here m (.str _) (by simpa [D.pz, PyData.shown] using h)⟩
  | int i =>
    obtain ⟨t, rfl⟩ := ru
    exact P.repr_of_int (by simpa [D.pz, PyData.showable] using sp.sh) ⟨.str (toString i), H, I.tok _, ⟨_, rfl⟩, k.here m (.str _) (by simpa [D.pz, PyData.shown] using h)⟩
  | str x =>
    obtain ⟨t, rfl⟩ := ru
    exact P.repr_of_str ⟨.str (reprText x), H, I.tok _, ⟨_, rfl⟩, k.here m (.str _) (by simpa [D.pz, PyData.shown] using h)⟩ (by simpa [D.pz, PyData.shown] using h5)
  | ty n => cases z
  | ref a => cases z
  | obj => cases z
  | exc => cases z
  | fn => cases z
  | tup hz hr' rs =>
    cases ru
    exact repr_of_reads' rd sp.sh (fun _ => hna) hr.gd (by omega) (fun _ _ z => z) (fun h' u tk hk => ⟨.str _, H, I.kept hk, ⟨u, rfl⟩, k.here m (.str _) h⟩) h5
  | lst hz hr' rs =>
    cases ru
    exact repr_of_reads' rd sp.sh (fun _ => hna) hr.gd (by omega) (fun _ _ z => z) (fun h' u tk hk => ⟨.str _, H, I.kept hk, ⟨u, rfl⟩, k.here m (.str _) h⟩) h5
  | dct hz hr' hl rs =>
    cases ru
    exact repr_of_reads' rd sp.sh (fun _ => hna) hr.gd (by omega) (fun _ _ z => z) (fun h' u tk hk => ⟨.str _, H, I.kept hk, ⟨u, rfl⟩, k.here m (.str _) h⟩) h5
end
end DL
namespace DL
open PySem PySem.Spec PyProof.Rows L2
end DL
/-! ### parts with a step, stars -/
namespace DL
open PySem PySem.Spec PyProof.Rows L2
end DL
/-! ### own == against what is no object; None in a list of objects -/
namespace DL
open PySem PySem.Spec PyProof.Rows L2
/-- no instance of an own class -/
def D.noO : D → Bool
  | .obj _ _ => false
  | .ref _ => false
  | .ty _ => false
  | .exc _ _ => false
  | .fn _ _ _ => false
  | _ => true
section
variable {Cs : Gc} {X : Cx} {pins : List (Addr × Obj)} {σ : L2.St} {H : Hp} {s : Shared} {Z : Addr → Prop}
/-- the type of a datum that is no instance -/
theorem rep_typ {v : V} {d : D} {u : Value} (I : Inv X pins σ H s) (r : Rep Cs Z H v d) (hd : d.noO = true) (ru : RelV v u) : PySem.W.Looks (model X.prog X.w) s.heap (typeOf u) (tyD Cs d) := by
  cases r with
  | non => cases ru; exact .now
  | bl b => cases ru; exact .now
  | int i => obtain ⟨t, rfl⟩ := ru; exact .now
  | str x => obtain ⟨t, rfl⟩ := ru; exact .now
  | ty n => cases hd
  | ref a => cases hd
  | obj => cases hd
  | exc => cases hd
  | fn => cases hd
  | tup hz hr rs =>
    cases ru
    obtain ⟨_, its, rv, o, ho, hcl, n, hd'⟩ := hr.ok I.hok
    exact fun A Q E s k q => wpAny_typeOf_ref (k _ _ ho) (by rw [hcl]; exact q)
  | lst hz hr rs =>
    cases ru
    obtain ⟨_, its, n, rv, ho⟩ := hr.ok I.hok
    exact fun A Q E s k q => wpAny_typeOf_ref (k _ _ ho) q
  | dct hz hr hl rs =>
    cases ru
    obtain ⟨_, hsm, kvs, hkv, o, es, ep, ho, hex, _⟩ := hr.ok I.hok
    exact fun A Q E s k q => wpAny_typeOf_ref (k _ _ ho) (by rw [hex.1]; exact q)
/-- an own comparison, asked within A -/
theorem cmp_gA {op : CmpOp} {A : Around} {a dx C g : Addr} {vs : List (Option V)} {y : V} {u tb : Value} {k : Nat} {sp : Sp} {Q : VK} (hn : PySem.W.notFirst X.K C tb = true) (hs : PySem.W.findIn X.K (.ref C) (cmpInfo op).2.1 = some (some (.ref g))) (hf : PySem.W.isFn X.K (.ref g) = true)
    (F : FnG X.prog X.w X.K X.mg X.base CX0 k g sp) (hr : Rm k A) (e0 : Env0 X.prog X.w X.K X.mg X.base A X.stack s H) (I : Inv X pins σ H s) (ha : SlX.Slt H a C dx vs) (hb : PySem.W.Looks (model X.prog X.w) s.heap (typeOf u) tb) (ry : RelV y u) (q : sp [.ref a, y] H Q E0) {E' : Value → Shared → Prop} :
    wpAny (model X.prog X.w) A (richCompare op (.ref a) u) (EP X pins σ Q) E' s := by
  obtain ⟨sl, od, _, J, _⟩ := SlX.slt_inst I ha
  obtain ⟨m, hF⟩ := I.fr
  refine PySem.W.cmp_K (op := op) (tb := tb) hr.rm.units0 hF I.ok.mod.kin J hb hn hs hf (wpAny_call (codeAny_mono (F A X.stack s H [.ref a, u] [.ref a, y] Q E0 hr e0 (.cons rfl (.cons ry .nil)) q) fun r s' hq => ?_))
  cases r with
  | error e => exact hq.elim
  | ok fl =>
    cases fl with
    | ret w =>
      obtain ⟨z', H', I', rz, qz⟩ := I.after hq
      exact SlX.cmpback rz ⟨z', H', I', rz, qz⟩
    | next => exact False.elim hq
    | brk => exact False.elim hq
    | cont => exact False.elim hq
end
section
variable {Cs : Gc} {X : Cx} {ρ : Env} {M : Mem} {Φ : D → Mem → Prop} {k n : Nat} {g : Addr} {S : FS}
/-- o == y by o's own ==, y no instance -/
theorem wo_ownT {op : CmpOp} {ds : List D} {y : D} (hop : ∀ a b, compareOp op a b = richCompare op a b) (hy : y.noO = true) (hn : PySem.W.notFirst X.K (Cs n) (tyD Cs y) = true)
    (hs : PySem.W.findIn X.K (.ref (Cs n)) (cmpInfo op).2.1 = some (some (.ref g))) (hf : PySem.W.isFn X.K (.ref g) = true) (Fn : FnD Cs X k g S) (hr : Rm k X.A) (h : S [.obj n ds, y] M Φ) : WO Cs X (compareOp op) (.obj n ds) y M Φ := .mk fun F H vx vy m rx ry Q k pins s σ v u I rv ru => by
  obtain ⟨q, dx, ws, rfl, hsl, _⟩ := rep_slt rx
  cases rv
  rw [hop]
  exact cmp_gA hn hs hf Fn hr I.env0 I hsl (rep_typ I ry hy ru) ru ⟨F, _, M, Φ, m, .cons rx (.cons ry .nil), h, k⟩
end
end DL
/-! ### comprehensions that are owned, range of two, displays, own len, in, [] -/
namespace DL
open PySem PySem.Spec PyProof.Rows L2
section
variable {Cs : Gc} {F : Addr → Prop} {X : Cx} {ρ : Env} {M M1 M' : Mem} {H1 H' : Hp} {q : Addr} {a b c e elt tg iter ke ve : Expr} {es : List Expr} {pos p apos spos py : Pos} {Φ : D → Mem → Prop} {E : DE} {y : Str} {g : TG} {step : D → Env → (Env → Prop) → Prop} {Q : VK}
theorem MemAt.take {ws : List V} {acc : List D} (hF : ¬ F q) (m : MemAt Cs (Hid F q) M' H') (e : H' q = some (.lst ws)) (r : Reps Cs (Zf (Hid F q) M') H' ws acc) (g : Cs.gh F (put M' q (.lst acc)) H') : MemAt Cs F (put M' q (.lst acc)) H' := by
  have l : ∀ a, Zf F (put M' q (.lst acc)) a → Zf (Hid F q) M' a := fun a z => by
    by_cases h : a = q
    · exact .inl (.inr h)
    · rcases z with z | z
      · exact .inl (.inl z)
      · rw [put_ne h] at z; exact .inr z
  have hq := (m.ff q (.inr rfl)).1
  refine ⟨fun a n h => ?_, fun a h => ?_, g⟩
  · by_cases ea : a = q
    · subst ea
      rw [put_same] at h
      cases h
      exact ⟨ws, e, r.less l⟩
    · rw [put_ne ea] at h
      have w := m.at_ a n h
      have nx : ∀ {dx : Addr}, M' dx = some (.aux a) → put M' q (.lst acc) dx = some (.aux a) := fun {dx} z => by rw [put_ne (fun y => by rw [y, hq] at z; cases z)]; exact z
      cases n with
      | lst ds =>
        obtain ⟨vs, e1, r⟩ := w
        exact ⟨vs, e1, r.less l⟩
      | slt c dx os =>
        obtain ⟨n1, n2, vs, hs, r⟩ := w
        exact ⟨n1, nx n2, vs, hs, r.less l⟩
      | aux y => exact w
      | dct ks ds =>
        obtain ⟨vs, e1, hl, r⟩ := w
        exact ⟨vs, e1, hl, r.less l⟩
      | ins c dx ns ds =>
        obtain ⟨n1, n2, vs, e1, e2, hl, r⟩ := w
        exact ⟨n1, nx n2, vs, e1, e2, hl, r.less l⟩
      | dcn ks ds =>
        obtain ⟨xs, e1, e2, e3, r1, r2⟩ := w
        exact ⟨xs, e1, e2, e3, r1.less l, r2.less l⟩
      | dcz oz ks ds =>
        obtain ⟨xs, e1, e2, e3, r1, r2⟩ := w
        exact ⟨xs, e1, e2, e3, r1.less l, r2.less l⟩
      | tpz ss => exact w
      | tab nm =>
        obtain ⟨ps, e1, e2, e3⟩ := w
        exact ⟨ps, e1, e2, fun pos cv hc => let ⟨c, r1, r2, r3⟩ := e3 pos cv hc; ⟨c, r1, fun y => r2 (l _ y), r3⟩⟩
  · obtain ⟨z1, z2⟩ := m.ff a (.inl h)
    refine ⟨?_, z2⟩
    by_cases ea : a = q
    · subst ea
      exact absurd h hF
    · rw [put_ne ea]; exact z1
end
/-! range(a, b) -/
section
variable {Cs : Gc} {F : Addr → Prop} {X : Cx} {ρ : Env} {M M1 M' : Mem} {H1 H' : Hp} {q : Addr} {a b c e elt tg iter ke ve : Expr} {es : List Expr} {pos p apos spos py : Pos} {Φ : D → Mem → Prop} {E : DE} {y : Str} {K : (Mem → Prop) → List D → Mem → Prop}
/-! {k: v, ..} -/
def trsOf (X : Cx) : List (Option Expr) → List Expr → List (TE × TE)
  | some k :: ks, v :: vs => (semE X k, semE X v) :: trsOf X ks vs
  | _, _ => []
structure WKV (Cs : Gc) (X : Cx) (ks : List (Option Expr)) (vs : List Expr) (ρ : Env) (M : Mem) (Ψ : List (Key × D) → Mem → Prop) : Prop where
  run : ∀ (F : Addr → Prop) σ H, At Cs F M H σ ρ → ∀ Q : List (V × V) → Hp → Prop, (∀ (kvs : List (Key × D)) ws H' M', Post M H M' H' → MemAt Cs F M' H' → Reps Cs (Zf F M') H' ws (kvs.map (·.2)) → Ψ kvs M' → Q ((kvs.map fun z => kV z.1).zip ws) H') → tPairs (trsOf X ks vs) σ H Q
end
/-! own __len__, __contains__, __getitem__ -/
end DL
/-! ### tuple(d), o[i] by an own __getitem__ -/
namespace DL
open PySem PySem.Spec PyProof.Rows L2
end DL
/-! ### {k: v for x in xs} -/
namespace DL
open PySem PySem.Spec PyProof.Rows L2
end DL
/-! ### names and numbers as texts -/
namespace DL
open PySem PySem.Spec PyProof.Rows L2
open SX (S)
/-- a ratio whose parts have at most four figures -/
structure Sm (q : Rat) : Prop where
  n0 : 0 ≤ q.num
  n1 : q.num < 10000
  d1 : q.den < 10000
section
variable {Cs : Gc} {F : Addr → Prop} {X : Cx} {M : Mem} {Φ : D → Mem → Prop} {k : Nat}
theorem opNeN (hu : X.A.units < cLine) : OpR X (compareOp .NotEq) (fun x y H Q => ∃ a b xs, x = .ref a ∧ y = .ref b ∧ Rd H a (.lst xs) ∧ Rd H b (.lst []) ∧ Q (.bl (!xs.isEmpty)) H) := by
  intro pins s σ H x y v u Q I rx ry h
  obtain ⟨a, b, xs, rfl, rfl, ea, eb, q⟩ := h
  obtain rfl : v = Value.ref a := rx
  obtain rfl : u = Value.ref b := ry
  obtain ⟨_, its, n, r, e⟩ := ea.ok I.hok
  obtain ⟨_, its2, n2, r2, e2⟩ := eb.ok I.hok
  cases r2
  have h1 : s.heap.IsList a its.toArray := ⟨_, e, rfl, n, rfl⟩
  have h2 : s.heap.IsList b #[] := ⟨_, e2, rfl, n2, rfl⟩
  cases r with
  | nil => exact PySem.SeqAt.RcNeAt.lists (e := fun _ => true) h1 h2 rfl hu (fun j h1 _ => absurd h1 (by simp)) _ _ _ _ (fin_bl I q rfl)
  | cons _ _ => exact PySem.SeqAt.RcNeAt.lists_lengths h1 h2 (by simp) hu _ _ _ _ (fin_bl I q rfl)
theorem wo_neNil {q : Addr} {ds : List D} (hr : Rm k X.A) (hM : M q = some (.lst ds)) (h : Φ (.bl (!ds.isEmpty)) M) : WO Cs X (compareOp .NotEq) (.ref q) (.lst []) M Φ := .mk fun F H vx vy m rx ry Q k => by
  cases rx
  cases ry with
  | lst hz hrd rs =>
    cases rs
    obtain ⟨vs, e0, rs⟩ := m.at_ q _ hM
    have e : vs.isEmpty = ds.isEmpty := by cases rs <;> rfl
    exact (opNeN hr.rm.units0).sem ⟨_, _, _, rfl, rfl, .inl e0, hrd, by rw [e]; exact k.here m (.bl _) h⟩
end
end DL
/-! dicts whose keys are tuples, nested, of texts -/
namespace DL
open PySem PySem.Spec PyProof.Rows L2
section
variable {Cs : Nat → Addr} {X : Cx} {pins : List (Addr × Obj)} {σ : L2.St} {H : Hp} {s : Shared} {Z : Addr → Prop}
mutual
theorem rep_key (I : Inv X pins σ H s) : ∀ (d : D) (v : V) (u : Value), Rep Cs Z H v d → okT d = true → RelV v u → NestedIs s.heap (nk d) u ∧ Reads s.heap u (nk d).data []
  | .str x, v, u, r, _, ru => by
    cases r
    obtain ⟨t, rfl⟩ := ru
    rw [nk, NestedKey.data]
    exact ⟨.text _ _, .str _ _⟩
  | .tup ds, v, u, r, h, ru => by
    cases r with
    | tup hz hr rs =>
      cases ru
      obtain ⟨its, rv, ⟨o, ho, hc, n, hd⟩, _⟩ := I.tuple (.inl hr)
      rw [okT] at h
      obtain ⟨z1, z2⟩ := reps_key I ds _ its rs h rv
      rw [nk, NestedKey.data]
      exact ⟨.tup ho hc hd z1, .tuple ho hc hd z2⟩
  | .non, _, _, _, h, _ => by simp [okT] at h
  | .bl _, _, _, _, h, _ => by simp [okT] at h
  | .int _, _, _, _, h, _ => by simp [okT] at h
  | .ty _, _, _, _, h, _ => by simp [okT] at h
  | .lst _, _, _, _, h, _ => by simp [okT] at h
  | .obj _ _, _, _, _, h, _ => by simp [okT] at h
  | .ref _, _, _, _, h, _ => by simp [okT] at h
  | .dct _ _, _, _, _, h, _ => by simp [okT] at h
  | .exc _ _, _, _, _, h, _ => by simp [okT] at h
  | .fn _ _ _, _, _, _, h, _ => by simp [okT] at h
theorem reps_key (I : Inv X pins σ H s) : ∀ (ds : List D) (vs : List V) (us : List Value), Reps Cs Z H vs ds → okTs ds = true → Vals vs us → NestedAll s.heap (nks ds) us ∧ ReadsAll s.heap us (NestedKey.datas (nks ds)) []
  | [], _, _, r, _, rv => by
    cases r
    cases rv
    rw [nks, NestedKey.datas]
    exact ⟨.nil, .nil⟩
  | d :: ds, _, _, r, h, rv => by
    rw [okTs, Bool.and_eq_true] at h
    cases r with
    | cons r rs =>
      cases rv with
      | cons ru rv =>
        obtain ⟨a1, a2⟩ := rep_key I d _ _ r h.1 ru
        obtain ⟨b1, b2⟩ := reps_key I ds _ _ rs h.2 rv
        rw [nks, NestedKey.datas]
        exact ⟨.cons a1 b1, .cons (as := []) (bs := []) a2 b2⟩
end
/-- keys, where they lie, values: as the heap has them, as data -/
inductive Al (Cs : Nat → Addr) (Z : Addr → Prop) (H : Hp) : List (NestedKey × Addr × V) → List (NestedKey × Addr × Value) → List D → List D → Prop
  | nil : Al Cs Z H [] [] [] []
  | cons {n : NestedKey} {ad : Addr} {v : V} {u : Value} {k d : D} {xs : List (NestedKey × Addr × V)} {us : List (NestedKey × Addr × Value)} {ks ds : List D} (e : nk k = n) (o : okT k = true ∧ (nk k).depth ≤ 8) (rk : Rep Cs Z H (.ref ad) k) (ru : RelV v u) (rd : Rep Cs Z H v d) (t : Al Cs Z H xs us ks ds) :
      Al Cs Z H ((n, ad, v) :: xs) ((n, ad, u) :: us) (k :: ks) (d :: ds)
theorem al_of : ∀ {xs : List (NestedKey × Addr × V)} {us : List (NestedKey × Addr × Value)} {ks ds : List D}, us.map (fun u => (u.1, u.2.1)) = xs.map (fun x => (x.1, x.2.1)) → Vals (xs.map fun x => x.2.2) (us.map fun u => u.2.2) → xs.map (·.1) = ks.map nk →
    (∀ k ∈ ks, okT k = true ∧ (nk k).depth ≤ 8) → Reps Cs Z H (xs.map fun x => V.ref x.2.1) ks → Reps Cs Z H (xs.map fun x => x.2.2) ds → Al Cs Z H xs us ks ds
  | [], us, ks, ds, h1, _, h3, _, r1, r2 => by
    cases us with
    | nil =>
      cases r1
      cases r2
      exact .nil
    | cons u us => cases h1
  | (n, ad, v) :: xs, [], ks, ds, h1, _, _, _, _, _ => by cases h1
  | (n, ad, v) :: xs, (n', ad', u) :: us, ks, ds, h1, h2, h3, h4, r1, r2 => by
    rw [List.map_cons, List.map_cons] at h1
    obtain ⟨e1, e2⟩ := List.cons.inj h1
    cases r1 with
    | @cons _ k _ ks rk r1 =>
      cases r2 with
      | cons rd r2 =>
        cases h2 with
        | cons ru h2 =>
          rw [List.map_cons, List.map_cons] at h3
          obtain ⟨e3, e4⟩ := List.cons.inj h3
          have a1 : n' = n := congrArg Prod.fst e1
          have a2 : ad' = ad := congrArg Prod.snd e1
          subst a1 a2
          exact .cons e3.symm (h4 k List.mem_cons_self) rk ru rd (al_of e2 h2 e4 (fun x hx => h4 x (List.mem_cons_of_mem _ hx)) r1 r2)
theorem Al.is (I : Inv X pins σ H s) : ∀ {xs : List (NestedKey × Addr × V)} {us : List (NestedKey × Addr × Value)} {ks ds : List D}, Al Cs Z H xs us ks ds → ∀ u ∈ us, (nestedKind X.prog X.w).is s.heap u.1 u.2.1
  | _, _, _, _, .nil, u, hu => nomatch hu
  | _, _, _, _, .cons e o rk ru rd t, u, hu => by
    rcases List.mem_cons.mp hu with rfl | hu
    · have := (rep_key I _ _ _ rk o.1 rfl).1
      rw [e] at this
      exact ⟨this, by rw [← e]; exact o.2⟩
    · exact Al.is I t u hu
def getN : List D → List D → NestedKey → Option D
  | k :: ks, d :: ds, n => if nk k = n then some d else getN ks ds n
  | _, _, _ => none
def setN : List D → List D → NestedKey → D → List D
  | k :: ks, d :: ds, n, y => if nk k = n then y :: setN ks ds n y else d :: setN ks ds n y
  | _, _, _, _ => []
theorem al_get : ∀ {xs : List (NestedKey × Addr × V)} {us : List (NestedKey × Addr × Value)} {ks ds : List D}, Al Cs Z H xs us ks ds → ∀ n, (∀ d, getN ks ds n = some d → ∃ ad v u, atKey us n = some (ad, u) ∧ RelV v u ∧ Rep Cs Z H v d) ∧ (getN ks ds n = none → atKey us n = none)
  | _, _, _, _, .nil, n => ⟨fun d h => (nomatch h), fun _ => rfl⟩
  | _, _, _, _, .cons (n := m) (ad := ad) (v := v) (u := u) (k := k) (us := us) e o rk ru rd t, n => by
    obtain ⟨h1, h2⟩ := al_get t n
    unfold getN
    by_cases c : nk k = n
    · rw [if_pos c]
      refine ⟨fun d hd => ⟨ad, v, u, ?_, ru, ?_⟩, fun h => nomatch h⟩
      · unfold atKey
        rw [List.find?_cons_of_pos (by simp; rw [← e]; exact c)]
        rfl
      · cases hd
        exact rd
    · rw [if_neg c]
      have ea : atKey ((m, ad, u) :: us) n = atKey us n := by
        unfold atKey
        rw [List.find?_cons_of_neg (by simp; rw [← e]; exact c)]
      rw [ea]
      exact ⟨h1, h2⟩
def putV (n : NestedKey) (v : V) (x : NestedKey × Addr × V) : NestedKey × Addr × V := if x.1 = n then (x.1, x.2.1, v) else x
theorem Al.put : ∀ {xs : List (NestedKey × Addr × V)} {us : List (NestedKey × Addr × Value)} {ks ds : List D}, Al Cs Z H xs us ks ds → ∀ {n : NestedKey} {v : V} {u : Value} {d : D}, RelV v u → Rep Cs Z H v d → Al Cs Z H (xs.map (putV n v)) (us.map (putAt n u)) ks (setN ks ds n d)
  | _, _, _, _, .nil, _, _, _, _, _, _ => .nil
  | _, _, _, _, .cons (n := m) (k := k) e o rk ru rd t, n, v, u, d, ru', rd' => by
    rw [List.map_cons, List.map_cons]
    unfold setN
    by_cases c : nk k = n
    · rw [if_pos c]
      have c' : m = n := by rw [← e]; exact c
      rw [show putV n v (m, _, _) = (m, _, v) from if_pos c', show putAt n u (m, _, _) = (m, _, u) from if_pos c']
      exact .cons e o rk ru' rd' (t.put ru' rd')
    · rw [if_neg c]
      have c' : ¬ m = n := by rw [← e]; exact c
      rw [show putV n v (m, _, _) = (m, _, _) from if_neg c', show putAt n u (m, _, _) = (m, _, _) from if_neg c']
      exact .cons e o rk ru rd (t.put ru' rd')
end
section
variable {Cs : Gc} {F : Addr → Prop} {X : Cx} {ρ : Env} {M : Mem} {H : Hp} {s : Shared} {pins : List (Addr × Obj)} {σ : L2.St} {q : Addr} {ks ds : List D} {k : Nat} {Φ : D → Mem → Prop} {o i : Expr} {pos : Pos}
theorem dn_at (I : Inv X pins σ H s) (hw : X.w = Cs.w) (m : MemAt Cs F M H) (hM : M q = some (.dcn ks ds)) : ∃ xs us, H q = some (dnO X.w q xs) ∧ Al Cs (Zf F M) H xs us ks ds ∧ s.heap.DictOfH (nestedKind X.prog X.w) q us ∧ (q == sysModules) = false ∧ us.length ≤ sizeLine := by
  obtain ⟨xs, e1, e2, e3, r1, r2⟩ := m.at_ q _ hM
  rw [← hw] at e1
  obtain ⟨us, u1, u2, o, es, ep, ho, hx, hd, he, hn, hs, hz⟩ := (I.hok q _ e1).1
  have al := al_of u1 u2 e2 e3 r1 r2
  exact ⟨xs, us, e1, al, ⟨o, es, ep, ho, hx, hd, he, al.is I, hn⟩, hs, hz⟩
/-- such a dict, locked or not -/
def isN (M : Mem) (q : Addr) (ks ds : List D) : Prop := M q = some (.dcn ks ds) ∨ ∃ o, M q = some (.dcz o ks ds)
theorem dn_at2 (I : Inv X pins σ H s) (hw : X.w = Cs.w) (m : MemAt Cs F M H) (hM : isN M q ks ds) : ∃ xs us, Al Cs (Zf F M) H xs us ks ds ∧ s.heap.DictOfH (nestedKind X.prog X.w) q us ∧ (q == sysModules) = false ∧ us.length ≤ sizeLine := by
  rcases hM with hM | ⟨o, hM⟩
  · obtain ⟨xs, us, _, h1, h2, h3, h4⟩ := dn_at I hw m hM
    exact ⟨xs, us, h1, h2, h3, h4⟩
  · obtain ⟨xs, e1, e2, e3, r1, r2⟩ := m.at_ q _ hM
    rw [← hw] at e1
    obtain ⟨us, u1, u2, o, es, ep, ho, hx, hd, he, hn, hs, hz⟩ := (I.hok q _ e1).2.1
    have al := al_of u1 u2 e2 e3 r1 r2
    exact ⟨xs, us, al, ⟨o, es, ep, ho, hx, hd, he, al.is I, hn⟩, hs, hz⟩
/-- a key -/
structure KeyD (y : D) : Prop where
  ok : okT y = true
  tup : ∃ l, y = .tup l
  dp : (nk y).depth ≤ 8
theorem KeyD.ref {Z : Addr → Prop} {y : D} {v : V} (h : KeyD y) (r : Rep Cs Z H v y) : ∃ b, v = .ref b := by
  obtain ⟨l, rfl⟩ := h.tup
  cases r
  exact ⟨_, rfl⟩
theorem wix_N {y d : D} (hw : X.w = Cs.w) (hr : Rm k X.A) (hM : isN M q ks ds) (hy : KeyD y) (hd : getN ks ds (nk y) = some d) (h : Φ d M) : WIx Cs X (.ref q) y M Φ := .mk fun F H vx vy m rx ry Q k value slice pins s σ v u I rv ru hs => by
  cases rx
  cases rv
  obtain ⟨b, rfl⟩ := hy.ref ry
  cases ru
  obtain ⟨xs, us, al, dd, hsm, hz⟩ := dn_at2 I hw m hM
  obtain ⟨ad, v, u, ea, ru, rd⟩ := (al_get al (nk y)).1 d hd
  refine tail_any (ops := [.ref q, .ref b]) dd.typeIs PySem.F.slot_dict_getitem.lookup ?_ hs
  exact wpAny_getItem_heap (knd := nestedKind X.prog X.w) (by have := hr.rm.units; show X.A.in1.units + 8 < cLine; simp only [Around.in1_units]; omega) ⟨(rep_key I y _ _ ry hy.ok rfl).1, hy.dp⟩ dd ea ⟨v, H, I.tok _, ru, k.here m rd h⟩
theorem Al.length : ∀ {Cs : Nat → Addr} {Z : Addr → Prop} {xs : List (NestedKey × Addr × V)} {us : List (NestedKey × Addr × Value)} {ks ds : List D}, Al Cs Z H xs us ks ds → us.length = ks.length
  | _, _, _, _, _, _, .nil => rfl
  | _, _, _, _, _, _, .cons _ _ _ _ _ t => congrArg Nat.succ (Al.length t)
end
end DL
/-! ### what code does, worked out as a term first (w..), used on data afterwards -/
namespace DL
open PySem PySem.Spec PyProof.Rows L2
abbrev Kd := D → Mem → Prop
abbrev TwE := Env → Mem → Kd → Prop
abbrev TwT := Env → Mem → (Bool → Mem → Prop) → Prop
abbrev TwA := Env → Mem → (List D → Mem → Prop) → Prop
abbrev TwS := Env → Mem → DE → Prop
abbrev TwG := D → Env → Mem → (Env → Mem → Prop) → Prop
abbrev TwGs := List D → Env → Mem → (Env → Mem → Prop) → Prop
abbrev TwI := Env → Mem → ((Mem → Prop) → List D → Mem → Prop) → Prop
abbrev TwP := Env → Mem → (Option Int → Mem → Prop) → Prop
abbrev TwO := D → D → Mem → Kd → Prop
abbrev TwU := D → Mem → Kd → Prop
abbrev TwC := List D → Mem → Kd → Prop
section
variable (Cs : Gc) (X : Cx)
structure SE (e : Expr) (w : TwE) : Prop where
  run : ∀ {ρ M Φ}, w ρ M Φ → WE Cs X e ρ M Φ
structure ST (e : Expr) (w : TwT) : Prop where
  run : ∀ {ρ M Ψ}, w ρ M Ψ → WT Cs X e ρ M Ψ
structure SW (e : Expr) (w : TwT) : Prop where
  run : ∀ {ρ M Ψ}, w ρ M Ψ → WW Cs X e ρ M Ψ
structure SA (es : List Expr) (w : TwA) : Prop where
  run : ∀ {ρ M Θ}, w ρ M Θ → WA Cs X es ρ M Θ
structure SS (st : Stmt) (w : TwS) : Prop where
  run : ∀ {ρ M E}, w ρ M E → WS Cs X st ρ M E
structure SSs (sts : List Stmt) (w : TwS) : Prop where
  run : ∀ {ρ M E}, w ρ M E → WSs Cs X sts ρ M E
structure SG (tg : Expr) (w : TwG) : Prop where
  run : ∀ {d ρ M K}, w d ρ M K → WG Cs X tg d ρ M K
structure SGs (ts : List Expr) (n : Nat) (w : TwGs) : Prop where
  run : ∀ {ds ρ M K}, w ds ρ M K → WGs Cs X ts ds ρ M K
  len : ∀ {ds ρ M K}, w ds ρ M K → ds.length = n
structure SI (tg it : Expr) (w : TwI) : Prop where
  run : ∀ {ρ M K}, w ρ M K → WI Cs X tg it ρ M K
structure SP (oe : Option Expr) (w : TwP) : Prop where
  run : ∀ {ρ M Ψ}, w ρ M Ψ → WP Cs X oe ρ M Ψ
structure SO (f : Value → Value → Sem Value) (w : TwO) : Prop where
  run : ∀ {x y M Φ}, w x y M Φ → WO Cs X f x y M Φ
structure SU (f : Value → Sem Value) (w : TwU) : Prop where
  run : ∀ {x M Φ}, w x M Φ → WU Cs X f x M Φ
structure SC (f : Value) (w : TwC) : Prop where
  run : ∀ {xs M Φ}, w xs M Φ → WC Cs X f xs M Φ
structure SAt (f : Str) (w : TwU) : Prop where
  run : ∀ {x M Φ}, w x M Φ → WAt Cs X f x M Φ
structure SIx (w : TwO) : Prop where
  run : ∀ {x y M Φ}, w x y M Φ → WIx Cs X x y M Φ
end
section
variable {Cs : Gc} {X : Cx} {ρ : Env} {M : Mem} {a b c e o : Expr} {es : List Expr} {Φ Φ' : Kd} {Ψ Ψ' : Bool → Mem → Prop} {E E' : DE}
theorem WE.mono (h : WE Cs X e ρ M Φ) (i : ∀ d M, Φ d M → Φ' d M) : WE Cs X e ρ M Φ' := .mk fun F σ H A Q k => h.run F σ H A Q fun v d H' M' p m r q => k v d H' M' p m r (i d M' q)
theorem WT.mono (h : WT Cs X e ρ M Ψ) (i : ∀ b M, Ψ b M → Ψ' b M) : WT Cs X e ρ M Ψ' := .mk fun F σ H A Q k => h.run F σ H A Q fun b H' M' p m q => k b H' M' p m (i b M' q)
theorem WW.mono (h : WW Cs X e ρ M Ψ) (i : ∀ b M, Ψ b M → Ψ' b M) : WW Cs X e ρ M Ψ' := .mk fun F σ H A Q k => h.run F σ H A Q fun b H' M' p m q => k b H' M' p m (i b M' q)
theorem WA.mono {Θ Θ' : List D → Mem → Prop} (h : WA Cs X es ρ M Θ) (i : ∀ d M, Θ d M → Θ' d M) : WA Cs X es ρ M Θ' := .mk fun F σ H A Q k => h.run F σ H A Q fun v d H' M' p m r q => k v d H' M' p m r (i d M' q)
theorem WG.mono {K K' : Env → Mem → Prop} {d : D} (h : WG Cs X e d ρ M K) (i : ∀ d M, K d M → K' d M) : WG Cs X e d ρ M K' := .mk fun F σ H v A r Q k => h.run F σ H v A r Q fun σ' ρ' H' M' p A' q => k σ' ρ' H' M' p A' (i ρ' M' q)
theorem WI.mono {K K' : (Mem → Prop) → List D → Mem → Prop} (h : WI Cs X o e ρ M K) (i : ∀ U d M, K U d M → K' U d M) : WI Cs X o e ρ M K' := .mk fun F σ H A R k => h.run F σ H A R fun J H1 M1 U ds p m s q => k J H1 M1 U ds p m s (i U ds M1 q)
theorem WP.mono {oe : Option Expr} {K K' : Option Int → Mem → Prop} (h : WP Cs X oe ρ M K) (i : ∀ d M, K d M → K' d M) : WP Cs X oe ρ M K' := .mk fun F σ H A Q k => h.run F σ H A Q fun j H' M' p m q => k j H' M' p m (i j M' q)
theorem WO.mono {f : Value → Value → Sem Value} {x y : D} (h : WO Cs X f x y M Φ) (i : ∀ d M, Φ d M → Φ' d M) : WO Cs X f x y M Φ' := .mk fun F H vx vy m rx ry Q k => h.run F H vx vy m rx ry Q fun v d H' M' p m r q => k v d H' M' p m r (i d M' q)
theorem WS.mono {st : Stmt} (h : WS Cs X st ρ M E) (i : ∀ ρ M, E.nx ρ M → E'.nx ρ M) (j : ∀ d M, E.rt d M → E'.rt d M) (k : ∀ ρ M, E.bk ρ M → E'.bk ρ M) (l : ∀ ρ M, E.ct ρ M → E'.ct ρ M) : WS Cs X st ρ M E' :=
  .mk fun F σ H A Dn q => h.run F σ H A Dn ⟨fun σ' ρ' H' M' p A' z => q.nx σ' ρ' H' M' p A' (i _ _ z), fun v d H' M' p m r z => q.rt v d H' M' p m r (j _ _ z), fun σ' ρ' H' M' p A' z => q.bk σ' ρ' H' M' p A' (k _ _ z), fun σ' ρ' H' M' p A' z => q.ct σ' ρ' H' M' p A' (l _ _ z)⟩
end
/-! names, constants -/
section
variable {Cs : Gc} {X : Cx} {a b c e o elt tg iter : Expr} {es : List Expr} {pos p apos pos' : Pos} {st : Stmt} {sts rest body s1 s2 : List Stmt} {x y f m : Str} {wa wb wc w : TwE} {ta tb : TwT} {was : TwA} {ws wr w1 w2 : TwS} {g : TwG}
def wVar (i : Nat) : TwE := fun ρ M Φ => match ρ[i]? with
  | some (some d) => Φ d M
  | _ => False
theorem se_var (i : Nat) (hN : X.N[i]? = some x) (hv : Vis X.env.scope x) (hd : (x == ("__debug__" : Str)) = false := by decide) (hcd : (x == ("__classdict__" : Str)) = false := by decide) : SE Cs X (.Name x pos) (wVar i) :=
  ⟨fun {ρ M Φ} h => by
    unfold wVar at h
    split at h
    · rename_i d hd'; exact we_var i hN hv hd' h hd hcd
    · exact h.elim⟩
def wPure (d : D) : TwE := fun _ M Φ => Φ d M
theorem se_int {i : Int} {j : Nat} : SE Cs X (.Constant (.int i) j pos) (wPure (.int i)) := ⟨we_int⟩
theorem se_bl {b : Bool} {j : Nat} : SE Cs X (.Constant (.bool b) j pos) (wPure (.bl b)) := ⟨we_bl⟩
theorem se_non {j : Nat} : SE Cs X (.Constant .none j pos) (wPure .non) := ⟨we_non⟩
theorem se_str {x : String} {j : Nat} : SE Cs X (.Constant (.str x) j pos) (wPure (.str x)) := ⟨we_str⟩
theorem se_gref {q : Addr} (hg : Gl X x) (hm : X.mg x = some (.ref q)) (hd : (x == ("__debug__" : Str)) = false := by decide) : SE Cs X (.Name x pos) (wPure (.ref q)) := ⟨fun h => we_gref hg hm h hd⟩
theorem se_gty {n : String} (hg : Gl X x) (hm : X.mg x = none) (hv : bootBuiltins x = some (.type n)) (hn : x ≠ "__name__" := by decide) (hd : (x == ("__debug__" : Str)) = false := by decide) : SE Cs X (.Name x pos) (wPure (.ty n)) := ⟨fun h => we_gty hg hm hv h hn hd⟩
/-! operators -/
def wBin (wa wb : TwE) (p : TwO) : TwE := fun ρ M Φ => wa ρ M fun x M1 => wb ρ M1 fun y M2 => p x y M2 Φ
theorem two_run {f : Value → Value → Sem Value} {q : TwO} {ρ : Env} {M : Mem} {Φ : Kd} (ha : SE Cs X a wa) (hb : SE Cs X b wb) (ho : SO Cs X f q) (h : wBin wa wb q ρ M Φ) : WE Cs X a ρ M fun x M1 => WE Cs X b ρ M1 fun y M2 => WO Cs X f x y M2 Φ :=
  (ha.run h).mono fun _ _ h1 => (hb.run h1).mono fun _ _ h2 => ho.run h2
theorem se_bin {op : Operator} {q : TwO} (ha : SE Cs X a wa) (hb : SE Cs X b wb) (ho : SO Cs X (binaryOp op) q) : SE Cs X (.BinOp a op b pos) (wBin wa wb q) := ⟨fun h => we_bin (two_run ha hb ho h)⟩
theorem se_cmp {op : CmpOp} {q : TwO} (ha : SE Cs X a wa) (hb : SE Cs X b wb) (ho : SO Cs X (compareOp op) q) (hm : behindInMarks op b = false := by first | exact nomark _ | rfl) : SE Cs X (.Compare a [op] [b] pos) (wBin wa wb q) := ⟨fun h => we_cmp (two_run ha hb ho h) hm⟩
theorem se_ix {q : TwO} (ha : SE Cs X a wa) (hb : SE Cs X b wb) (ho : SIx Cs X q) (hs : PlainIx b := by intro _ _; rfl) : SE Cs X (.Subscript a b pos) (wBin wa wb q) := ⟨fun h => we_ix ((ha.run h).mono fun _ _ h1 => (hb.run h1).mono fun _ _ h2 => ho.run h2) hs⟩
def wUn (wa : TwE) (p : TwU) : TwE := fun ρ M Φ => wa ρ M fun x M1 => p x M1 Φ
theorem se_un {op : UnaryOp} {q : TwU} (ha : SE Cs X a wa) (ho : SU Cs X (unaryOp op) q) : SE Cs X (.UnaryOp op a pos) (wUn wa q) := ⟨fun h => we_un ((ha.run h).mono fun _ _ h1 => ho.run h1)⟩
theorem se_attr {q : TwU} (ha : SE Cs X a wa) (ho : SAt Cs X f q) (hb : attributeBase a f X.env (eval a X.env) = eval a X.env := by rfl) : SE Cs X (.Attribute a f pos) (wUn wa q) := ⟨fun h => we_attr ((ha.run h).mono fun _ _ h1 => ho.run h1) hb⟩
def tB (Ψ : Bool → Mem → Prop) : Kd := fun d M => match d with
  | .bl b => Ψ b M
  | _ => False
theorem tB_bT {Ψ : Bool → Mem → Prop} (d : D) (M : Mem) (h : tB Ψ d M) : bT Ψ d M := by
  unfold tB at h
  split at h
  · exact ⟨_, rfl, h⟩
  · exact h.elim
def tVal (w : TwE) : TwT := fun ρ M Ψ => w ρ M (tB Ψ)
theorem st_cmp {op : CmpOp} {q : TwO} (ha : SE Cs X a wa) (hb : SE Cs X b wb) (ho : SO Cs X (compareOp op) q) (hm : behindInMarks op b = false := by first | exact nomark _ | rfl) : ST Cs X (.Compare a [op] [b] pos) (tVal (wBin wa wb q)) :=
  ⟨fun h => wt_cmp ((two_run ha hb ho h).mono fun _ _ h1 => h1.mono fun _ _ h2 => h2.mono tB_bT) hm⟩
theorem st_val (hw : SE Cs X e w) (he : ∀ whole, isTrue e X.env whole = (do let v ← whole; standAt e.pos; holding [v] (truthy v)) := by intro _; rfl) : ST Cs X e (tVal w) := ⟨fun h => wt_val ((hw.run h).mono tB_bT) he⟩
def tNot (t : TwT) : TwT := fun ρ M Ψ => t ρ M fun b M1 => Ψ (!b) M1
theorem st_not (h : ST Cs X a ta) : ST Cs X (.UnaryOp .Not a pos) (tNot ta) := ⟨fun q => wt_not (h.run q)⟩
theorem st_w (h : SW Cs X e ta) : ST Cs X e ta := ⟨fun q => (h.run q).wt⟩
theorem sw_or1 (h : ST Cs X a ta) : SW Cs X (.BoolOp .Or [a] pos) ta := ⟨fun q => ww_or1 (h.run q)⟩
def tOr (t u : TwT) : TwT := fun ρ M Ψ => t ρ M fun b M1 => match b with
  | true => Ψ true M1
  | false => u ρ M1 Ψ
theorem sw_or {rest : List Expr} (h : ST Cs X a ta) (h' : SW Cs X (.BoolOp .Or (b :: rest) pos) tb) : SW Cs X (.BoolOp .Or (a :: b :: rest) pos) (tOr ta tb) :=
  ⟨fun q => ww_or ((h.run q).mono fun c M1 z => ⟨fun e => by subst e; exact z, fun e => by subst e; exact h'.run z⟩)⟩
def wAnd (wa wb : TwE) : TwE := fun ρ M Φ => wa ρ M fun d M1 => match d with
  | .bl true => wb ρ M1 Φ
  | .bl false => Φ (.bl false) M1
  | _ => False
def wOr (wa wb : TwE) : TwE := fun ρ M Φ => wa ρ M fun d M1 => match d with
  | .bl true => Φ (.bl true) M1
  | .bl false => wb ρ M1 Φ
  | _ => False
theorem se_one {op : BoolOp} (h : SE Cs X a wa) : SE Cs X (.BoolOp op [a] pos) wa := ⟨fun q => we_one (h.run q)⟩
theorem se_and {rest : List Expr} (h : SE Cs X a wa) (h' : SE Cs X (.BoolOp .And (b :: rest) pos) wb) : SE Cs X (.BoolOp .And (a :: b :: rest) pos) (wAnd wa wb) :=
  ⟨fun q => we_and ((h.run q).mono fun d M1 z => by
    split at z
    · exact ⟨true, rfl, fun _ => h'.run z, nofun⟩
    · exact ⟨false, rfl, nofun, fun _ => z⟩
    · exact z.elim)⟩
theorem se_or {rest : List Expr} (h : SE Cs X a wa) (h' : SE Cs X (.BoolOp .Or (b :: rest) pos) wb) : SE Cs X (.BoolOp .Or (a :: b :: rest) pos) (wOr wa wb) :=
  ⟨fun q => we_or ((h.run q).mono fun d M1 z => by
    split at z
    · exact ⟨true, rfl, fun _ => z, nofun⟩
    · exact ⟨false, rfl, nofun, fun _ => h'.run z⟩
    · exact z.elim)⟩
def wIfE (t : TwT) (wa wb : TwE) : TwE := fun ρ M Φ => t ρ M fun b M1 => match b with
  | true => wa ρ M1 Φ
  | false => wb ρ M1 Φ
theorem se_if (ht : ST Cs X c ta) (ha : SE Cs X a wa) (hb : SE Cs X b wb) : SE Cs X (.IfExp c a b pos) (wIfE ta wa wb) :=
  ⟨fun q => we_if ((ht.run q).mono fun b M1 z => ⟨fun e => by subst e; exact ha.run z, fun e => by subst e; exact hb.run z⟩)⟩
/-! arguments, displays -/
def aNil : TwA := fun _ M Θ => Θ [] M
def aCons (wa : TwE) (was : TwA) : TwA := fun ρ M Θ => wa ρ M fun d M1 => was ρ M1 fun ds M2 => Θ (d :: ds) M2
theorem sa_nil : SA Cs X [] aNil := ⟨fun h => wa_nil h⟩
theorem sa_cons (ha : SE Cs X e wa) (h : SA Cs X es was) (hs : starEach (e :: es) X.env = (false, eval e X.env) :: starEach es X.env := by rfl) : SA Cs X (e :: es) (aCons wa was) := ⟨fun q => wa_cons ((ha.run q).mono fun _ _ z => h.run z) hs⟩
def wTup (was : TwA) : TwE := fun ρ M Φ => was ρ M fun ds M1 => ds.length ≤ 100000 ∧ Φ (.tup ds) M1
def wLst (was : TwA) : TwE := fun ρ M Φ => was ρ M fun ds M1 => ds.length ≤ 100000 ∧ Φ (.lst ds) M1
def wLstO (was : TwA) : TwE := fun ρ M Φ => was ρ M fun ds M1 => ds.length ≤ 100000 ∧ ∀ q, M1 q = none → Φ (.ref q) (put M1 q (.lst ds))
theorem se_tup {k : Nat} (h : SA Cs X es was) : SE Cs X (.Tuple es k pos) (wTup was) := ⟨fun q => we_tup (h.run q)⟩
theorem se_lst (h : SA Cs X es was) : SE Cs X (.List es pos) (wLst was) := ⟨fun q => we_lst (h.run q)⟩
theorem se_lstO (h : SA Cs X es was) : SE Cs X (.List es pos) (wLstO was) := ⟨fun q => we_lstO (h.run q)⟩
/-! calls -/
def wCall (S : TwC) (was : TwA) : TwE := fun ρ M Φ => was ρ M fun ds M1 => S ds M1 Φ
theorem se_call {k : Nat} {g : Addr} {S : FS} (Fn : FnD Cs X k g S) (hr : Rm k X.A) (hg : Gl X x) (hm : X.mg x = some (.ref g)) (hk : PySem.W.keepIn X.K (.ref g) = true) (h : SA Cs X (e :: es) was) (hdb : (x == ("__debug__" : Str)) = false := by decide) (he : starEach (e :: es) X.env = (false, eval e X.env) :: starEach es X.env := by rfl)
    (hpl : (backTo pos (starEach es X.env)).any (·.1) = false := by rfl) : SE Cs X (.Call (.Name x p) (e :: es) [] pos) (wCall S was) := ⟨fun q => we_call Fn hr hg hm hk (h.run q) hdb he hpl⟩
theorem se_call0 {k : Nat} {g : Addr} {S : FS} (Fn : FnD Cs X k g S) (hr : Rm k X.A) (hg : Gl X x) (hm : X.mg x = some (.ref g)) (hk : PySem.W.keepIn X.K (.ref g) = true) (hdb : (x == ("__debug__" : Str)) = false := by decide) : SE Cs X (.Call (.Name x p) [] [] pos) (wCall S aNil) := ⟨fun q => we_call0 Fn hr hg hm hk q hdb⟩
theorem se_callB {id : String} {q : TwC} (hg : Gl X x) (hm : X.mg x = none) (hv : bootBuiltins x = some (.builtin id)) (h : SA Cs X (e :: es) was) (hc : SC Cs X (.builtin id) q) (hn : x ≠ "__name__" := by decide) (hdb : (x == ("__debug__" : Str)) = false := by decide) (he : starEach (e :: es) X.env = (false, eval e X.env) :: starEach es X.env := by rfl)
    (hpl : (backTo pos (starEach es X.env)).any (·.1) = false := by rfl) : SE Cs X (.Call (.Name x p) (e :: es) [] pos) (wCall q was) := ⟨fun z => we_callB hg hm hv ((h.run z).mono fun _ _ z => hc.run z) hn hdb he hpl⟩
/-! statements -/
def wNil : TwS := fun ρ M E => E.nx ρ M
def wSeq (ws wr : TwS) : TwS := fun ρ M E => ws ρ M ⟨fun ρ' M' => wr ρ' M' E, E.rt, E.bk, E.ct⟩
theorem sss_nil : SSs Cs X [] wNil := ⟨fun h => wss_nil h⟩
theorem sss_cons (h : SS Cs X st ws) (h' : SSs Cs X rest wr) : SSs Cs X (st :: rest) (wSeq ws wr) := ⟨fun q => wss_cons ((h.run q).mono (fun _ _ z => h'.run z) (fun _ _ z => z) (fun _ _ z => z) (fun _ _ z => z))⟩
theorem sss_one (h : SS Cs X st ws) : SSs Cs X [st] ws := ⟨fun q => wss_one (h.run q)⟩
def wRet (w : TwE) : TwS := fun ρ M E => w ρ M E.rt
theorem ss_ret (h : SE Cs X e w) : SS Cs X (.Return (some e) pos) (wRet w) := ⟨fun q => ws_ret (h.run q)⟩
def wExpr (w : TwE) : TwS := fun ρ M E => w ρ M fun _ M1 => E.nx ρ M1
theorem ss_expr (h : SE Cs X e w) (hs : swapsWith e none pos.line X.env = pure false := by rfl) : SS Cs X (.Expr e pos) (wExpr w) := ⟨fun q => ws_expr (h.run q) hs⟩
def wIf (t : TwT) (w1 w2 : TwS) : TwS := fun ρ M E => t ρ M fun b M1 => match b with
  | true => w1 ρ M1 E
  | false => w2 ρ M1 E
theorem ss_if (ht : ST Cs X c ta) (h1 : SSs Cs X s1 w1) (h2 : SSs Cs X s2 w2) : SS Cs X (.If c s1 s2 pos) (wIf ta w1 w2) :=
  ⟨fun q => ws_if ((ht.run q).mono fun b M1 z => ⟨fun e => by subst e; exact h1.run z, fun e => by subst e; exact h2.run z⟩)⟩
def wSet (i : Nat) (w : TwE) : TwS := fun ρ M E => w ρ M fun d M1 => E.nx (ρ.set i (some d)) M1
theorem ss_set (i : Nat) (hN : X.N.Nodup) (hi : X.N[i]? = some x) (hx : Loc X.env.scope x) (h : SE Cs X e w) (hs : swapsWith e (some (.Name x pos')) pos.line X.env = pure false := by rfl)
    (hf : X.fn x = true ∨ X.env.scope.names.lookup x = some .local := by first | exact .inl rfl | exact .inr rfl) : SS Cs X (.Assign [.Name x pos'] e pos) (wSet i w) := ⟨fun q => ws_set i hN hi hx (h.run q) hs hf⟩
/-! targets -/
def gName (i : Nat) : TwG := fun d ρ M K => K (ρ.set i (some d)) M
theorem sg_name (i : Nat) (hN : X.N.Nodup) (hi : X.N[i]? = some x) (hx : Loc X.env.scope x) (hf : X.fn x = true ∨ X.env.scope.names.lookup x = some .local := by first | exact .inl rfl | exact .inr rfl) : SG Cs X (.Name x pos) (DL.gName i) := ⟨fun h => wg_name i hN hi hx h hf⟩
def gsNil : TwGs := fun ds ρ M K => match ds with
  | [] => K ρ M
  | _ => False
def gsCons (g : TwG) (gs : TwGs) : TwGs := fun ds ρ M K => match ds with
  | d :: ds => g d ρ M fun ρ1 M1 => gs ds ρ1 M1 K
  | [] => False
end
end DL
namespace DL
open PySem PySem.Spec PyProof.Rows L2
section
variable {Cs : Gc} {X : Cx} {a b c e o elt tg iter cond kx vx : Expr} {es : List Expr} {pos p apos pos' cpos spos tpos py px pt pt2 : Pos} {st : Stmt} {sts rest body s1 s2 : List Stmt} {x y z f m : Str} {wa wb wc w wo wi wk wv : TwE} {ta tb : TwT} {was : TwA} {ws wr w1 w2 : TwS} {g : TwG} {gs : TwGs} {I : TwI} {wl wh : TwP} {n k kk : Nat}
theorem sgs_nil : SGs Cs X [] 0 gsNil := ⟨fun {ds ρ M K} h => by
  unfold gsNil at h
  split at h
  · exact wgs_nil h
  · exact h.elim, fun {ds ρ M K} h => by
  unfold gsNil at h
  split at h
  · rfl
  · exact h.elim⟩
theorem sgs_cons (h : SG Cs X e g) (h' : SGs Cs X es n gs) (hs : (assignEach (e :: es) X.env).map (·.2) = assign e X.env :: (assignEach es X.env).map (·.2) := by rfl)
    (hm : ∀ {d ρ M} {K K' : Env → Mem → Prop}, (∀ ρ M, K ρ M → K' ρ M) → g d ρ M K → g d ρ M K') (hx : ∀ {d ρ M}, g d ρ M (fun _ _ => False) → False) : SGs Cs X (e :: es) (n + 1) (gsCons g gs) :=
  ⟨fun {ds ρ M K} q => by
    unfold gsCons at q
    split at q
    · exact wgs_cons ((h.run q).mono fun _ _ z => h'.run z) hs
    · exact q.elim, fun {ds ρ M K} q => by
    unfold gsCons at q
    split at q
    · rename_i d ds
      refine Classical.byContradiction fun ne => hx (d := d) (ρ := ρ) (M := M) (hm (fun ρ1 M1 z => ?_) q)
      exact ne (congrArg Nat.succ (h'.len z))
    · exact q.elim⟩
theorem gn_mono {i : Nat} {d : D} {ρ : Env} {M : Mem} {K K' : Env → Mem → Prop} (h : ∀ ρ M, K ρ M → K' ρ M) (q : DL.gName i d ρ M K) : DL.gName i d ρ M K' := h _ _ q
theorem gn_no {i : Nat} {d : D} {ρ : Env} {M : Mem} (q : DL.gName i d ρ M (fun _ _ => False)) : False := q
/-- a name ahead of others -/
theorem sgs_n {i : Nat} (h : SG Cs X e (DL.gName i)) (h' : SGs Cs X es n gs) (hs : (assignEach (e :: es) X.env).map (·.2) = assign e X.env :: (assignEach es X.env).map (·.2) := by rfl) : SGs Cs X (e :: es) (n + 1) (gsCons (DL.gName i) gs) :=
  sgs_cons h h' hs gn_mono gn_no
def gTu (gs : TwGs) : TwG := fun d ρ M K => match d with
  | .tup ds => gs ds ρ M K
  | .lst ds => gs ds ρ M K
  | _ => False
theorem sg_tup (hc : X.calm = true) (h : SGs Cs X es n gs) (hn : (assignEach es X.env).length = n := by rfl) (hst : (assignEach es X.env).findIdx? (·.1) = none := by rfl) : SG Cs X (.Tuple es kk pos) (gTu gs) :=
  ⟨fun {d ρ M K} q => by
    unfold gTu at q
    split at q
    · exact wg_tup hc (h.len q) (h.run q) hn hst
    · exact wg_unl hc (h.len q) (h.run q) hn hst
    · exact q.elim⟩
def dKey : D → Option Key
  | .int i => some (.inl i)
  | .str x => some (.inr x)
  | _ => none
theorem dKey_ok {d : D} {k : Key} (h : dKey d = some k) : d = keyD k := by
  cases d <;> simp [dKey] at h <;> subst h <;> rfl
def wAsg (w : TwE) (g : TwG) : TwS := fun ρ M E => w ρ M fun d M1 => g d ρ M1 E.nx
theorem ss_asg (h : SE Cs X e w) (hg : SG Cs X tg g) (hs : swapsWithSole [tg] e pos.line X.env = pure false := by rfl) (hw : swappedStores [tg] e X.env = pure none := by rfl)
    (h1 : (assignEach [tg] X.env).map (·.2) = [assign tg X.env] := by rfl) : SS Cs X (.Assign [tg] e pos) (wAsg w g) := ⟨fun q => ws_asg ((h.run q).mono fun _ _ z => hg.run z) hs hw h1⟩
def wPar (i j : Nat) (was : TwA) : TwS := fun ρ M E => was ρ M fun ds M1 => match ds with
  | [d1, d2] => E.nx ((ρ.set i (some d1)).set j (some d2)) M1
  | _ => False
theorem ss_par {kt k2 : Nat} (i j : Nat) (hc : X.calm = true) (hN : X.N.Nodup) (h : SA Cs X [a, b] was) (hi : X.N[i]? = some x := by rfl) (hj : X.N[j]? = some y := by rfl) (hij : i ≠ j := by decide)
    (hx : X.env.scope.names.lookup x = some .local := by rfl) (hy : X.env.scope.names.lookup y = some .local := by rfl)
    (hw : swappedStores [.Tuple [.Name x px, .Name y py] kt pt] (.Tuple [a, b] k2 pt2) X.env = pure (some [x, y]) := by rfl)
    (hs : swapsWithSole [.Tuple [.Name x px, .Name y py] kt pt] (.Tuple [a, b] k2 pt2) pos.line X.env = pure false := by rfl) : SS Cs X (.Assign [.Tuple [.Name x px, .Name y py] kt pt] (.Tuple [a, b] k2 pt2) pos) (wPar i j was) :=
  ⟨fun q => ws_par i j hc hN hi hj hij hx hy hw ((h.run q).mono fun ds M1 z => by
    split at z
    · exact ⟨_, _, rfl, z⟩
    · exact z.elim) hs⟩
/-! loops -/
def Lp (U : Mem → Prop) (g : TwG) (B : TwS) : List D → Env → Mem → DE → Prop
  | [], ρ, M, E => U M ∧ E.nx ρ M
  | d :: ds, ρ, M, E => U M ∧ g d ρ M fun ρ1 M1 => B ρ1 M1 ⟨fun ρ2 M2 => Lp U g B ds ρ2 M2 E, E.rt, E.nx, fun ρ2 M2 => Lp U g B ds ρ2 M2 E⟩
def wFor (I : TwI) (g : TwG) (B : TwS) : TwS := fun ρ M E => I ρ M fun U ds M1 => Lp U g B ds ρ M1 E
theorem drop_at {α : Type} {l : List α} {i : Nat} {d : α} (h : l[i]? = some d) : l.drop i = d :: l.drop (i + 1) := by
  obtain ⟨hi, e⟩ := List.getElem?_eq_some_iff.mp h
  rw [List.drop_eq_getElem_cons hi, e]
theorem ss_for (hp : PassesOwn (model X.prog X.w) X.A X.env X.xe) (hc : X.calm = true) (hi : SI Cs X tg iter I) (hg : SG Cs X tg g) (hb : SSs Cs X body w1)
    (hs : ∀ x, foldedSetIterable iter X.env x = pure x := by intro _; rfl) : SS Cs X (.For tg iter body [] pos) (wFor I g w1) :=
  ⟨fun {ρ M E} q => ws_for hp hc ((hi.run q).mono fun U ds M1 z => by
    refine ⟨fun i ρ' M' => Lp U g w1 (ds.drop i) ρ' M' E, z, fun i ρ' M' _ h => ?_, fun i d ρ' M' hd h => ?_, fun ρ' M' h => ?_⟩
    · have h : Lp U g w1 (ds.drop i) ρ' M' E := h
      cases hh : ds.drop i with
      | nil => rw [hh] at h; exact h.1
      | cons d r => rw [hh] at h; exact h.1
    · have h : Lp U g w1 (ds.drop i) ρ' M' E := h
      rw [drop_at hd] at h
      exact (hg.run h.2).mono fun ρ2 M2 z2 => hb.run z2
    · have h : Lp U g w1 (ds.drop ds.length) ρ' M' E := h
      rw [List.drop_length] at h
      exact h.2) hs⟩
/-! what is gone over -/
def iLst (w : TwE) : TwI := fun ρ M K => w ρ M fun x M1 => match x with
  | .lst ds => K (fun _ => True) ds M1
  | _ => False
theorem si_lst (h : SE Cs X iter w) : SI Cs X tg iter (iLst w) := ⟨fun q => wi_lst ((h.run q).mono fun x M1 z => by
  split at z
  · exact ⟨_, rfl, z⟩
  · exact z.elim)⟩
def iRng (w : TwE) : TwI := fun ρ M K => w ρ M fun x M1 => match x with
  | .int i => 0 ≤ i ∧ i ≤ 100000 ∧ K (fun _ => True) (upTo i.toNat) M1
  | _ => False
theorem si_range (hg : Gl X "range") (hm : X.mg "range" = none) (h : SE Cs X e w) (hst : starEach [e] X.env = [(false, eval e X.env)] := by rfl) : SI Cs X tg (.Call (.Name "range" p) [e] [] apos) (iRng w) := ⟨fun q => wi_range hg hm ((h.run q).mono fun x M1 z => by
  split at z
  · obtain ⟨z1, z2, z3⟩ := z
    exact ⟨_, by rw [Int.toNat_of_nonneg z1], by omega, z3⟩
  · exact z.elim) hst⟩
/-! comprehensions -/
abbrev Stp := D → Env → (Env → Prop) → Prop
def Stp.Mono (s : Stp) : Prop := ∀ d ρ (K K' : Env → Prop), (∀ ρ, K ρ → K' ρ) → s d ρ K → s d ρ K'
theorem mono_N (j : Nat) : Stp.Mono (stN j) := fun d ρ K K' h q => h _ q
def Cp (U : Mem → Prop) (s : Stp) (w : TwE) (ρ0 : Env) (K : List D → Mem → Prop) : List D → List D → Mem → Prop
  | [], acc, M => U M ∧ K acc M
  | d :: ds, acc, M => U M ∧ s d ρ0 fun ρ2 => w ρ2 M fun y M3 => Cp U s w ρ0 K ds (acc ++ [y]) M3
def CpIf (U : Mem → Prop) (s : Stp) (t : TwT) (w : TwE) (ρ0 : Env) (K : List D → Mem → Prop) : List D → List D → Mem → Prop
  | [], acc, M => U M ∧ K acc M
  | d :: ds, acc, M => U M ∧ s d ρ0 fun ρ2 => t ρ2 M fun b M2 => match b with
    | true => w ρ2 M2 fun y M3 => CpIf U s t w ρ0 K ds (acc ++ [y]) M3
    | false => CpIf U s t w ρ0 K ds acc M2
theorem Cp.u {U : Mem → Prop} {s : Stp} {ρ0 : Env} {K : List D → Mem → Prop} {ds acc : List D} {M : Mem} (h : Cp U s w ρ0 K ds acc M) : U M := by
  cases ds with
  | nil => exact h.1
  | cons d ds => exact h.1
theorem CpIf.u {U : Mem → Prop} {s : Stp} {t : TwT} {ρ0 : Env} {K : List D → Mem → Prop} {ds acc : List D} {M : Mem} (h : CpIf U s t w ρ0 K ds acc M) : U M := by
  cases ds with
  | nil => exact h.1
  | cons d ds => exact h.1
theorem cp_ok {scope : Scope} {vs : List Nat} {s : Stp} {U : Mem → Prop} {ds : List D} {ρ : Env} {M : Mem} {Φ : Kd} {K : List D → Mem → Prop} (hK : ∀ acc M, K acc M → Φ (.lst acc) M) (hm : s.Mono) (he : ∀ s0 H0 C cl fp, SE Cs (bX X scope s0 H0 C cl fp) elt w) (hl : ds.length ≤ 40000) (h : Cp U s w (wipeE ρ vs) K ds [] M) : LcU Cs X scope elt none vs s U ds ρ M Φ := by
  refine ⟨hl, fun i acc M' => acc.length ≤ i ∧ Cp U s w (wipeE ρ vs) K (ds.drop i) acc M', ⟨Nat.le_refl _, h⟩, fun i acc M' _ z => ⟨z.2.u, z.1⟩, fun i d acc M' hd z => ?_, fun acc M' z => ?_⟩
  · have z2 := z.2
    rw [drop_at hd] at z2
    refine hm _ _ _ _ (fun ρ2 z3 s0 H0 C cl fp => ?_) z2.2
    exact ((he s0 H0 C cl fp).run z3).mono fun y M3 z4 => ⟨by rw [List.length_append]; exact Nat.succ_le_succ z.1, z4⟩
  · have z2 := z.2
    rw [List.drop_length] at z2
    exact hK _ _ z2.2
def TwE.Mono (w : TwE) : Prop := ∀ ρ M (Φ Φ' : Kd), (∀ d M, Φ d M → Φ' d M) → w ρ M Φ → w ρ M Φ'
def wLc (I : TwI) (vs : List Nat) (s : Stp) (w : TwE) : TwE := fun ρ M Φ => I ρ M fun U ds M1 => ds.length ≤ 40000 ∧ Cp U s w (wipeE ρ vs) (fun acc M => Φ (.lst acc) M) ds [] M1
section
variable {scope : Scope} {own : List (Str × Nat)} {vs : List Nat} {s : Stp} {g' : TG}
theorem se_lc (hc : X.calm = true) (hN : X.N.Nodup) (ok : BlkOk X.N X.env.scope scope own) (hG : ∀ (s : Shared) (H : Hp) (C : Addr) (cl : List (Str × Addr)) (fp : List Addr), PG (bX X scope s H C cl fp) tg g') (tgr : TgR Cs g' (own.map (·.2)) s) (hm : s.Mono)
    (hi : SI Cs X tg iter I) (he : ∀ s0 H0 C cl fp, SE Cs (bX X scope s0 H0 C cl fp) elt w) (hs : ∀ x, foldedSetIterable iter X.env x = pure x := by intro _; rfl) : SE Cs X (.ListComp elt [⟨tg, iter, [], 0⟩] scope pos) (wLc I (own.map (·.2)) s w) :=
  ⟨fun q => we_lc hc hN ok hG tgr ((hi.run q).mono fun U ds M1 z => cp_ok (fun _ _ h => h) hm he z.1 z.2) hs⟩
/-- {k: v for ..} -/
def CpD (U : Mem → Prop) (s : Stp) (wk wv : TwE) (ρ0 : Env) (q : Addr) (K : List Key → List D → Mem → Prop) : List D → List Key → List D → Mem → Prop
  | [], ks, ds, M => U M ∧ M q = some (.dct ks ds) ∧ K ks ds M
  | d :: its, ks, ds, M => U M ∧ M q = some (.dct ks ds) ∧ s d ρ0 fun ρ2 => wk ρ2 M fun kd M2 => wv ρ2 M2 fun vd M3 => match dKey kd with
    | some key => M3 q = some (.dct ks ds) ∧ key ∉ ks ∧ CpD U s wk wv ρ0 q K its (ks ++ [key]) (ds ++ [vd]) (put M3 q (.dct (ks ++ [key]) (ds ++ [vd])))
    | none => False
theorem CpD.u {U : Mem → Prop} {s : Stp} {ρ0 : Env} {q : Addr} {K : List Key → List D → Mem → Prop} {its ds : List D} {ks : List Key} {M : Mem} (h : CpD U s wk wv ρ0 q K its ks ds M) : U M ∧ M q = some (.dct ks ds) := by
  cases its with
  | nil => exact ⟨h.1, h.2.1⟩
  | cons d its => exact ⟨h.1, h.2.1⟩
end
end
end DL
namespace DL
open PySem PySem.Spec PyProof.Rows L2
/-! ### tables of own operators -/
inductive AllU (P : Nat → FS → Prop) : List (Nat × FS) → Prop
  | nil : AllU P []
  | cons {n : Nat} {S : FS} {r : List (Nat × FS)} (h : P n S) (t : AllU P r) : AllU P ((n, S) :: r)
def luk : List (Nat × FS) → Nat → (FS → Prop) → Prop
  | [], _, _ => False
  | (n, S) :: r, c, K => match Nat.beq n c with
    | true => K S
    | false => luk r c K
theorem luk_ok {P : Nat → FS → Prop} : ∀ {us : List (Nat × FS)} {c : Nat} {K : FS → Prop}, AllU P us → luk us c K → ∃ S, P c S ∧ K S
  | [], _, _, _, h => h.elim
  | (n, S) :: r, c, K, .cons hp t, h => by
    unfold luk at h
    split at h
    · rename_i e
      have := Nat.eq_of_beq_eq_true e
      subst this
      exact ⟨S, hp, h⟩
    · exact luk_ok t h
section
variable (Cs : Gc) (X : Cx)
def OpOk (op : Operator) (n : Nat) (S : FS) : Prop := ∃ k g, PySem.W.selfFirst X.K (Cs n) = true ∧ PySem.W.findIn X.K (.ref (Cs n)) (PySem.dunder op.info.2) = some (some (.ref g)) ∧ PySem.W.isFn X.K (.ref g) = true ∧ FnD Cs X k g S ∧ Rm k X.A
def CmOk (op : CmpOp) (n : Nat) (S : FS) : Prop := ∃ k g, PySem.W.notFirst X.K (Cs n) (.ref (Cs n)) = true ∧ PySem.W.findIn X.K (.ref (Cs n)) (cmpInfo op).2.1 = some (some (.ref g)) ∧ PySem.W.isFn X.K (.ref g) = true ∧ FnD Cs X k g S ∧ Rm k X.A
def EqTOk (n : Nat) (S : FS) : Prop := ∃ k g, (∀ y : D, y.noO = true → PySem.W.notFirst X.K (Cs n) (tyD Cs y) = true) ∧ PySem.W.findIn X.K (.ref (Cs n)) "__eq__" = some (some (.ref g)) ∧ PySem.W.isFn X.K (.ref g) = true ∧ FnD Cs X k g S ∧ Rm k X.A
def NeOk (n : Nat) (S : FS) : Prop := ∃ k g, PySem.W.findIn X.K (.ref (Cs n)) "__ne__" = some (some (.builtin "object.__ne__")) ∧ PySem.W.mroIn X.K (Cs n) (.type "object") = some true ∧ PySem.W.findIn X.K (.ref (Cs n)) "__eq__" = some (some (.ref g)) ∧ PySem.W.isFn X.K (.ref g) = true ∧ FnD Cs X k g S ∧ Rm (k + 1) X.A
end
def pAdd (us : List (Nat × FS)) : TwO := fun x y M Φ => match x, y with
  | .int i, .int j => Φ (.int (i + j)) M
  | .str a, .str b => a.length + b.length ≤ 100000 ∧ Φ (.str (a ++ b)) M
  | .lst a, .lst b => a.length + b.length ≤ 100000 ∧ Φ (.lst (a ++ b)) M
  | .tup a, .tup b => a.length + b.length ≤ 100000 ∧ Φ (.tup (a ++ b)) M
  | .obj c _, .obj d _ => match Nat.beq d c with
    | true => luk us c fun S => S [x, y] M Φ
    | false => False
  | _, _ => False
def pMul (us : List (Nat × FS)) : TwO := fun x y M Φ => match x, y with
  | .int i, .int j => CMulW i j ∧ Φ (.int (i * j)) M
  | .obj c _, .obj d _ => match Nat.beq d c with
    | true => luk us c fun S => S [x, y] M Φ
    | false => False
  | _, _ => False
def pPow : TwO := fun x y M Φ => match x, y with
  | .int i, .int j => (0 ≤ j ∧ (Builtin.Int.intBits i : Int) * j ≤ 2 ^ 27) ∧ Φ (.int (i ^ j.toNat)) M
  | _, _ => False
def pNeg : TwU := fun x M Φ => match x with
  | .int i => Φ (.int (-i)) M
  | _ => False
def pLt (us : List (Nat × FS)) : TwO := fun x y M Φ => match x, y with
  | .int i, .int j => Φ (.bl (decide (i < j))) M
  | .obj c _, .obj d _ => match Nat.beq d c with
    | true => luk us c fun S => S [x, y] M Φ
    | false => False
  | _, _ => False
def pLe (us : List (Nat × FS)) : TwO := fun x y M Φ => match x, y with
  | .int i, .int j => Φ (.bl (decide (i ≤ j))) M
  | .obj c _, .obj d _ => match Nat.beq d c with
    | true => luk us c fun S => S [x, y] M Φ
    | false => False
  | _, _ => False
def plainEq (x y : D) (K : Bool → Prop) : Prop := x.isPy = true ∧ y.isPy = true ∧ SeqAt.shaped x.py = true ∧ SeqAt.shaped y.py = true ∧ K (PyData.eqv x.py y.py)
def pEq (us ut : List (Nat × FS)) : TwO := fun x y M Φ => match x, y with
  | .int i, .int j => Φ (.bl (decide (i = j))) M
  | .str i, .str j => Φ (.bl (decide (i = j))) M
  | .bl i, .bl j => Φ (.bl (decide (i = j))) M
  | .ref q, .lst [] => ∃ ds, M q = some (.lst ds) ∧ Φ (.bl ds.isEmpty) M
  | .ref q, .dct [] [] => ∃ ks ds, M q = some (.dct ks ds) ∧ Φ (.bl ks.isEmpty) M
  | .obj c _, .obj d _ => match Nat.beq d c with
    | true => luk us c fun S => S [x, y] M Φ
    | false => False
  | .obj c _, _ => y.noO = true ∧ luk ut c fun S => S [x, y] M Φ
  | _, _ => plainEq x y fun b => Φ (.bl b) M
def pNe (us : List (Nat × FS)) : TwO := fun x y M Φ => match x, y with
  | .int i, .int j => Φ (.bl (!decide (i = j))) M
  | .str i, .str j => Φ (.bl (!decide (i = j))) M
  | .bl i, .bl j => Φ (.bl (!decide (i = j))) M
  | .ref q, .lst [] => ∃ ds, M q = some (.lst ds) ∧ Φ (.bl (!ds.isEmpty)) M
  | .ref q, .dct [] [] => ∃ ks ds, M q = some (.dct ks ds) ∧ Φ (.bl (!ks.isEmpty)) M
  | .obj c _, .obj d _ => match Nat.beq d c with
    | true => luk us c fun S => S [x, y] M fun d M1 => ∃ t, d = .bl t ∧ Φ (.bl (!t)) M1
    | false => False
  | _, _ => plainEq x y fun b => Φ (.bl (!b)) M
def pIs : TwO := fun x y M Φ => match y with
  | .non => Φ (.bl x.isNon) M
  | _ => False
def pIx : TwO := fun x y M Φ => match x with
  | .tup ds => match y with
    | .int i => match atI ds i with
      | some d => Φ d M
      | none => False
    | _ => False
  | .lst ds => match y with
    | .int i => match atI ds i with
      | some d => Φ d M
      | none => False
    | _ => False
  | .str x => match y with
    | .int i => x.length ≤ 100000 ∧ match atI x.cps.toList i with
      | some c => Φ (.str ⟨#[c]⟩) M
      | none => False
    | _ => False
  | .dct ks ds => match dKey y with
    | some key => match getK ks ds key with
      | some d => Φ d M
      | none => False
    | none => False
  | .ref q => ∃ m, M q = some m ∧ match m with
    | .lst ds => match y with
      | .int i => match atI ds i with
        | some d => Φ d M
        | none => False
      | _ => False
    | .dct ks ds => match dKey y with
      | some key => match getK ks ds key with
        | some d => Φ d M
        | none => False
      | none => False
    | .dcn ks ds => KeyD y ∧ match getN ks ds (nk y) with
      | some d => Φ d M
      | none => False
    | .dcz _ ks ds => KeyD y ∧ match getN ks ds (nk y) with
      | some d => Φ d M
      | none => False
    | _ => False
  | _ => False
section
variable {Cs : Gc} {X : Cx} {us ut : List (Nat × FS)} {k : Nat}
theorem beq_c {c d : Nat} (h : Nat.beq d c = true) : d = c := Nat.eq_of_beq_eq_true h
theorem so_add (hu : AllU (OpOk Cs X .Add) us) : SO Cs X (binaryOp .Add) (pAdd us) := ⟨fun {x y M Φ} h => by
  unfold pAdd at h
  split at h
  · exact wo_add h
  · exact wo_addS h.1 h.2
  · exact wo_catL h.1 h.2
  · exact wo_catT h.1 h.2
  · split at h
    · rename_i e; have := beq_c e; subst this
      obtain ⟨S, ⟨k, g, h1, h2, h3, h4, h5⟩, h6⟩ := luk_ok hu h
      exact wo_bin h1 h2 h3 h4 h5 h6
    · exact h.elim
  · exact h.elim⟩
theorem so_mul (hu : AllU (OpOk Cs X .Mult) us) : SO Cs X (binaryOp .Mult) (pMul us) := ⟨fun {x y M Φ} h => by
  unfold pMul at h
  split at h
  · exact wo_mul h.1 h.2
  · split at h
    · rename_i e; have := beq_c e; subst this
      obtain ⟨S, ⟨k, g, h1, h2, h3, h4, h5⟩, h6⟩ := luk_ok hu h
      exact wo_bin h1 h2 h3 h4 h5 h6
    · exact h.elim
  · exact h.elim⟩
theorem so_pow : SO Cs X (binaryOp .Pow) pPow := ⟨fun {x y M Φ} h => by
  unfold pPow at h
  split at h
  · exact wo_pow h.1 h.2
  · exact h.elim⟩
theorem su_neg : SU Cs X (unaryOp .USub) pNeg := ⟨fun {x M Φ} h => by
  unfold pNeg at h
  split at h
  · exact wu_neg h
  · exact h.elim⟩
theorem so_lt (hu : AllU (CmOk Cs X .Lt) us) : SO Cs X (compareOp .Lt) (pLt us) := ⟨fun {x y M Φ} h => by
  unfold pLt at h
  split at h
  · exact wo_lt h
  · split at h
    · rename_i e; have := beq_c e; subst this
      obtain ⟨S, ⟨k, g, h1, h2, h3, h4, h5⟩, h6⟩ := luk_ok hu h
      exact wo_own (fun _ _ => rfl) h1 h2 h3 h4 h5 h6
    · exact h.elim
  · exact h.elim⟩
theorem so_le (hu : AllU (CmOk Cs X .LtE) us) : SO Cs X (compareOp .LtE) (pLe us) := ⟨fun {x y M Φ} h => by
  unfold pLe at h
  split at h
  · exact wo_le h
  · split at h
    · rename_i e; have := beq_c e; subst this
      obtain ⟨S, ⟨k, g, h1, h2, h3, h4, h5⟩, h6⟩ := luk_ok hu h
      exact wo_own (fun _ _ => rfl) h1 h2 h3 h4 h5 h6
    · exact h.elim
  · exact h.elim⟩
theorem so_eq (hr : Rm k X.A) (hu : AllU (CmOk Cs X .Eq) us) (ht : AllU (EqTOk Cs X) ut) : SO Cs X (compareOp .Eq) (pEq us ut) := ⟨fun {x y M Φ} h => by
  unfold pEq at h
  split at h
  · exact wo_eqI h
  · exact wo_eqS h
  · exact wo_eqB h
  · obtain ⟨ds, h1, h2⟩ := h; exact wo_eqNil hr h1 h2
  · obtain ⟨ks, ds, h1, h2⟩ := h; exact wo_eqE hr h1 h2
  · split at h
    · rename_i e; have := beq_c e; subst this
      obtain ⟨S, ⟨k, g, h1, h2, h3, h4, h5⟩, h6⟩ := luk_ok hu h
      exact wo_own (fun _ _ => rfl) h1 h2 h3 h4 h5 h6
    · exact h.elim
  · obtain ⟨h0, h⟩ := h
    obtain ⟨S, ⟨k, g, h1, h2, h3, h4, h5⟩, h6⟩ := luk_ok ht h
    exact wo_ownT (fun _ _ => rfl) h0 (h1 _ h0) h2 h3 h4 h5 h6
  · obtain ⟨h1, h2, h3, h4, h5⟩ := h
    exact wo_eqD hr h1 h2 h3 h4 h5⟩
theorem so_is : SO Cs X (compareOp .Is) pIs := ⟨fun {x y M Φ} h => by
  unfold pIs at h
  split at h
  · exact wo_isN h
  · exact h.elim⟩
theorem so_ne (hr : Rm k X.A) (hu : AllU (NeOk Cs X) us) : SO Cs X (compareOp .NotEq) (pNe us) := ⟨fun {x y M Φ} h => by
  unfold pNe at h
  split at h
  · exact wo_neI h
  · exact wo_neS h
  · exact wo_neB h
  · obtain ⟨ds, h1, h2⟩ := h; exact wo_neNil hr h1 h2
  · obtain ⟨ks, ds, h1, h2⟩ := h; exact wo_neE hr h1 h2
  · split at h
    · rename_i e; have := beq_c e; subst this
      obtain ⟨S, ⟨k, g, h1, h2, h3, h4, h5, h6⟩, h7⟩ := luk_ok hu h
      exact wo_ne h1 h2 h3 h4 h5 h6 h7
    · exact h.elim
  · obtain ⟨h1, h2, h3, h4, h5⟩ := h
    exact wo_neD hr h1 h2 h3 h4 h5⟩
theorem six (hr : Rm k X.A) (hw : X.w = Cs.w) : SIx Cs X pIx := ⟨fun {x y M Φ} h => by
  unfold pIx at h
  split at h
  · split at h
    · split at h
      · rename_i e; exact wix_tup e h
      · exact h.elim
    · exact h.elim
  · split at h
    · split at h
      · rename_i e; exact wix_lst e h
      · exact h.elim
    · exact h.elim
  · split at h
    · obtain ⟨h0, h⟩ := h
      split at h
      · rename_i e; exact wix_str h0 e h
      · exact h.elim
    · exact h.elim
  · split at h
    · rename_i hk
      split at h
      · rename_i e; rw [dKey_ok hk]; exact wix_dct hr e h
      · exact h.elim
    · exact h.elim
  · obtain ⟨m, hM, h⟩ := h
    split at h
    · split at h
      · split at h
        · rename_i e; exact wix_own hM e h
        · exact h.elim
      · exact h.elim
    · split at h
      · rename_i hk
        split at h
        · rename_i e; rw [dKey_ok hk]; exact wix_dctO hr hM e h
        · exact h.elim
      · exact h.elim
    · obtain ⟨h0, h⟩ := h
      split at h
      · rename_i e; exact wix_N hw hr (.inl hM) h0 e h
      · exact h.elim
    · obtain ⟨h0, h⟩ := h
      split at h
      · rename_i e; exact wix_N hw hr (.inr ⟨_, hM⟩) h0 e h
      · exact h.elim
    · exact h.elim
  · exact h.elim⟩
end
end DL
namespace DL
open PySem PySem.Spec PyProof.Rows L2
/-! ### builtins -/
def pAll : TwC := fun xs M Φ => match xs with
  | [.lst ds] => ∃ bs : List Bool, ds = bs.map D.bl ∧ Φ (.bl (bs.all id)) M
  | _ => False
def pReprZ : TwC := fun xs M Φ => match xs with
  | [d] => ∃ n c, Shz n c d ∧ n ≤ 60 ∧ c ≤ 16000000 ∧ Φ (.str d.pz.shown) M
  | _ => False
section
variable {Cs : Gc} {X : Cx} {us ut : List (Nat × FS)} {k : Nat}
theorem sc_all (hc : X.calm = true) : SC Cs X (.builtin "all") pAll := ⟨fun {xs M Φ} h => by
  unfold pAll at h
  split at h
  · obtain ⟨bs, rfl, h⟩ := h; exact wc_all hc h
  · exact h.elim⟩
theorem sc_reprZ (hs : ∃ o, X.K.lookup sysModules = some o ∧ o.cls = .type "dict") (hr : Rm k X.A) : SC Cs X (.builtin "repr") pReprZ := ⟨fun {xs M Φ} h => by
  unfold pReprZ at h
  split at h
  · obtain ⟨n, c, h1, h2, h3, h4⟩ := h; exact wc_reprZ hs hr h1 h2 h3 h4
  · exact h.elim⟩
end
/-! isinstance -/
inductive Tn where
  | non | bl | int | str | tup | lst | dct
def Tn.nm : Tn → String
  | .non => "NoneType"
  | .bl => "bool"
  | .int => "int"
  | .str => "str"
  | .tup => "tuple"
  | .lst => "list"
  | .dct => "dict"
def D.tn : D → Option Tn
  | .non => some .non
  | .bl _ => some .bl
  | .int _ => some .int
  | .str _ => some .str
  | .tup _ => some .tup
  | .lst _ => some .lst
  | .dct _ _ => some .dct
  | _ => none
def Tn.isA : Tn → Tn → Bool
  | .non, .non => true
  | .bl, .bl => true
  | .bl, .int => true
  | .int, .int => true
  | .str, .str => true
  | .tup, .tup => true
  | .lst, .lst => true
  | .dct, .dct => true
  | _, _ => false
section
variable {Cs : Gc} {X : Cx} {us ut : List (Nat × FS)} {k : Nat} {a b c e o i elt tg iter cond kx vx : Expr} {es : List Expr} {pos p apos pos' cpos spos tpos py px pt p2 : Pos} {x y z f m : Str} {wa wb wc w wo wi wk wv we' : TwE} {was : TwA} {wl wh : TwP} {S : FS}
def IsiO (Cs : Gc) (K : PySem.W.Frag) (n : Tn) : List Nat → Prop
  | [] => True
  | c :: r => (SlX.SCls K (Cs c) ∧ SlX.SIsi K (Cs c) ∧ PySem.W.kitOne K (.ref (Cs c)) (.type n.nm) = some false) ∧ IsiO Cs K n r
def memN : List Nat → Nat → Bool
  | [], _ => false
  | n :: r, c => match Nat.beq n c with
    | true => true
    | false => memN r c
theorem memN_ok {P : Nat → Prop} {Q : List Nat → Prop} (hQ : ∀ c r, Q (c :: r) → P c ∧ Q r) : ∀ {l : List Nat} {c : Nat}, Q l → memN l c = true → P c
  | [], _, _, h => by cases h
  | n :: r, c, q, h => by
    unfold memN at h
    split at h
    · rename_i e; have := beq_c e; subst this; exact (hQ _ _ q).1
    · exact memN_ok hQ (hQ _ _ q).2 h
def pIsiTo (l : List Nat) (n : Tn) : TwU := fun x M Φ => match x with
  | .obj c _ => memN l c = true ∧ Φ (.bl false) M
  | _ => match x.tn with
    | some t => Φ (.bl (t.isA n)) M
    | none => False
theorem tyD_tn {d : D} {t : Tn} (h : d.tn = some t) : tyD Cs d = .type t.nm := by
  cases d <;> simp [D.tn] at h <;> subst h <;> rfl
theorem noob (d : D) : d.tn.isSome = true → (match d with | .obj _ _ => false | .ref _ => false | .ty _ => false | .exc _ _ => false | .fn _ _ _ => false | _ => true) = true := by
  cases d <;> simp [D.tn]
theorem se_isiT {l : List Nat} (n : Tn) (hp : ∀ t : Tn, PySem.W.kitOne X.K (.type t.nm) (.type n.nm) = some (t.isA n)) (ho : IsiO Cs X.K n l) (hg : Gl X "isinstance") (hm : X.mg "isinstance" = none) (ha : SE Cs X a wa) (hb : SE Cs X b (wPure (.ty n.nm)))
    (he : starEach (a :: [b]) X.env = (false, eval a X.env) :: starEach [b] X.env := by rfl) (he2 : starEach (b :: []) X.env = (false, eval b X.env) :: starEach [] X.env := by rfl) (hpl : (backTo pos (starEach [b] X.env)).any (·.1) = false := by rfl) : SE Cs X (.Call (.Name "isinstance" p) [a, b] [] pos) (wUn wa (pIsiTo l n)) :=
  ⟨fun {ρ M Φ} h => we_callB hg hm bb_isinstance (wa_cons ((ha.run h).mono fun x M1 z => wa_cons ((hb.run (Φ := fun y M2 => y = .ty n.nm ∧ M2 = M1) ⟨rfl, rfl⟩).mono fun y M2 q => by
    obtain ⟨rfl, rfl⟩ := q
    refine wa_nil ?_
    unfold pIsiTo at z
    split at z
    · obtain ⟨h1, h2, h3⟩ := memN_ok (P := fun c => SlX.SCls X.K (Cs c) ∧ SlX.SIsi X.K (Cs c) ∧ PySem.W.kitOne X.K (.ref (Cs c)) (.type n.nm) = some false) (fun _ _ q => q) ho z.1
      exact wc_isiS (.inl ⟨_, rfl, rfl⟩) h1 h2 h3 z.2
    · split at z
      · rename_i t ht
        have e1 := tyD_tn (Cs := Cs) ht
        have e2 := noob _ (by rw [ht]; rfl)
        exact wc_isi e2 (by rw [e1]; exact hp t) z
      · exact z.elim) he2) he) (by decide) (by decide) he hpl⟩
def IsiK (Cs : Gc) (K : PySem.W.Frag) (n : Nat) : List Nat → Prop
  | [] => True
  | c :: r => (SlX.SCls K (Cs c) ∧ SlX.SIsi K (Cs c) ∧ PySem.W.kitOne K (.ref (Cs c)) (.ref (Cs n)) = some (Nat.beq c n)) ∧ IsiK Cs K n r
def pIsiCo (l : List Nat) (n : Nat) : TwU := fun x M Φ => match x with
  | .obj c _ => memN l c = true ∧ Φ (.bl (Nat.beq c n)) M
  | _ => match x.tn with
    | some _ => Φ (.bl false) M
    | none => False
theorem se_isiC {l : List Nat} (n : Nat) (hp : ∀ t : Tn, PySem.W.kitOne X.K (.type t.nm) (.ref (Cs n)) = some false) (ho : IsiK Cs X.K n l) (hg : Gl X "isinstance") (hm : X.mg "isinstance" = none) (ha : SE Cs X a wa) (hb : SE Cs X b (wPure (.ref (Cs n))))
    (he : starEach (a :: [b]) X.env = (false, eval a X.env) :: starEach [b] X.env := by rfl) (he2 : starEach (b :: []) X.env = (false, eval b X.env) :: starEach [] X.env := by rfl) (hpl : (backTo pos (starEach [b] X.env)).any (·.1) = false := by rfl) : SE Cs X (.Call (.Name "isinstance" p) [a, b] [] pos) (wUn wa (pIsiCo l n)) :=
  ⟨fun {ρ M Φ} h => we_callB hg hm bb_isinstance (wa_cons ((ha.run h).mono fun x M1 z => wa_cons ((hb.run (Φ := fun y M2 => y = .ref (Cs n) ∧ M2 = M1) ⟨rfl, rfl⟩).mono fun y M2 q => by
    obtain ⟨rfl, rfl⟩ := q
    refine wa_nil ?_
    unfold pIsiCo at z
    split at z
    · obtain ⟨h1, h2, h3⟩ := memN_ok (P := fun c => SlX.SCls X.K (Cs c) ∧ SlX.SIsi X.K (Cs c) ∧ PySem.W.kitOne X.K (.ref (Cs c)) (.ref (Cs n)) = some (Nat.beq c n)) (fun _ _ q => q) ho z.1
      exact wc_isiS (.inr ⟨_, rfl, rfl⟩) h1 h2 h3 z.2
    · split at z
      · rename_i t ht
        have e1 := tyD_tn (Cs := Cs) ht
        have e2 := noob _ (by rw [ht]; rfl)
        exact wc_isiC e2 (by rw [e1]; exact hp t) z
      · exact z.elim) he2) he) (by decide) (by decide) he hpl⟩
/-! attributes -/
inductive AtK where
  | slot (i : Nat) | prop (S : FS) | fld | propI (S : FS)
def AtOk (Cs : Gc) (X : Cx) (f : Str) (c : Nat) : AtK → Prop
  | .slot i => SlX.SCls X.K (Cs c) ∧ ∃ q, SlX.Slot1 X.K (Cs c) f q i
  | .prop S => SlX.SCls X.K (Cs c) ∧ ∃ q g k, PropF X.K (Cs c) f q g ∧ FnD Cs X k g S ∧ Rm (k + 1) X.A
  | .fld => Cls X.K (Cs c) ∧ NoAttr X.K (Cs c) f
  | .propI S => Cls X.K (Cs c) ∧ ∃ q g k, PropF X.K (Cs c) f q g ∧ FnD Cs X k g S ∧ Rm (k + 1) X.A
inductive AllA (P : Nat → AtK → Prop) : List (Nat × AtK) → Prop
  | nil : AllA P []
  | cons {n : Nat} {S : AtK} {r : List (Nat × AtK)} (h : P n S) (t : AllA P r) : AllA P ((n, S) :: r)
def luA : List (Nat × AtK) → Nat → (AtK → Prop) → Prop
  | [], _, _ => False
  | (n, S) :: r, c, K => match Nat.beq n c with
    | true => K S
    | false => luA r c K
theorem luA_ok {P : Nat → AtK → Prop} : ∀ {us : List (Nat × AtK)} {c : Nat} {K : AtK → Prop}, AllA P us → luA us c K → ∃ S, P c S ∧ K S
  | [], _, _, _, h => h.elim
  | (n, S) :: r, c, K, .cons hp t, h => by
    unfold luA at h
    split at h
    · rename_i e
      have := Nat.eq_of_beq_eq_true e
      subst this
      exact ⟨S, hp, h⟩
    · exact luA_ok t h
def pAt (f : Str) (ts : List (Nat × AtK)) : TwU := fun x M Φ => match x with
  | .obj c ds => luA ts c fun k => match k with
    | .slot i => match ds[i]? with
      | some d => Φ d M
      | none => False
    | .prop S => S [x] M Φ
    | _ => False
  | .ref q => ∃ m, M q = some m ∧ match m with
    | .ins c _ ns ds => luA ts c fun k => match k with
      | .fld => match getF ns ds f with
        | some d => Φ d M
        | none => False
      | .propI S => S [.ref q] M Φ
      | _ => False
    | .slt c _ os => luA ts c fun k => match k with
      | .slot i => match os[i]? with
        | some (some d) => Φ d M
        | _ => False
      | _ => False
    | _ => False
  | _ => False
theorem sat (ts : List (Nat × AtK)) (h : AllA (AtOk Cs X f) ts) : SAt Cs X f (pAt f ts) := ⟨fun {x M Φ} z => by
  unfold pAt at z
  split at z
  · obtain ⟨kk, hk, z⟩ := luA_ok h z
    split at z
    · obtain ⟨h1, q, h2⟩ := hk
      split at z
      · rename_i e; exact wat_slot h1 h2 e z
      · exact z.elim
    · obtain ⟨h1, q, g, k, h2, h3, h4⟩ := hk
      exact wat_prop h1 h2.at_ h2.get h2.tk h2.rc h3 h4 z
    · exact z.elim
  · obtain ⟨mm, hM, z⟩ := z
    split at z
    · obtain ⟨kk, hk, z⟩ := luA_ok h z
      split at z
      · split at z
        · rename_i e; exact wat_ins hk.1 hk.2 hM e z
        · exact z.elim
      · obtain ⟨h1, q, g, k, h2, h3, h4⟩ := hk
        exact wat_propI h1 h2.at_ h2.get h2.tk h2.rc h3 h4 hM z
      · exact z.elim
    · obtain ⟨kk, hk, z⟩ := luA_ok h z
      split at z
      · obtain ⟨h1, q, h2⟩ := hk
        split at z
        · rename_i e; exact wat_slt h1 h2 hM e z
        · exact z.elim
      · exact z.elim
    · exact z.elim
  · exact z.elim⟩
end
end DL
namespace DL
open PySem PySem.Spec PyProof.Rows L2
section
variable {Cs : Gc} {X : Cx} {k n : Nat} {a b c e o i ke ve : Expr} {es : List Expr} {pos p apos pos' p2 p3 p' q' : Pos} {x y z f m : Str} {wa wb wc w wo wi wk wv : TwE} {was : TwA} {wl wh : TwP} {S : FS} {st : Expr}
/-! ### methods of own classes -/
def wMeth (c : Nat) (S : FS) (wa : TwE) (was : TwA) : TwE := fun ρ M Φ => wa ρ M fun x M1 => match x with
  | .obj d _ => match Nat.beq d c with
    | true => was ρ M1 fun as M2 => S (x :: as) M2 Φ
    | false => False
  | _ => False
theorem se_meth {c : Nat} {g : Addr} {pl : Sem Bool} (hc : SlX.SCls X.K (Cs c)) (hm : Meth X.K (Cs c) m g) (Fn : FnD Cs X k g S) (hr : Rm k X.A) (ha : SE Cs X a wa) (hs : SA Cs X (e :: es) was)
    (hst : starEach (e :: es) X.env = (false, eval e X.env) :: starEach es X.env := by rfl) (hpl : (backTo pos (starEach es X.env)).any (·.1) = false := by rfl)
    (ht : eval (.Call (.Attribute a m apos) (e :: es) [] pos) X.env = (do
      let ov ← eval a X.env
      standAt apos.atName
      let (f, first) ← holding [ov] (getMethod ov m pl)
      callWith pos f first (backTo pos (starEach (e :: es) X.env)) (backToKw pos (keywordEach [] X.env))) := by rfl) : SE Cs X (.Call (.Attribute a m apos) (e :: es) [] pos) (wMeth c S wa was) :=
  ⟨fun h => we_meth (pl := pl) hc hm Fn hr ((ha.run h).mono fun x M1 z => by
    split at z
    · split at z
      · rename_i e; have := beq_c e; subst this; exact ⟨_, rfl, hs.run z⟩
      · exact z.elim
    · exact z.elim) hst hpl ht⟩
/-- from here on a list is read only -/
def sFrz (i : Nat) (w : TwS) : TwS := fun ρ M E => match ρ[i]? with
  | some (some (.ref q)) => ∃ ds, M q = some (.lst ds) ∧ w (ρ.set i (some (.lst ds))) (era M q) E
  | _ => False
theorem sss_frz {sts : List Stmt} {ws : TwS} (i : Nat) (h : SSs Cs X sts ws) : SSs Cs X sts (sFrz i ws) := ⟨fun {ρ M E} q => by
  unfold sFrz at q
  split at q
  · rename_i e; obtain ⟨ds, h1, h2⟩ := q; exact wss_frz i e h1 (h.run h2)
  · exact q.elim⟩
/-! methods of texts and lists -/
def wAppend (wa wb : TwE) : TwE := fun ρ M Φ => wa ρ M fun x M1 => match x with
  | .ref q => ∃ ds0, M1 q = some (.lst ds0) ∧ wb ρ M1 fun d M2 => ∃ ds, M2 q = some (.lst ds) ∧ ds.length < 100000 ∧ Φ .non (put M2 q (.lst (ds ++ [d])))
  | _ => False
theorem se_append (ha : SE Cs X o wa) (hb : SE Cs X e wb) (hbase : attributeBase o "append" X.env (eval o X.env) = eval o X.env := by rfl)
    (hfew : ((backTo pos (starEach [e] X.env)).all (fun x => !x.1) && (backToKw pos (keywordEach [] X.env)).all (fun x => x.1.isSome)
      && decide ([e].length + ([] : List Keyword).length + (if ([] : List Keyword).isEmpty then 0 else 1) < 30)) = true := by rfl)
    (hline : (apos.endLine == pos.line) = true := by rfl) (hst : starEach [e] X.env = (false, eval e X.env) :: starEach [] X.env := by rfl) (hpl : (backTo pos (starEach [] X.env)).any (·.1) = false := by rfl) : SE Cs X (.Call (.Attribute o "append" apos) [e] [] pos) (wAppend wa wb) :=
  ⟨fun h => we_append ((ha.run h).mono fun x M1 z => by
    split at z
    · obtain ⟨ds0, h1, h2⟩ := z
      exact ⟨_, ds0, rfl, h1, hb.run h2⟩
    · exact z.elim) hbase hfew hline hst hpl⟩
/-! parts -/
/-! own [ ] -/
/-! dicts -/
def wDnew : TwE := fun _ M Φ => Φ (.dct [] []) M
theorem se_dnew : SE Cs X (.Dict [] [] pos) wDnew := ⟨fun h => we_dnew h⟩
theorem WKV.mono {ks : List (Option Expr)} {vs : List Expr} {ρ : Env} {M : Mem} {Ψ Ψ' : List (Key × D) → Mem → Prop} (h : WKV Cs X ks vs ρ M Ψ) (i : ∀ d M, Ψ d M → Ψ' d M) : WKV Cs X ks vs ρ M Ψ' := .mk fun F σ H A Q k => h.run F σ H A Q fun kvs ws H' M' p m r q => k kvs ws H' M' p m r (i _ _ q)
/-! new instances, fields -/
def MkOk (n : Nat) (S Sm : FS) : Prop := ∀ ds M Φ, Sm ds M Φ → ∀ a dx, M a = none → M dx = none → dx ≠ a → S (.ref a :: ds) (put (put M dx (.aux a)) a (.slt n dx [])) fun d M2 => d = .non ∧ ∃ ds', ds' ≠ [] ∧ M2 a = some (.slt n dx (ds'.map some)) ∧ Φ (.obj n ds') (era (era M2 a) dx)
theorem se_make {g : Addr} {Sm : FS} (Mk' : Mk X.K (Cs n) g) (Fn : FnD Cs X k g S) (hS : MkOk n S Sm) (hr : Rm (k + 1) X.A) (hg : Gl X x) (hm : X.mg x = some (.ref (Cs n))) (h : SA Cs X (e :: es) was)
    (hdb : (x == ("__debug__" : Str)) = false := by decide) (he : starEach (e :: es) X.env = (false, eval e X.env) :: starEach es X.env := by rfl) (hpl : (backTo pos (starEach es X.env)).any (·.1) = false := by rfl) : SE Cs X (.Call (.Name x p) (e :: es) [] pos) (wCall Sm was) :=
  ⟨fun q => we_make Mk' Fn hr hg hm ((h.run q).mono fun ds M1 z => hS ds M1 _ z) hdb he hpl⟩
def wSlot (c i : Nat) (w wo : TwE) : TwS := fun ρ M E => w ρ M fun d M1 => wo ρ M1 fun x M2 => match x with
  | .ref a => ∃ mo, M2 a = some mo ∧ match mo with
    | .slt c' dx os => match Nat.beq c' c with
      | true => E.nx ρ (put M2 a (.slt c dx (putO i d os)))
      | false => False
    | _ => False
  | _ => False
theorem ss_slot {c i : Nat} {q : Addr} (hc : SlX.SCls X.K (Cs c)) (hs : SlX.Slot1 X.K (Cs c) f q i) (h : SE Cs X e w) (ho : SE Cs X o wo) (hsw : swapsWith e (some (.Attribute o f pos')) pos.line X.env = pure false := by rfl) : SS Cs X (.Assign [.Attribute o f pos'] e pos) (wSlot c i w wo) :=
  ⟨fun q => ws_slot hc hs ((h.run q).mono fun d M1 z => (ho.run z).mono fun x M2 z2 => by
    split at z2
    · obtain ⟨mo, h1, h2⟩ := z2
      split at h2
      · split at h2
        · rename_i e; have := beq_c e; subst this; exact ⟨_, _, _, rfl, h1, h2⟩
        · exact h2.elim
      · exact h2.elim
    · exact z2.elim) hsw⟩
end
end DL
namespace DL
open PySem PySem.Spec PyProof.Rows L2
section
variable {Cs : Gc} {X : Cx} {k n : Nat} {a b c e o i ke ve : Expr} {es : List Expr} {pos p apos pos' p2 p3 p' q' : Pos} {x y z f m : Str} {wa wb wc w wo wi wk wv : TwE} {was : TwA} {wl wh : TwP} {S : FS} {st : Expr}
theorem run_of {sts : List Stmt} {ws : TwS} {ρ : Env} {M : Mem} {E : DE} (h : SSs Cs X sts ws) (q : ws ρ M E) : WSs Cs X sts ρ M E := h.run q
end
section
variable {M : Mem} {q r : Addr} {m n : MO}
theorem put_get (hq : M q = none) (h : M r = some n) : put M q m r = some n := by
  rw [put_ne (fun z => by rw [z, hq] at h; cases h)]; exact h
end
section
variable {Cs : Gc} {X : Cx} {st : Stmt} {sts : List Stmt} {e : Expr} {ρ : Env} {M : Mem}
/-- what is never come to -/
theorem ss_no : SS Cs X st (fun _ _ _ => False) := ⟨fun h => h.elim⟩
end
/-! two promises of one def -/
/-! what was owned is read only from now on, wherever it is held -/
def subD (q : Addr) (d : D) : D → D
  | .ref a => if a = q then d else .ref a
  | x => x
def MO.sub (q : Addr) (d : D) : MO → MO
  | .lst ds => .lst (ds.map (subD q d))
  | .slt c dx os => .slt c dx (os.map (Option.map (subD q d)))
  | .aux a => .aux a
  | .dct ks ds => .dct ks (ds.map (subD q d))
  | .ins c dx ns ds => .ins c dx ns (ds.map (subD q d))
  | .dcn ks ds => .dcn ks (ds.map (subD q d))
  | .dcz o ks ds => .dcz o ks (ds.map (subD q d))
  | .tpz ss => .tpz ss
  | .tab nm => .tab nm
section
variable {Cs : Gc} {F : Addr → Prop} {M : Mem} {H : Hp} {q : Addr} {d : D} {mo : MO} {Z : Addr → Prop}
theorem Vw.refl : Vw Cs M M := fun _ _ m => ⟨m, .refl⟩
theorem Vw.trans {M1 M2 : Mem} (a : Vw Cs M M1) (b : Vw Cs M1 M2) : Vw Cs M M2 := fun F H m => by
  obtain ⟨m1, p1⟩ := a F H m
  obtain ⟨m2, p2⟩ := b F H m1
  exact ⟨m2, p1.trans p2⟩
end
/-! loops over what is told by steps -/
inductive F2 {α β : Type} (R : α → β → Prop) : List α → List β → Prop
  | nil : F2 R [] []
  | cons {a : α} {b : β} {as : List α} {bs : List β} (h : R a b) (t : F2 R as bs) : F2 R (a :: as) (b :: bs)
theorem F2.append {α β : Type} {R : α → β → Prop} : ∀ {as as' : List α} {bs bs' : List β}, F2 R as bs → F2 R as' bs' → F2 R (as ++ as') (bs ++ bs')
  | _, _, _, _, .nil, q => q
  | _, _, _, _, .cons h t, q => .cons h (F2.append t q)
theorem F2.imp {α β : Type} {R R' : α → β → Prop} : ∀ {as : List α} {bs : List β}, F2 R as bs → (∀ a b, a ∈ as → b ∈ bs → R a b → R' a b) → F2 R' as bs
  | _, _, .nil, _ => .nil
  | _, _, .cons h t, k => .cons (k _ _ List.mem_cons_self List.mem_cons_self h) (F2.imp t fun a b ha hb => k a b (List.mem_cons_of_mem _ ha) (List.mem_cons_of_mem _ hb))
theorem F2.map {α β γ : Type} {R : α → β → Prop} (f : γ → α) (g : γ → β) : ∀ (l : List γ), (∀ x ∈ l, R (f x) (g x)) → F2 R (l.map f) (l.map g)
  | [], _ => .nil
  | x :: l, h => .cons (h x List.mem_cons_self) (F2.map f g l fun y hy => h y (List.mem_cons_of_mem _ hy))
theorem F2.length {α β : Type} {R : α → β → Prop} : ∀ {as : List α} {bs : List β}, F2 R as bs → as.length = bs.length
  | _, _, .nil => rfl
  | _, _, .cons _ t => congrArg Nat.succ (F2.length t)
inductive Runs {α σ : Type} (St : σ → α → σ → Prop) : σ → List α → σ → Prop
  | nil {s : σ} : Runs St s [] s
  | cons {s s1 s2 : σ} {a : α} {as : List α} (h : St s a s1) (t : Runs St s1 as s2) : Runs St s (a :: as) s2
theorem Runs.append {α σ : Type} {St : σ → α → σ → Prop} : ∀ {s s1 s2 : σ} {as bs : List α}, Runs St s as s1 → Runs St s1 bs s2 → Runs St s (as ++ bs) s2
  | _, _, _, _, _, .nil, q => q
  | _, _, _, _, _, .cons h t, q => .cons h (Runs.append t q)
/-- a loop by an invariant of how far it is -/
theorem Lp_inv {U : Mem → Prop} {g : TwG} {B : TwS} {E : DE} (I : List D → Env → Mem → Prop) (hU : ∀ r ρ M, I r ρ M → U M) (hs : ∀ d r ρ M (K : Env → Mem → Prop), I (d :: r) ρ M → (∀ ρ' M', I r ρ' M' → K ρ' M') → g d ρ M fun ρ1 M1 => B ρ1 M1 ⟨K, E.rt, E.nx, K⟩) (he : ∀ ρ M, I [] ρ M → E.nx ρ M) :
    ∀ (ds : List D) ρ M, I ds ρ M → Lp U g B ds ρ M E
  | [], ρ, M, j => ⟨hU _ _ _ j, he ρ M j⟩
  | d :: ds, ρ, M, j => ⟨hU _ _ _ j, hs d ds ρ M _ j fun ρ' M' j' => Lp_inv I hU hs he ds ρ' M' j'⟩
/-- a comprehension by an invariant -/
theorem Cp_inv {U : Mem → Prop} {s : Stp} {w : TwE} {ρ0 : Env} {K : List D → Mem → Prop} (I : List D → List D → Mem → Prop) (hU : ∀ r acc M, I r acc M → U M) (hs : ∀ d r acc M (Φ : Kd), I (d :: r) acc M → (∀ y M', I r (acc ++ [y]) M' → Φ y M') → s d ρ0 fun ρ2 => w ρ2 M Φ) (he : ∀ acc M, I [] acc M → K acc M) :
    ∀ (ds acc : List D) M, I ds acc M → Cp U s w ρ0 K ds acc M
  | [], acc, M, j => ⟨hU _ _ _ j, he acc M j⟩
  | d :: ds, acc, M, j => ⟨hU _ _ _ j, hs d ds acc M _ j fun y M' j' => Cp_inv I hU hs he ds (acc ++ [y]) M' j'⟩
def Ext (M M' : Mem) : Prop := ∀ a, M a ≠ none → M' a = M a
theorem Ext.refl {M : Mem} : Ext M M := fun _ _ => rfl
theorem Ext.trans {M M1 M2 : Mem} (a : Ext M M1) (b : Ext M1 M2) : Ext M M2 := fun x h => by rw [b x (by rw [a x h]; exact h), a x h]
theorem Ext.get {M M' : Mem} (a : Ext M M') {q : Addr} {m : MO} (h : M q = some m) : M' q = some m := by rw [a q (by rw [h]; exact fun z => nomatch z), h]
theorem Ext.put {M M' : Mem} (a : Ext M M') {q : Addr} {m : MO} (h : M q = none) : Ext M (put M' q m) := fun x hx => by rw [put_ne (fun z => hx (by rw [z]; exact h)), a x hx]
theorem Ext.no {M M' : Mem} (a : Ext M M') {q : Addr} (h : M' q = none) : M q = none := Classical.byContradiction fun z => z (by rw [← a q z]; exact h)
end DL
namespace DL
open PySem PySem.Spec PyProof.Rows L2
theorem Lp_mapA {α : Type} {U : Mem → Prop} {g : TwG} {B : TwS} {E : DE} (f : α → D) (I : List α → Env → Mem → Prop) (hU : ∀ r ρ M, I r ρ M → U M) (hs : ∀ d r ρ M (K : Env → Mem → Prop), I (d :: r) ρ M → (∀ ρ' M', I r ρ' M' → K ρ' M') → g (f d) ρ M fun ρ1 M1 => B ρ1 M1 ⟨K, E.rt, E.nx, K⟩) (he : ∀ ρ M, I [] ρ M → E.nx ρ M) :
    ∀ (ds : List α) ρ M, I ds ρ M → Lp U g B (ds.map f) ρ M E
  | [], ρ, M, j => ⟨hU _ _ _ j, he ρ M j⟩
  | d :: ds, ρ, M, j => ⟨hU _ _ _ j, hs d ds ρ M _ j fun ρ' M' j' => Lp_mapA f I hU hs he ds ρ' M' j'⟩
end DL
namespace DL
open PySem PySem.Spec PyProof.Rows L2
/-- the text that repr tells of a datum -/
@[irreducible] def shwn (d : D) : Str := d.py.shown
def pReprI : TwC := fun xs M Φ => match xs with
  | [d] => ∃ n c, Shw n c d ∧ n ≤ 60 ∧ c ≤ 16000000 ∧ Φ (.str (shwn d)) M
  | _ => False
theorem sc_reprI {Cs : Gc} {X : Cx} {k : Nat} (hr : Rm k X.A) : SC Cs X (.builtin "repr") pReprI := ⟨fun {xs M Φ} h => by
  unfold pReprI at h
  split at h
  · obtain ⟨n, c, h1, h2, h3, h4⟩ := h
    unfold shwn at h4
    exact wc_reprS hr h1 h2 h3 h4
  · exact h.elim⟩
end DL
/-! zip over lists, tuples and the values of a dict, in any mix. -/
namespace DL
open PySem PySem.Spec PyProof.Rows L2
/-! ### what may be zipped: a list, a tuple, the values (seen through v) of a dict d -/
inductive Cn | L (a : Addr) | T (a : Addr) | W (v d : Addr) (o : Obj)
def Cn.at : Cn → Addr | .L a => a | .T a => a | .W v _ _ => v
def Cn.cell : Cn → Addr | .L a => a | .T a => a | .W _ d _ => d
def Cn.has (K : PySem.W.Frag) (H : Hp) : Cn → List V → Prop
  | .L a, xs => SqL K H a xs
  | .T a, xs => SqT K H a xs
  | .W _ d o, xs => ∃ kvs : List (Key × V), H d = some (.frz o (.dK kvs)) ∧ kvs.map (·.2) = xs
def Cn.tn (it : Addr) : Cn → Nat → Heap → Prop
  | .L a, i, h => h.IsListIter it a i
  | .T a, i, h => h.IsTupleIter it a i
  | .W _ d o, i, h => ∃ es ep, o.data = .dict es ep ∧ h.IsValIter it d i es.size ep
end DL
namespace DL
open PySem PySem.Spec PyProof.Rows L2
end DL
namespace DL
open PySem PySem.Spec PyProof.Rows L2
end DL
namespace DL
open PySem PySem.Spec PyProof.Rows L2
end DL
/-! sets of tuples, nested, of texts (NestedKey): few of them, in no known order -/
namespace NS
open PySem PySem.Spec PyProof.Rows L2
/-- the tuple at b is the key k -/
def Kt (h : Heap) (k : NestedKey) (b : Addr) : Prop := NestedIs h k (.ref b) ∧ k.depth ≤ 8
theorem Kt.keep {h h' : Heap} {k : NestedKey} {b : Addr} (x : Kt h k b) (e : ∀ c o, h.get? c = some o → h'.get? c = some o) : Kt h' k b := ⟨NestedIs.at (fun a o _ _ q _ => e a o q) k _ x.1, x.2⟩
end NS
namespace NS
open PySem PySem.Spec PyProof.Rows L2
section
variable {P : Program} {w : World} {A : Around} {E : Value → Shared → Prop} {s : Shared}
/-! tables of 8, 16, 32, 64, 128 places -/
def Mk5 (m : Nat) : Prop := MaskOk m ∨ m = 15 ∨ m = 63
theorem Mk5.le {m : Nat} (h : Mk5 m) : 7 ≤ m ∧ m ≤ 127 := by
  rcases h with (rfl | rfl | rfl) | rfl | rfl <;> decide
theorem cyc15 : ∀ j, j < 16 → ∃ b, b < 16 ∧ lcgN 15 b = j := by decide +kernel
theorem cyc63 : ∀ j, j < 64 → ∃ b, b < 64 ∧ lcgN 63 b = j := by decide +kernel
theorem cyc_all {m j : Nat} (hm : Mk5 m) (hj : j ≤ m) : ∃ b, b ≤ m ∧ lcgN m b = j := by
  rcases hm with h | rfl | rfl
  · exact lcg_all h hj
  · obtain ⟨b, h1, h2⟩ := cyc15 j (by omega); exact ⟨b, by omega, h2⟩
  · obtain ⟨b, h1, h2⟩ := cyc63 j (by omega); exact ⟨b, by omega, h2⟩
theorem cyc_turn {m : Nat} (hm : Mk5 m) (k : Nat) : lcgN m (m + 1 + k) = lcgN m k := by
  induction k with
  | zero =>
    rcases hm with h | rfl | rfl
    · exact lcg_round h
    · decide +kernel
    · decide +kernel
  | succ k ih => exact congrArg (fun z => (z * 5 + 1) % (m + 1)) ih
theorem cyc_from {m i j : Nat} (hm : Mk5 m) (hi : i ≤ m) (hj : j ≤ m) : ∃ k, k ≤ m ∧ lcgI m i k = j := by
  obtain ⟨u, hu, rfl⟩ := cyc_all hm hi
  obtain ⟨v, hv, rfl⟩ := cyc_all hm hj
  by_cases c : u ≤ v
  · exact ⟨v - u, by omega, by rw [lcgN_add]; congr 1; omega⟩
  · exact ⟨m + 1 + v - u, by omega, by rw [lcgN_add, ← cyc_turn hm v]; congr 1; omega⟩
theorem cyc_way {m j : Nat} (hm : Mk5 m) (h : Int) (hj : j ≤ m) : ∃ k, k < 10 * SetTable.turns m ∧ way m h k = j := by
  obtain ⟨k0, l0, e0⟩ := cyc_from hm (runI_le m (SetTable.bits h) 12) hj
  obtain ⟨k, l, e⟩ := run_nth m (SetTable.bits h) (12 + k0)
  refine ⟨k, by unfold SetTable.turns; omega, ?_⟩
  have z := congrArg SetTable.Probe.j e
  exact z.trans ((runI_tail (bits_lt h) k0).trans e0)
theorem way_in (m : Nat) (h : Int) (k : Nat) : way m h k ≤ m := by
  have b : SetTable.bits h % (m + 1) ≤ m := Nat.lt_succ_iff.mp (Nat.mod_lt _ (by omega))
  obtain ⟨b1, b2, _⟩ := runEnd_bd b
  have z := nth_in (m := m) k (runAt m (SetTable.bits h % (m + 1)) (SetTable.bits h)) (by unfold runAt; dsimp only; omega)
  exact Nat.le_trans (Nat.le_add_right _ _) z
/-- the places are found again by their hashes -/
structure Tb (t : SetTable) (hs : List Int) : Prop where
  ris : Ris t.place.toList
  dm : t.dummies = #[]
  sz : t.place.size = hs.length
  mok : Mk5 t.mask
  bd : ∀ x ∈ t.place.toList, x ≤ t.mask
  rch : ∀ (i : Nat) (h : Int) (j : Nat), hs[i]? = some h → t.place.toList[i]? = some j → ∃ k, way t.mask h k = j ∧ ∀ n, n < k → way t.mask h n ∈ t.place.toList
theorem Tb.free {t : SetTable} {hs : List Int} (T : Tb t hs) (hl : hs.length ≤ t.mask) (h : Int) : ∃ K, K < 10 * SetTable.turns t.mask ∧ way t.mask h K ∉ t.place.toList ∧ ∀ k, k < K → way t.mask h k ∈ t.place.toList := by
  obtain ⟨j, hj, nj⟩ := st_missing t.place.toList (t.mask + 1) (by have := T.sz; simp only [Array.length_toList]; omega)
  obtain ⟨k, hk, rfl⟩ := cyc_way T.mok h (Nat.lt_succ_iff.mp hj)
  obtain ⟨K, l, n, b⟩ := st_least (p := fun k => ¬ way t.mask h k ∈ t.place.toList) k nj
  exact ⟨K, Nat.lt_of_le_of_lt l hk, n, fun i hi => Classical.byContradiction (b i hi)⟩
theorem Tb.add {t : SetTable} {hs : List Int} (T : Tb t hs) {h : Int} {K : Nat} (hK : way t.mask h K ∉ t.place.toList) (hb : ∀ k, k < K → way t.mask h k ∈ t.place.toList) :
    ∃ p t1, t.put (way t.mask h K) = (t1, p) ∧ p ≤ hs.length ∧ Tb t1 (hs.take p ++ h :: hs.drop p) ∧ t1.mask = t.mask ∧ t1.led = t.led ∧ t1.plain = t.plain ∧ t1.moves = t.moves ∧ t1.finger = t.finger ∧ t1.fill = hs.length + 1 := by
  generalize ej : way t.mask h K = j at hK
  have hjm : j ≤ t.mask := by rw [← ej]; exact way_in _ _ _
  have len : t.place.toList.length = hs.length := by rw [Array.length_toList]; exact T.sz
  have pl : SetTable.below t.place j ≤ t.place.toList.length := by rw [Array.length_toList]; exact (below_cut T.ris j).1
  have pp := put_place t j
  have new : t.place[SetTable.below t.place j]? ≠ some j := fun z => hK (List.mem_of_getElem? (i := SetTable.below t.place j) (by rw [Array.getElem?_toList, z]))
  have all : ∀ x, x ∈ (t.put j).1.place.toList ↔ x = j ∨ x ∈ t.place.toList := fun x => by rw [pp]; exact mem_ins
  have sz : (t.put j).1.place.size = hs.length + 1 := by rw [← Array.length_toList, pp, len_ins _ pl, len]
  refine ⟨SetTable.below t.place j, (t.put j).1, rfl, by omega, ⟨ris_insert T.ris new, put_dm T.dm j, by rw [len_ins _ (by omega)]; exact sz, T.mok, fun x hx => ((all x).mp hx).elim (fun z => by rw [z]; exact hjm) (T.bd x), fun i g l e1 e2 => ?_⟩, rfl, rfl, rfl, rfl, rfl, ?_⟩
  · rw [tins_get hs (by omega)] at e1
    rw [pp, tins_get _ pl] at e2
    suffices z : ∃ k, way t.mask g k = l ∧ ∀ n, n < k → way t.mask g n ∈ t.place.toList by
      obtain ⟨k, z1, z2⟩ := z
      exact ⟨k, z1, fun n hn => (all _).mpr (.inr (z2 n hn))⟩
    split at e1
    · rename_i c
      rw [if_pos c] at e2
      exact T.rch i g l e1 e2
    · rename_i c
      rw [if_neg c] at e2
      split at e1
      · rename_i c2
        rw [if_pos c2] at e2
        cases e1
        cases e2
        exact ⟨K, ej, hb⟩
      · rename_i c2
        rw [if_neg c2] at e2
        exact T.rch (i - 1) g l e1 e2
  · unfold SetTable.fill
    rw [sz, put_dm T.dm j]
    rfl
/-! the set -/
abbrev hsh (w : World) (L : List (Addr × NestedKey)) : List Int := L.map fun p => p.2.hash w
abbrev rws (w : World) (L : List (Addr × NestedKey)) : List (Int × Value) := L.map fun p => (p.2.hash w, Value.ref p.1)
structure SN (w : World) (h : Heap) (a : Addr) (L : List (Addr × NestedKey)) (es : Array (Int × Value)) (ep : Nat) (t : SetTable) : Prop where
  ob : ∃ o, h.get? a = some o ∧ o.ExactSet ∧ o.data = .set es ep t
  rows : es.toList = rws w L
  tab : Tb t (hsh w L)
  nd : (L.map (·.2)).Nodup
  key : ∀ p ∈ L, Kt h p.2 p.1
  led : w.params.followText "set-order" = true ∨ t.led = true
  room : L.length * 5 < t.mask * 3
variable {a : Addr} {L : List (Addr × NestedKey)} {es : Array (Int × Value)} {ep : Nat} {t : SetTable}
theorem SN.at_ (R : SN w s.heap a L es ep t) {i : Nat} {p : Addr × NestedKey} (h : L[i]? = some p) : es[i]? = some (p.2.hash w, Value.ref p.1) := by
  rw [← Array.getElem?_toList, R.rows, List.getElem?_map, h]
  rfl
end
end NS
namespace NS
open PySem PySem.Spec PyProof.Rows L2
end NS
namespace NS
open PySem PySem.Spec PyProof.Rows L2
/-- what the first i have brought in -/
structure Gt (ks : List (Addr × NestedKey)) (i : Nat) (L : List (Addr × NestedKey)) : Prop where
  sub : ∀ p ∈ L, p ∈ ks.take i
  all : ∀ p ∈ ks.take i, p.2 ∈ L.map (·.2)
  len : L.length ≤ i
theorem Gt.go {ks L L' : List (Addr × NestedKey)} {i : Nat} {x : Addr × NestedKey} (g : Gt ks i L) (h : ks[i]? = some x) (c1 : x.2 ∈ L.map (·.2) → L' = L) (c2 : x.2 ∉ L.map (·.2) → L'.Perm (x :: L)) : Gt ks (i + 1) L' := by
  have tk : ks.take (i + 1) = ks.take i ++ [x] := by rw [List.take_succ, h]; rfl
  by_cases c : x.2 ∈ L.map (·.2)
  · rw [c1 c]
    refine ⟨fun p m => by rw [tk]; exact List.mem_append_left _ (g.sub p m), fun p m => ?_, Nat.le_succ_of_le g.len⟩
    rw [tk, List.mem_append, List.mem_singleton] at m
    rcases m with m | m
    · exact g.all p m
    · rw [m]; exact c
  · have pm := c2 c
    refine ⟨fun p m => ?_, fun p m => ?_, by rw [pm.length_eq]; exact Nat.succ_le_succ g.len⟩
    · rw [tk, List.mem_append, List.mem_singleton]
      rcases List.mem_cons.mp (pm.mem_iff.mp m) with e | z
      · exact .inr e
      · exact .inl (g.sub p z)
    · rw [(pm.map (·.2)).mem_iff, List.map_cons, List.mem_cons]
      rw [tk, List.mem_append, List.mem_singleton] at m
      rcases m with m | m
      · exact .inr (g.all p m)
      · exact .inl (by rw [m])
section
variable {P : Program} {w : World} {A : Around} {E : Value → Shared → Prop} {s : Shared}
theorem SN.keep {h h' : Heap} {a : Addr} {L : List (Addr × NestedKey)} {es : Array (Int × Value)} {ep : Nat} {t : SetTable} (R : SN w h a L es ep t) (ha : ∀ o, h.get? a = some o → h'.get? a = some o) (hk : ∀ p ∈ L, Kt h' p.2 p.1) : SN w h' a L es ep t :=
  ⟨let ⟨o, e, r⟩ := R.ob; ⟨o, ha o e, r⟩, R.rows, R.tab, R.nd, hk, R.led, R.room⟩
end
end NS
namespace NS
open PySem PySem.Spec PyProof.Rows L2 PySem.W
end NS
/-! sorted(set(xs)), xs a list of tuples, nested, of texts -/
namespace DL
open PySem PySem.Spec PyProof.Rows L2 NS PySem.W
end DL
namespace DL
open PySem PySem.Spec PyProof.Rows L2
end DL
namespace DL
open PySem PySem.Spec PyProof.Rows L2
section
variable {Cs : Gc} {X : Cx} {e : Expr} {es : List Expr} {gs : TwGs} {n : Nat}
/-- two names in a tuple -/
def gP (i j : Nat) : TwG := gTu (gsCons (DL.gName i) (gsCons (DL.gName j) gsNil))
end
end DL
namespace DL
open PySem PySem.Spec PyProof.Rows L2
end DL
/-! the module's dicts, places of texts, setdefault, dicts keyed by nested texts -/
namespace DL
open PySem PySem.Spec PyProof.Rows L2
end DL
/-! ### defs that may raise: a wish for what is returned, and one for what is raised -/
namespace DL
open PySem PySem.Spec PyProof.Rows L2
/-- a wish for errors: the class's number, what it keeps -/
abbrev KX := Nat → D → Mem → Prop
abbrev FX := List D → Mem → Kd → KX → Prop
section
variable {C : Gc} {F F' : Addr → Prop} {M M1 : Mem} {H H1 : Hp}
/-- the same without what is known besides -/
abbrev Gc.bare (C : Gc) : Gc := Gc.base C.at_ C.w
theorem MOk.bare {a : Addr} {n : MO} (m : MOk C F M H a n) : MOk C.bare F M H a n := by cases n <;> exact m
theorem MOk.dress {a : Addr} {n : MO} (m : MOk C.bare F M H a n) : MOk C F M H a n := by cases n <;> exact m
theorem MemAt.bare (m : MemAt C F M H) : MemAt C.bare F M H := ⟨fun a n e => (m.at_ a n e).bare, m.ff, trivial⟩
theorem MemAt.dress (m : MemAt C.bare F M H) (g : C.gh F M H) : MemAt C F M H := ⟨fun a n e => (m.at_ a n e).dress, m.ff, g⟩
theorem MOk.drop {a : Addr} {n : MO} (l : ∀ a, F a → F' a) (w : MOk C F' M H a n) : MOk C F M H a n := by
  have z : ∀ b, Zf F M b → Zf F' M b := fun b y => y.elim (fun y => .inl (l b y)) .inr
  cases n with
  | lst ds => obtain ⟨vs, e1, r⟩ := w; exact ⟨vs, e1, r.less z⟩
  | slt c dx os => obtain ⟨n1, n2, vs, hs, r⟩ := w; exact ⟨n1, n2, vs, hs, r.less z⟩
  | aux y => exact w
  | dct ks ds => obtain ⟨vs, e1, hl, r⟩ := w; exact ⟨vs, e1, hl, r.less z⟩
  | ins c dx ns ds => obtain ⟨n1, n2, vs, e1, e2, hl, r⟩ := w; exact ⟨n1, n2, vs, e1, e2, hl, r.less z⟩
  | dcn ks ds => obtain ⟨xs, e1, e2, e3, r1, r2⟩ := w; exact ⟨xs, e1, e2, e3, r1.less z, r2.less z⟩
  | dcz oz ks ds => obtain ⟨xs, e1, e2, e3, r1, r2⟩ := w; exact ⟨xs, e1, e2, e3, r1.less z, r2.less z⟩
  | tpz ss => exact w
  | tab nm =>
    obtain ⟨ps, e1, e2, e3⟩ := w
    exact ⟨ps, e1, e2, fun pos cv hc => let ⟨c, r1, r2, r3⟩ := e3 pos cv hc; ⟨c, r1, fun y => r2 (z _ y), r3⟩⟩
end
/-- what the caller wants of an error, wherever it is raised -/
def ResX (C : Gc) (F : Addr → Prop) (M : Mem) (H : Hp) (Ξ : KX) (E : XK) : Prop :=
  ∀ (c : Nat) (dd : Addr) (v : V) (d : D) (H' : Hp) (M' : Mem), Post M H M' H' → MemAt C.bare F M' H' → ¬ Zf F M' dd → H' dd = some (.xd [("value", v)]) → Rep C (Zf F M') H' v d → Ξ c d M' → E (.ref (C c)) (some dd) H'
section
variable {C : Gc} {F F' : Addr → Prop} {M M1 : Mem} {H H1 : Hp} {Ξ : KX} {E : XK} {Φ : Kd} {Q : VK}
theorem ResX.from (k : ResX C F M H Ξ E) (p : Post M H M1 H1) : ResX C F M1 H1 Ξ E := fun c dd v d H' M' p' m hz hd r h => k c dd v d H' M' (p.trans p') m hz hd r h
theorem ResX.up (k : ResX C F M H Ξ E) (l : ∀ a, F a → F' a) : ResX C F' M H Ξ E := fun c dd v d H' M' p m hz hd r h => by
  have z : ∀ b, Zf F M' b → Zf F' M' b := fun b y => y.elim (fun y => .inl (l b y)) .inr
  exact k c dd v d H' M' p ⟨fun a n e => (m.at_ a n e).drop l, fun a h => m.ff a (l a h), trivial⟩ (fun y => hz (z _ y)) hd (r.less z) h
/-- within a def that may raise -/
def Gc.may (C : Gc) (Ξ : KX) (E : XK) : Gc := ⟨C.at_, C.w, fun F M H => ResX C F M H Ξ E, fun _ _ _ _ _ k p => k.from p, fun _ _ _ _ l k => k.up l⟩
theorem Res.bare {C : Gc} (k : Res C F M H Φ Q) (g : C.gh F M H) : Res C.bare F M H Φ Q := fun v d H' M' p m r h => k v d H' M' p (m.dress (C.cl _ _ _ _ _ g p)) r h
theorem Res.dress {C : Gc} (k : Res C.bare F M H Φ Q) : Res C F M H Φ Q := fun v d H' M' p m r h => k v d H' M' p m.bare r h
end
def spX (C : Gc) (S : FX) : Sp := fun vs H Q E => ∃ F ds M Φ Ξ, MemAt C.bare F M H ∧ Reps C (Zf F M) H vs ds ∧ S ds M Φ Ξ ∧ Res C.bare F M H Φ Q ∧ ResX C F M H Ξ E
/-- the def at f keeps the promise S -/
abbrev FnX (C : Gc) (X : Cx) (k : Nat) (f : Addr) (S : FX) : Prop := FnG X.prog X.w X.K X.mg X.base (L2.CX X.prog X.w) k f (spX C S)
/-- what such a context takes -/
abbrev Tk (X : Cx) (E : XK) : Prop := Takes X fun cls d _ H => E cls d H
section
variable {P : Program} {w : World} {K : PySem.W.Frag} {mg : Str → Option Value} {base : Heap} {k : Nat} {f : Addr} {C : Gc} {Ξ : KX} {E : XK}
/-- a def that raises nothing, in any context -/
theorem FnG.may {S : FS} (Fn : FnG P w K mg base CX0 k f (spD C.bare S)) : FnG P w K mg base CX0 k f (spD (C.may Ξ E) S) :=
  Fn.imp fun vs H Q E' ⟨F, ds, M, Φ, m, r, s, q⟩ => ⟨F, ds, M, Φ, ⟨fun a n e => MOk.bare (m.at_ a n e), m.ff, trivial⟩, r, s, fun v d H' M' p m' r' h => q v d H' M' p ⟨fun a n e => MOk.dress (C := C.may Ξ E) (m'.at_ a n e), m'.ff, ResX.from m.gh p⟩ r' h⟩
/-- .. as one that may raise -/
theorem FnG.x {S : FS} (Fn : FnG P w K mg base CX0 k f (spD C.bare S)) : FnG P w K mg base (L2.CX P w) k f (spX C fun ds M Φ _ => S ds M Φ) := fun A outer s H us vs Q E' hr e0 r h => by
  obtain ⟨F, ds, M, Φ, Ξ, m, rr, s1, q, _⟩ := h
  refine codeAny_mono (Fn A outer s H us vs Q E' hr e0 r ⟨F, ds, M, Φ, m, rr, s1, q⟩) fun res s' z => ?_
  cases res with
  | error e => exact z.elim
  | ok fl => cases fl <;> exact z
end
/-- THE RULE for a def that may raise -/
theorem fn_DX {C : Gc} {P : Program} {w : World} {K : PySem.W.Frag} {mg : Str → Option Value} {base : Heap} {k : Nat} {f : Addr} {fd : FuncData} {name qual : Str} {params : Arguments} {body : List Stmt} {scope : Scope} {dvs dws : List V} {kws : List (Str × V)} {ds : List Value}
    {N ps : List Str} {S : FX} (dds : List D) (Fd : FunD K name qual params body scope dvs kws f fd) (Sc : FnScope N ps scope) (hb : Binds K fd ps ds) (hd : Vals dws ds)
    (hdd : ∀ (Z : Addr → Prop) (H : Hp), Reps C Z H dws dds) (len : ∀ ds M Φ Ξ, S ds M Φ Ξ → (ds ++ dds).length = ps.length)
    (hbody : ∀ (cdv : Value) (A : Around) (outer : List PySem.Env) (s : Shared) (H : Hp) (as : List D) (M : Mem) (Φ : D → Mem → Prop) (Ξ : KX) (E : XK), Rm k (cxOf (L2.CX P w) P w K mg base N qual scope f cdv A outer s H E).A → S as M Φ Ξ → Tk (cxOf (L2.CX P w) P w K mg base N qual scope f cdv A outer s H E) E →
      WSs (C.may Ξ E) (cxOf (L2.CX P w) P w K mg base N qual scope f cdv A outer s H E) body (startE N (as ++ dds)) M { nx := fun _ M' => Φ .non M', rt := Φ }) :
    FnG P w K mg base (L2.CX P w) (k + 1) f (spX C S) := by
  have G : FnG P w K mg base (L2.CX P w) (k + 1) f (fun vs H Q E => (fun vs H Q E => ∃ ws, vs = ws ++ dws ∧ spX C S ws H Q E) (vs ++ dws) H Q E) := by
    refine fn_g (sp := fun vs H Q E => ∃ ws, vs = ws ++ dws ∧ spX C S ws H Q E) Fd Sc hb hd (fun vs H Q E h => ?_) fun cdv A outer s H vs Q E hr h => ?_
    · obtain ⟨ws, e, F, as, M, Φ, Ξ, m, r, hs, q⟩ := h
      have l := len as M Φ Ξ hs
      rw [e, List.length_append, r.length, (hdd (Zf F M) H).length, ← List.length_append]
      exact l
    · obtain ⟨ws, rfl, F, as, M, Φ, Ξ, m, r, hs, q, qx⟩ := h
      refine ⟨semSs (cxOf (L2.CX P w) P w K mg base N qual scope f cdv A outer s H E) body, pss_sem, ?_⟩
      have hW := hbody cdv A outer s H as M Φ Ξ E hr hs (takes_of rfl rfl rfl rfl)
      have mm : MemAt (C.may Ξ E) F M H := ⟨fun a n e => MOk.dress (C := C.may Ξ E) (m.at_ a n e), m.ff, qx⟩
      have qq : Res (C.may Ξ E) F M H Φ Q := fun v d H' M' p m' r' h => q v d H' M' p ⟨fun a n e => MOk.bare (m'.at_ a n e), m'.ff, trivial⟩ r' h
      exact fun pins s1 I => hW.run F (L2.start N (ws ++ dws)) H (at_start mm (r.append (hdd _ _))) _ ⟨fun σ' ρ' H' M' p A' h => qq _ _ H' M' p A'.mem .non h, qq, fun _ _ _ _ _ _ h => h.elim, fun _ _ _ _ _ _ h => h.elim⟩ pins s1 I
  exact G.imp fun vs H Q E h => ⟨vs, rfl, h⟩
/-! ### raise -/
section
variable {X : Cx} {pins : List (Addr × Obj)} {σ : L2.St} {H : Hp} {s : Shared} {c0 B gi : Addr} {v : V} {u : Value} {E' : Value → Shared → Prop} {k : Nat}
/-- c0(v), to be raised -/
theorem call_excM {Q : XK} (E : ErrC X.K c0 B gi) (S : SupI X.K X.prog.main.file B gi) (hsup : X.mg "super" = none) (htop : (X.prog.main.scope.names.lookup ("super" : Str)).isSome = false) (hr : Rm (k + 2) X.A) (I : Inv X pins σ H s) (ru : RelV v u)
    (h : ∀ dx, H dx = none → Q (.ref c0) (some dx) (upd H dx (.xd [("value", v)]))) : wpAny (model X.prog X.w) X.A (call (.ref c0) [u]) (MkP X pins σ Q) E' s := by
  obtain ⟨nm, q, N, bs, bm, sn, sub, ab, col, dd, k0, k1, k2, k3, k5, hC, hbm⟩ := E.oex.cls
  obtain ⟨mb, hb, hmb⟩ := I.ok.mod.blt
  have hbare := I.bare
  obtain ⟨hp, g, dr, tk, os⟩ := s
  have kb : ∀ b o, X.base.get? b = some o → hp.get? b = some o := fun b o z => (I.env0.bs b o z).1
  have KI := I.kIn
  obtain ⟨a, ea⟩ : ∃ a, a = hp.objs.size + 1 := ⟨_, rfl⟩
  have kk : ∀ b o, hp.get? b = some o → ((hp.push (PySem.W.kdv_tup [u])).push (PySem.HandSPX.excO c0 hp.objs.size)).get? b = some o := fun b o z => Heap.get?_push_of_some _ (Heap.get?_push_of_some _ z)
  have hget : ((hp.push (PySem.W.kdv_tup [u])).push (PySem.HandSPX.excO c0 hp.objs.size)).get? a = some (PySem.HandSPX.excO c0 hp.objs.size) := by rw [ea]; heap_get
  have fresh : ∀ b o, hp.get? b = some o → b ≠ a := fun b o z y => by
    have := Heap.lt_size z
    rw [y, ea] at this
    exact absurd this (Nat.not_lt.mpr (Nat.le_succ _))
  have hKe : X.K.lookup a = none := by
    cases z : X.K.lookup a with
    | none => rfl
    | some o => exact absurd rfl (fresh _ _ (KI _ _ z))
  generalize hh2 : (hp.push (PySem.W.kdv_tup [u])).push (PySem.HandSPX.excO c0 hp.objs.size) = h2 at kk hget
  have hs2 : hp.objs.size ≤ h2.objs.size := by rw [← hh2, Heap.size_push, Heap.size_push]; omega
  refine wpAny_call (PySem.HandSPX.call_own F.excBase_ValueError (fun Y => PySem.HandSPX.refsVE_contains Y bm hbm) (KI _ _ hC) (PySem.W.looks_findIn KI E.ini) (fun self => PySem.W.bind_fn KI self E.fn) (by show 1 ≤ sizeLine; rw [sizeLine_eq]; omega) ?_)
  rw [hh2, ← ea]
  refine exc_init (v := u) E S (KI.keeps kk) ((I.ok.mod.glob.keeps kb).keeps kk) hsup ((hb.keeps kb).keeps kk) hmb ((I.ok.mod.nolimit.keeps kb).keeps kk) htop (hr.rm.make c0 [u] []).depth hKe hget fun h' t1 dx tk' k3 dn dne he hn => ?_
  have keep : ∀ b o, hp.get? b = some o → h'.get? b = some o := fun b o z => k3 b o (fresh b o z) (kk b o z)
  have old : ∀ b o, hp.get? b = some o → b ≠ dx := fun b o z y => by
    have q := Heap.lt_size z
    rw [y] at q
    exact absurd q (Nat.not_lt.mpr (Nat.le_trans hs2 dn))
  obtain ⟨G1, g1, g2⟩ := restrict h' fun b => decide (b ≠ dx) && decide (b ≠ a)
  obtain ⟨G, g3, g4⟩ := restrict h' fun b => decide (b ≠ a)
  have hnd : H dx = none := I.hok.fresh (Nat.le_trans hs2 dn)
  have hna : H a = none := I.hok.fresh (by rw [ea]; exact Nat.le_succ _)
  have ga : G.get? a = none := g4 a (by simp)
  have gd : G1.get? dx = none := g2 dx (by simp)
  have gG : ∀ b o, G.get? b = some o → h'.get? b = some o := fun b o z => by
    by_cases y : b = a
    · rw [y, ga] at z; cases z
    · rw [← g3 b (decide_eq_true y)]; exact z
  have k1 : ∀ b o, G1.get? b = some o → G.get? b = some o := fun b o z => by
    by_cases y : b = a
    · rw [g2 b (by simp [y])] at z; cases z
    · by_cases y2 : b = dx
      · rw [y2, gd] at z; cases z
      · rw [g3 b (decide_eq_true y), ← g1 b (by simp [y, y2])]; exact z
  have I1 : Inv X pins σ H ⟨G1, g, dr, tk', os⟩ := I.kept (t' := tk') (h' := G1) fun b o z => by
    rw [g1 b (by simp [fresh b o z, old b o z])]
    exact keep b o z
  obtain ⟨oD, esD, epD, hoD, rD⟩ := id hn
  have hnG : G.Ns1 dx (fun y => if y = "value" then some u else none) := ⟨oD, esD, epD, (g3 dx (decide_eq_true dne)).trans hoD, rD⟩
  have I2 : Inv X pins σ (upd H dx (.xd [("value", v)])) ⟨G, g, dr, tk', os⟩ :=
    I1.laidN (t' := tk') (a := dx) (h' := G) k1 gd hnd ⟨_, hnG, fun f => relO_put (fs := []) (mA := fun _ => none) ru (fun _ => True.intro) f⟩
  refine ⟨rfl, a, _, _, ⟨G, g, dr, tk', os⟩, _, .ref c0, some dx, rfl, I2, gG, ga, he, ⟨rfl, rfl⟩, rfl, rfl, by rw [upd_ne (Ne.symm dne)]; exact hna, rfl, hbare, raises_own E.oex.exC E.oex.tyC, h dx hnd⟩
end
section
variable {C : Gc} {X : Cx} {Ξ : KX} {E : XK} {k n : Nat} {a b e o : Expr} {es : List Expr} {pos p apos pos' : Pos} {x y f m : Str} {wa wb w wo : TwE} {was : TwA}
def wRaise (Ξ : KX) (n : Nat) (w : TwE) : TwS := fun ρ M _ => w ρ M fun d M1 => Ξ n d M1
theorem ss_raise {B gi : Addr} (tk : Tk X E) (hc : X.calm = true) (Er : ErrC X.K (C n) B gi) (S : SupI X.K X.prog.main.file B gi) (hsup : X.mg "super" = none) (htop : (X.prog.main.scope.names.lookup ("super" : Str)).isSome = false) (hr : Rm (k + 2) X.A) (hg : Gl X x) (hm : X.mg x = some (.ref (C n)))
    (h : SE (C.may Ξ E) X e w) (hdb : (x == ("__debug__" : Str)) = false := by decide) (hst : starEach [e] X.env = (false, eval e X.env) :: starEach [] X.env := by rfl) :
    SS (C.may Ξ E) X (.Raise (some (.Call (.Name x p) [e] [] pos)) none pos') (wRaise Ξ n w) :=
  ⟨fun {ρ M E1} q => .mk fun F σ H A Dn kk => (ps_raise (W := fun cls d _ H => E cls d H) hc tk (t := fun σ H Q => ∀ pins s, Inv X pins σ H s → wpAny (model X.prog X.w) X.A (eval (.Call (.Name x p) [e] [] pos) X.env) (MkP X pins σ Q) X.xe s) fun pins s σ H Q I h => h pins s I).sem (by
    intro pins s I
    refine wpAny_Call_Name_kw (ld_glob I hg hm ?_ hdb)
    refine PySem.W.callWith_K (h₀ := X.base) I.ok.mod.kin Er.oex.kC (PyProof.Rows.args_cons (thn ((h.run q).run _ σ H A (fun v H1 => ∃ d M1, Post M H M1 H1 ∧ MemAt (C.may Ξ E) F M1 H1 ∧ Rep C (Zf F M1) H1 v d ∧ Ξ n d M1) (fun v d H1 M1 p1 m1 r1 h1 => ⟨d, M1, p1, m1, r1, h1⟩) pins s I)
      fun u s1 ⟨v, H1, I1, ru, d, M1, p1, m1, r1, h1⟩ => PyProof.Rows.args_nil ⟨I1.kIn, ?_⟩) hst) hst rfl
    refine call_excM Er S hsup htop hr I1 ru fun dx hnd => ?_
    have key : ∀ z o, H1 z = some o → upd H1 dx (.xd [("value", v)]) z = some o := fun z o hz => by rw [upd_ne (ne_of_none hz hnd)]; exact hz
    have p2 : Post M1 H1 M1 (upd H1 dx (.xd [("value", v)])) := ⟨fun b o hb ho => .inl (key b o ho), fun b hb => .inl hb⟩
    have m2 : MemAt (C.may Ξ E) F M1 (upd H1 dx (.xd [("value", v)])) := m1.go p2 fun b nn hb => .inl ⟨hb, key b, fun dx' z => ⟨key dx', ((m1.at_ b _ hb).aux z).2⟩⟩
    have nd : ¬ Zf F M1 dx := fun z => z.elim (fun z => (m1.ff dx z).2 hnd) (fun z => z (m1.old hnd))
    have g : ResX C F M1 H1 Ξ E := m1.gh
    exact g n dx v d _ M1 p2 ⟨fun a n e => MOk.bare (m2.at_ a n e), m2.ff, trivial⟩ nd upd_same (r1.go p2) h1)⟩
/-! ### calls that may raise -/
theorem spX_of {F : Addr → Prop} {M M1 : Mem} {H H1 : Hp} {vs : List V} {ds : List D} {Φ : Kd} {Q : VK} {S : FX} (p : Post M H M1 H1) (m : MemAt (C.may Ξ E) F M1 H1) (r : Reps C (Zf F M1) H1 vs ds) (h : S ds M1 Φ Ξ) (k : Res (C.may Ξ E) F M H Φ Q) : spX C S vs H1 Q E :=
  ⟨F, ds, M1, Φ, Ξ, ⟨fun a n e => MOk.bare (m.at_ a n e), m.ff, trivial⟩, r, h, fun v d H' M' p' m' r' h' => k v d H' M' (p.trans p') ⟨fun a n e => MOk.dress (C := C.may Ξ E) (m'.at_ a n e), m'.ff, ResX.from m.gh p'⟩ r' h', m.gh⟩
end
end DL
/-! ### lambdas without parameters; a try that keeps what it caught -/
namespace DL
open PySem PySem.Spec PyProof.Rows L2
theorem fno_ok {P : Program} {w : World} {H : Hp} {h : Heap} {a : Addr} {o : Obj} (e : h.get? a = some o) : ObjOk P w H h a (FnO o a) := ⟨e, ⟨o, e⟩, fun _ _ z k => k _ z⟩
/-- o is the object of such a lambda of ours, c its code object -/
structure LamD (X : Cx) (params : Arguments) (body : Expr) (scope : Scope) (o : Obj) (c : Addr) (q : Str) : Prop where
  nm : q = X.env.qual ++ "<lambda>"
  ob : ∃ pm ctv, o = PySem.W.kla_obj "<lambda>" q params body scope (cloFrom X.env.cells scope.names []) pm c ctv
section
variable {X : Cx} {pins : List (Addr × Obj)} {σ : L2.St} {H HZ : Hp} {s s1 : Shared}
/-- a lambda is made -/
theorem lam_new {Pr : Addr → Prop} {cd P : Addr} {params : Arguments} {body : Expr} {scope : Scope} {pos : Pos} {E : Value → Shared → Prop} {Q : Value → Shared → Prop} {ps : Array Value} (I : Inv X pins σ H s) (TB : LamX.TabB X.base X.mg cd P) (hcode : X.env.code = .ref cd)
    (hP : H P = some (.tbl ps)) (ht : TriplesOk ps.toList) (ha : ∀ (pos : Pos) (cv : Value), codeAmong pos ps.toList = some cv → ∃ c, cv = .ref c ∧ Pr c ∧ H c = some (LamX.CodeO c (X.env.qual ++ "<lambda>"))) (hdef : defaultsOf params X.env = ([], [])) (hfree : ∀ y ∈ scope.names, y.2 = .free → ∃ c, X.env.cells.lookup y.1 = some c)
    (hit : ∀ (f c : Addr) (o : Obj) (s' : Shared), LamD X params body scope o c (X.env.qual ++ "<lambda>") → H f = none → Pr c → H c = some (LamX.CodeO c (X.env.qual ++ "<lambda>")) → Inv X pins σ (upd H f (FnO o f)) s' → Q (.ref f) s')
    (new : ∀ (f c : Addr) (o : Obj) (ps' : Array Value) (s' : Shared), LamD X params body scope o c (X.env.qual ++ "<lambda>") → H f = none → H c = none → f ≠ c → TriplesOk ps'.toList → (∀ (pos : Pos) (cv : Value), codeAmong pos ps'.toList = some cv → codeAmong pos ps.toList = some cv ∨ cv = .ref c) →
      Inv X pins σ (upd (upd (upd H P (.tbl ps')) c (LamX.CodeO c (X.env.qual ++ "<lambda>"))) f (FnO o f)) s' → Q (.ref f) s') :
    wpAny (model X.prog X.w) X.A (eval (.Lambda params body scope pos) X.env) Q E s := by
  refine PySem.W.kla_eval hdef ?_
  have tb : s.heap.BuiltinsAt X.mg P := TB.bm.keeps I.bk
  have tp : s.heap.get? P = some { cls := .none, data := .fields ps } := I.hok P _ hP
  cases found : codeAmong pos ps.toList with
  | some cv =>
    obtain ⟨c, rfl, pr, hco⟩ := ha pos cv found
    exact PySem.W.kla_makeFunctionHit (mg := X.mg) (c := cd) (P := P) (ps := ps) (closure_ok hfree) I.ok.glob (I.mod.glob.keeps I.bk) hcode (TB.code.keeps I.bk) tp ht found tb fun ctv h' tk hx hsz =>
      hit h'.objs.size c _ _ ⟨rfl, _, _, rfl⟩ (I.hok.fresh hsz) pr hco (I.laid (t' := tk) (a := h'.objs.size) (fun b o e => Heap.get?_push_of_some _ (hx b o e)) hsz (fno_ok (Heap.get?_push_size _ rfl)))
  | none =>
    refine PySem.W.kla_makeFunction (mg := X.mg) (c := cd) (P := P) (ps := ps) (closure_ok hfree) I.ok.glob (I.mod.glob.keeps I.bk) hcode (TB.code.keeps I.bk) tp ht found TB.gP tb fun c ctv h' tk hx hge hlt hrec htb => ?_
    obtain ⟨c2, oc, vs, t, e2, hoc, hd, hv⟩ := hrec
    cases e2
    have I1 := LamX.inv_table (t' := tk) (more := #[rawInt pos.line, rawInt pos.col, .ref c]) (h' := h') I hP (fun b o hb e => hx b o hb e) htb hge ⟨oc, vs, t, hoc, hd, hv⟩
    have I2 := I1.laid (t' := tk) (a := h'.objs.size) (h' := h'.push (PySem.W.kla_obj "<lambda>" (X.env.qual ++ "<lambda>") params body scope (cloFrom X.env.cells scope.names []) ((X.mg "__name__").getD .none) c ctv)) (fun b o e => Heap.get?_push_of_some _ e) (Nat.le_refl _) (fno_ok (Heap.get?_push_size _ rfl))
    have eL : (ps ++ #[rawInt pos.line, rawInt pos.col, .ref c]).toList = ps.toList ++ [rawInt pos.line, rawInt pos.col, .ref c] := by simp
    refine new h'.objs.size c _ _ _ ⟨rfl, _, _, rfl⟩ (I.hok.fresh (Nat.le_trans hge (Nat.le_of_lt hlt))) (I.hok.fresh hge) (Nat.ne_of_gt hlt) (by rw [eL]; exact PySem.TriplesOk_snoc _ _ _ _ ht) (fun pos' cv hc => ?_) I2
    rw [eL] at hc
    exact LamX.among_app _ ht hc
/-- such a lambda is called, deeper -/
theorem lam_code {params : Arguments} {body : Expr} {scope : Scope} {o : Obj} {f c : Addr} {q : Str} {A : Around} {outer : List PySem.Env} {k : Nat} {E : XK} {Q : VK} (I : Inv X pins σ H s) (L : LamX.LamS X.env.scope scope) (D : LamD X params body scope o c q)
    (hbind : ∀ (q : Str) (cl : List (Str × Addr)) (pm cv ctv : Value), bindArgs (PySem.W.kla_fn "<lambda>" q params body scope cl pm cv ctv) ⟨[], []⟩ = pure [])
    (e0 : Env0 X.prog X.w X.K X.mg X.base A outer s1 HZ) (hr : Room (k + 1) A) (un : Un (frs X.stack) [] H HZ s.heap s1.heap) (hf : HZ f = some (FnO o f)) (hc : HZ c = some (LamX.CodeO c q))
    (hb : semE (LamX.lamCx X A outer s1 HZ E scope f c) body σ HZ Q) : codeAny (model X.prog X.w) A (.call (.ref f) ⟨[], []⟩) (CR (L2.CX X.prog X.w) outer X.prog X.w HZ s1 Q E) s1 := by
  obtain ⟨rfl, pm, ctv, rfl⟩ := D
  have here : s1.heap.get? f = some (PySem.W.kla_obj "<lambda>" (X.env.qual ++ "<lambda>") params body scope (cloFrom X.env.cells scope.names []) pm c ctv) := (e0.hok f _ hf).1
  obtain ⟨⟨oc, vs, t, hoc, hdc, hvc⟩, _, _⟩ := e0.hok c _ hc
  have lim : s1.heap.NoLimit := e0.mod.nolimit.keeps fun b o e => (e0.bs b o e).1
  refine PySem.W.kla_callFunE hr.depth here rfl L.co L.gen rfl ⟨c, oc, vs, t, rfl, hoc, hdc, hvc⟩ ?_
  rw [hbind]
  refine wpAny_pure (wpAny_newFunctionEnv (fun y hy => (L.own y hy).2) (fun y hy => absurd hy (by simp)) (fun h₁ hns hsb => ⟨lim.fresh _ hsb, ?_⟩) L.kind)
  have kept : ∀ b u, s1.heap.get? b = some u → h₁.get? b = some u := fun b u e => hsb.extBut b u (Nat.ne_of_lt (Heap.lt_size e)) (Heap.get?_push_of_some _ e)
  have J : Inv (LamX.lamCx X A outer s1 HZ E scope f c) [] σ HZ { s1 with heap := h₁, toks := s1.toks + ([] : List (Str × Value)).length } := LamX.lam_start2 I L e0 hr.hd un hns kept
  refine PySem.W.kla_codeExpr (wpAny_mono (hb [] _ J) (fun v s' z => ?_) fun e s' z => z)
  obtain ⟨w', H', J', rv, z⟩ := z
  exact ⟨w', H', J'.os, J'.bare, J'.base, J'.hok, rv, z⟩
end
/-- what 'except x as n: y = n' wishes of an error: it is kept -/
def wHold (K : PySem.W.Frag) (CB : Addr) (i j : Nat) (D : Ends) : WX := fun cls d σ H => PySem.W.exmOne K cls (.ref CB) = some true ∧ ∃ c0 dd, cls = .ref c0 ∧ d = some dd ∧ ∀ a, H a = none → D.nx (((σ.set i (some (.ref a))).set j (some (.ref a))).set i none) (upd H a (ExV c0 dd a))
section
variable {X : Cx} {x n y : Str} {CB : Addr} {i j : Nat} {body : List Stmt} {np p1 p2 p3 pos pos' : Pos} {tb : WX → TS}
theorem ps_try_hold (hs : X.stack = X.env :: X.outer) (hf : X.env.frame = some X.env.locals) (hN : X.N.Nodup) (hi : X.N[i]? = some n) (hln : X.env.kindOf n = some .local) (hj : X.N[j]? = some y) (hly : Loc X.env.scope y) (hfy : X.fn y = true ∨ X.env.scope.names.lookup y = some .local) (hc : Names X x (.ref CB))
    (hv : Vis X.env.scope n) (hnd : (n == ("__debug__" : Str)) = false) (hncd : (n == ("__classdict__" : Str)) = false)
    (hsw : ∀ (a : Addr) (pn : List (Addr × Obj)), swapsWith (.Name n p2) (some (.Name y p1)) p3.line (X.suite a pn).env = pure false)
    (hb : ∀ (W : WX) (pn : List (Addr × Obj)) (xe : Value → Shared → Prop), Takes (X.tr pn xe) W → PSs (X.tr pn xe) body (tb W)) :
    PS X (.Try body [.ExceptHandler (some (.Name x np)) (some n) [.Assign [.Name y p1] (.Name n p2) p3] pos'] [] [] pos) (fun D σ H => tb (wHold X.K CB i j D) D σ H) := by
  refine ⟨fun pins s σ H D I h => wpAny_Try_except ?_⟩
  have ok := I.ok
  have hfr : X.A.frames = some (X.env :: X.outer) := by rw [ok.frames, hs]
  refine wpAny_mono ((hb (wHold X.K CB i j D) (X.pn ++ pins) (fun e t1 => wpAny (model X.prog X.w) X.A (noteFrame e X.env) (fun _ t2 => wpAny (model X.prog X.w) X.A (setFlight e none) (fun _ t3 =>
    wpAny (model X.prog X.w) X.A (handleBy e X.env [.ExceptHandler (some (.Name x np)) (some n) [.Assign [.Name y p1] (.Name n p2) p3] pos']) (L2.SP X pins D) X.xe t3) X.xe t2) X.xe t1) (fun u s' xx => ?_)).run [] s σ H D (I.toTry _) h) (fun f s1 hsp => ?_) (fun e s1 he => he)
  · obtain ⟨a, B, sI, pins', σ', H', cls, d, rfl, J', nb, up, sky, na, os, ag, hm, c0, dd, rfl, rfl, want⟩ := xx
    have J : Inv X pins σ' H' sI := J'.ofTry ok
    show wpAny (model X.prog X.w) X.A (noteFrame (.ref a) X.env) _ _ _
    refine Sky.land Zc.steady hfr hf (by rw [← hs]; exact sky) fun h3 fl3 up3 => ?_
    have J3 : Inv X pins σ' H' { s' with heap := h3 } := J.landed nb fl3.1 (up.trans up3) os ag
    obtain ⟨oe3, vs3, he3, hz3, hd3⟩ := fl3.there
    have out : ∀ {h : Heap} {o : Obj} {vs : Array Value}, h.FunFrames B (X.env :: X.outer) → h.get? a = some o → o.data = .fields vs → a ∉ frs (X.env :: X.outer) := fun ff e dt hm => by
      obtain ⟨_, o', e', hnf⟩ := ff.mem hm
      rw [e] at e'
      cases e'
      exact hnf _ dt
    have nfr := out fl3.2.2.1 he3 hd3
    have nL : a ≠ X.env.locals := fun z => nfr (List.mem_filterMap.mpr ⟨X.env, List.mem_cons_self, by rw [hf, z]⟩)
    have nF : a ∉ X.fs := fun hm => by
      obtain ⟨e, he, q⟩ := List.mem_filterMap.mp hm
      exact nfr (List.mem_filterMap.mpr ⟨e, List.mem_cons_of_mem _ he, q⟩)
    refine wpAny_handleBy_cons (codeAny_handlers_test ?_) (by intro q; cases q)
    have LT : PySem.W.Looks (model X.prog X.w) h3 (typeOf (.ref a)) (.ref c0) := fun A Q E s k q => wpAny_typeOf_ref (k _ _ he3) (by rw [hz3.1]; exact q)
    have LM := PySem.W.exm_one (M := model X.prog X.w) J3.kIn LT hm
    obtain ⟨hg, hdbg, hcn⟩ := hc
    have test : ∀ {Q : Value → Shared → Prop} {E : Value → Shared → Prop}, Q (.ref CB) { s' with heap := h3 } → wpAny (model X.prog X.w) (X.A.mark (some (.ref a))) (eval (.Name x np) X.env) Q E { s' with heap := h3 } := fun {Q E} q => by
      have S3 := J3.suite he3 hd3 na nL nF
      rcases hcn with hm | ⟨hm, hv, hnn⟩
      · exact ld_glob (X := X.suite a ((a, oe3) :: (X.pn ++ pins))) S3 hg hm q hdbg
      · exact ld_blt (X := X.suite a ((a, oe3) :: (X.pn ++ pins))) S3 hg hm hv q hnn hdbg
    refine test (LM.here (codeAny_handlers_suite_as (HandSPX.lands_againZ fl3 fun h4 fl4 up4 => ?_)))
    obtain ⟨oe4, vs4, he4, hz4, hd4⟩ := fl4.there
    have sIa : sI.heap.get? a = none := by
      cases e : sI.heap.get? a with
      | none => rfl
      | some o =>
        have z := nb a o e (by rw [hs]; exact nfr)
        rw [fl4.2.1] at z
        cases z
    obtain ⟨G, g1, g2⟩ := restrict h4 fun b => decide (b ≠ a)
    have ga : G.get? a = none := g2 a (by simp)
    have gk : ∀ b, b ≠ a → G.get? b = h4.get? b := fun b hb => g1 b (decide_eq_true hb)
    have JG : Inv X pins σ' H' { s' with heap := G } := J.landed nb (fun b o e => by
        rw [gk b (fun z => by rw [z, fl4.2.1] at e; cases e)]
        exact fl4.1 b o e) (fun b o e hd => by
        rw [gk b (fun z => by rw [z, sIa] at e; cases e)]
        exact ((up.trans up3).trans up4) b o e hd) os ag
    have JA : Inv X pins σ' (upd H' a (ExV c0 dd a)) { s' with heap := h4 } := JG.laidN (t' := s'.toks) (a := a) (h' := h4) (fun b o e => by
        rw [← gk b (fun z => by rw [z, ga] at e; cases e)]
        exact e) ga na ⟨⟨oe4, vs4, he4, hz4, hd4⟩, ⟨oe4, he4⟩, fun _ _ z k => by
        obtain ⟨oe, vs, z1, z2, z3⟩ := z
        exact ⟨oe, vs, k _ z1, z2, z3⟩⟩
    have S4 : Inv (X.suite a (X.pn ++ pins)) [] σ' (upd H' a (ExV c0 dd a)) { s' with heap := h4 } := ⟨JA.ok.suite _ _, JA.os, JA.bare, JA.base, JA.loc, JA.cell, JA.free, JA.freeC, fun p hp => JA.pin p (by rw [List.append_nil] at hp; exact hp), JA.hok, JA.len⟩
    have hil : i < σ'.length := by rw [JA.len]; exact (List.getElem?_eq_some_iff.mp hi).1
    refine store_ok (X := X.suite a (X.pn ++ pins)) (v := .ref a) S4 hN hi (.inl hln) rfl (fun s5 S5 => ?_) (.inr hln)
    refine wpAny_mono ((pss_one (ps_set hN hj hly (pe_var hi hv hnd hncd) (hsw a _) hfy) : PSs (X.suite a (X.pn ++ pins)) _ _).run [] s5 _ _ { nx := fun σ6 H6 => σ6 = (σ'.set i (some (.ref a))).set j (some (.ref a)) ∧ H6 = upd H' a (ExV c0 dd a), rt := fun _ _ => False, bk := fun _ _ => False, ct := fun _ _ => False } S5
      ⟨.ref a, by rw [List.getElem?_set_self hil], rfl, rfl⟩) (fun f s6 hsp => ?_) (fun _ _ z => z.elim)
    cases f with
    | next =>
      obtain ⟨σ6, H6, S6, e1, e2⟩ := hsp
      subst e1 e2
      exact gone_ok (X := X) (pins := pins) ⟨ok, S6.os, S6.bare, S6.base, S6.loc, S6.cell, S6.free, S6.freeC, fun p hp => S6.pin p (List.mem_append_left _ hp), S6.hok, S6.len⟩ hN hi hln fun s7 J7 => ⟨_, _, J7, want a na⟩
    | brk => obtain ⟨_, _, _, z⟩ := hsp; exact z.elim
    | cont => obtain ⟨_, _, _, z⟩ := hsp; exact z.elim
    | ret u => obtain ⟨_, _, _, _, _, z⟩ := hsp; exact z.elim
  · cases f with
    | next =>
      obtain ⟨σ', H', J', q⟩ := hsp
      exact wpAny_execs_nil ⟨σ', H', J'.ofTry ok, q⟩
    | brk =>
      obtain ⟨σ', H', J', q⟩ := hsp
      exact ⟨σ', H', J'.ofTry ok, q⟩
    | cont =>
      obtain ⟨σ', H', J', q⟩ := hsp
      exact ⟨σ', H', J'.ofTry ok, q⟩
    | ret u =>
      obtain ⟨v, σ', H', J', r, q⟩ := hsp
      exact ⟨v, σ', H', J'.ofTry ok, r, q⟩
end
end DL
/-! ### lambdas as data; the def that calls one and keeps what it raised -/
namespace DL
open PySem PySem.Spec PyProof.Rows L2
section
variable {Cs : Gc} {X : Cx} {ρ : Env} {M : Mem} {Φ : Kd}
theorem we_lambda {cd P : Addr} {params : Arguments} {lb : Expr} {scope : Scope} {pos : Pos} (TB : LamX.TabB X.base X.mg cd P) (hcode : X.env.code = .ref cd) (hM : M P = some (.tab (X.env.qual ++ "<lambda>"))) (hdef : defaultsOf params X.env = ([], [])) (L : LamX.LamS X.env.scope scope)
    (h : ∀ o c, LamD X params lb scope o c (X.env.qual ++ "<lambda>") → Φ (.fn o c (X.env.qual ++ "<lambda>")) M) : WE Cs X (.Lambda params lb scope pos) ρ M Φ := .mk fun F σ H A Q k pins s I => by
  obtain ⟨ps, hP, ht, ha⟩ := A.mem.at_ P _ hM
  refine lam_new (Pr := fun c => ¬ Zf F M c) (ps := ps) I TB hcode hP ht ha hdef (L.has I.ok) (fun f c o s' l nf pr hco J => ?_) (fun f c o ps' s' l nf nc nfc ht' ham J => ?_)
  · exact ⟨.ref f, _, J, rfl, k _ (.fn o c _) _ M (post_new nf) (A.mem.new nf) (.fn (A.mem.notZ nf) pr upd_same (by rw [upd_ne (ne_of_none hco nf)]; exact hco)) (h o c l)⟩
  · have key : ∀ b u, b ≠ P → H b = some u → (upd (upd (upd H P (.tbl ps')) c (LamX.CodeO c (X.env.qual ++ "<lambda>"))) f (FnO o f)) b = some u := fun b u e z => by
      rw [upd_ne (ne_of_none z nf), upd_ne (ne_of_none z nc), upd_ne e]; exact z
    have atc : (upd (upd (upd H P (.tbl ps')) c (LamX.CodeO c (X.env.qual ++ "<lambda>"))) f (FnO o f)) c = some (LamX.CodeO c (X.env.qual ++ "<lambda>")) := by rw [upd_ne (Ne.symm nfc), upd_same]
    have pp : Post M H M (upd (upd (upd H P (.tbl ps')) c (LamX.CodeO c (X.env.qual ++ "<lambda>"))) f (FnO o f)) := ⟨fun b u hb hu => .inl (key b u (fun z => by rw [z, hM] at hb; cases hb) hu), fun b h => .inl h⟩
    have mm : MemAt Cs F M (upd (upd (upd H P (.tbl ps')) c (LamX.CodeO c (X.env.qual ++ "<lambda>"))) f (FnO o f)) := A.mem.go pp fun b n e => by
      by_cases eb : b = P
      · subst eb
        rw [hM] at e
        cases e
        refine .inr ⟨ps', by rw [upd_ne (ne_of_none hP nf), upd_ne (ne_of_none hP nc), upd_same], ht', fun pos cv hc => ?_⟩
        rcases ham pos cv hc with z | z
        · obtain ⟨c2, r1, r2, r3⟩ := ha pos cv z
          exact ⟨c2, r1, r2, key c2 _ (fun y => LamX.codeO_ne ps (Option.some.inj (r3.symm.trans (by rw [y]; exact hP)))) r3⟩
        · exact ⟨c, z, A.mem.notZ nc, atc⟩
      · refine .inl ⟨e, fun u => key b u eb, fun dx z => ?_⟩
        have q := ((A.mem.at_ b _ e).aux z).2
        exact ⟨fun u => key dx u (fun y => by rw [y, hM] at q; cases q), q⟩
    exact ⟨.ref f, _, J, rfl, k _ (.fn o c _) _ M pp mm (.fn (A.mem.notZ nf) (A.mem.notZ nc) upd_same atc) (h o c l)⟩
/-- a lambda's term -/
def wLam (X : Cx) (P : Addr) (params : Arguments) (lb : Expr) (scope : Scope) : TwE := fun _ M Φ => M P = some (.tab (X.env.qual ++ "<lambda>")) ∧ ∀ o c, LamD X params lb scope o c (X.env.qual ++ "<lambda>") → Φ (.fn o c (X.env.qual ++ "<lambda>")) M
theorem se_lam {cd P : Addr} {params : Arguments} {lb : Expr} {scope : Scope} {pos : Pos} (TB : LamX.TabB X.base X.mg cd P) (hcode : X.env.code = .ref cd) (hdef : defaultsOf params X.env = ([], [])) (L : LamX.LamS X.env.scope scope) : SE Cs X (.Lambda params lb scope pos) (wLam X P params lb scope) :=
  ⟨fun h => we_lambda TB hcode h.1 hdef L h.2⟩
end
/-! ### look() within told, as a statement -/
section
variable {X : Cx} {pins : List (Addr × Obj)} {σ : L2.St} {H : Hp} {s : Shared}
/-- x(), x a local name that holds our lambda: an error is wished for at the slots of now -/
theorem pe_act {Ng : List Str} {qg : Str} {sg : Scope} {g f c : Addr} {cdg : Value} {params : Arguments} {lb : Expr} {scope : Scope} {o : Obj} {q : Str} {k i : Nat} {x : Str} {pn : List (Addr × Obj)} {xe : Value → Shared → Prop} {W : WX} {p1 p2 : Pos}
    (I : Inv X pins σ H s) (L : LamX.LamS X.env.scope scope) (D : LamD X params lb scope o c q)
    (hbind : ∀ (q : Str) (cl : List (Str × Addr)) (pm cv ctv : Value), bindArgs (PySem.W.kla_fn "<lambda>" q params lb scope cl pm cv ctv) ⟨[], []⟩ = pure [])
    (tk : Takes ((cxOf CX0 X.prog X.w X.K X.mg X.base Ng qg sg g cdg X.A X.stack s H E0).tr pn xe) W) (hr : Room (k + 1) (X.A.deeper (envOfC qg sg s.heap.objs.size g cdg)))
    (hN : Ng[i]? = some x) (hv : Vis sg x) (hd : (x == ("__debug__" : Str)) = false) (hcd : (x == ("__classdict__" : Str)) = false) :
    PE ((cxOf CX0 X.prog X.w X.K X.mg X.base Ng qg sg g cdg X.A X.stack s H E0).tr pn xe) (.Call (.Name x p1) [] [] p2) (fun σZ HZ Q => σZ[i]? = some (some (.ref f)) ∧ HZ f = some (FnO o f) ∧ HZ c = some (LamX.CodeO c q) ∧
      ∀ s1, semE (LamX.lamCx X (X.A.deeper (envOfC qg sg s.heap.objs.size g cdg)) (envOfC qg sg s.heap.objs.size g cdg :: X.stack) s1 HZ (fun cls d H' => W cls d σZ H') scope f c) lb σ HZ Q) := by
  refine ⟨fun pz sz σZ HZ Q IZ h => ?_⟩
  obtain ⟨hs, hf, hc, hb⟩ := h
  refine wpAny_Call_Name_kw (thn ((pe_var (pos := p1) (i := i) hN hv hd hcd).run pz sz σZ HZ (fun v H1 => v = .ref f ∧ H1 = HZ) IZ ⟨.ref f, hs, rfl, rfl⟩) fun u s1 ⟨v, H1, I1, r1, q1⟩ => ?_)
  obtain ⟨rfl, rfl⟩ := q1
  obtain rfl : u = Value.ref f := r1
  obtain ⟨nmq, pm, ctv, eo⟩ := id D
  have here : s1.heap.get? f = some o := (I1.hok f _ hf).1
  rw [eo] at here
  have rc : codeAny (model X.prog X.w) (X.A.deeper (envOfC qg sg s.heap.objs.size g cdg)) (.call (.ref f) ⟨[], []⟩) (CR (L2.CX X.prog X.w) (envOfC qg sg s.heap.objs.size g cdg :: X.stack) X.prog X.w H1 s1 Q fun cls d H' => W cls d σZ H') s1 :=
    lam_code I L D hbind I1.env0 hr I1.base hf hc (hb s1)
  refine PySem.W.callWith_F0 ⟨_, _, _, _, here⟩ (wpAny_call (codeAny_mono rc fun r s' z => ?_))
  cases r with
  | error e => exact tk e s' (XE.of_call I1 (fun _ _ _ w => w) z)
  | ok fl =>
    cases fl with
    | ret u => exact I1.after z
    | next => exact False.elim z
    | brk => exact False.elim z
    | cont => exact False.elim z
end
/-! ### told -/
def toldG (ta : Bool) (d : D) : D := match ta with
  | true => .tup [.non, d]
  | false => .non
def toldB (ta : Bool) (e : D) : D := match ta with
  | true => .tup [e, .non]
  | false => e
def toldGV (ta : Bool) (Q : VK) (v : V) (H : Hp) : Prop := match ta with
  | true => ∀ p, H p = none → Q (.ref p) (upd H p (.tup [.non, v]))
  | false => Q .non H
def toldBV (ta : Bool) (Q : VK) (c0 dd : Addr) (H : Hp) : Prop := ∀ a, H a = none → match ta with
  | true => ∀ p, upd H a (ExV c0 dd a) p = none → Q (.ref p) (upd (upd H a (ExV c0 dd a)) p (.tup [.ref a, .non]))
  | false => Q (.ref a) (upd H a (ExV c0 dd a))
/-- nothing is new but one thing -/
def Nw (H H' : Hp) : Prop := H' = H ∨ ∃ p o, H p = none ∧ H' = upd H p o
/-- the def tn of one parameter look calls it, and keeps an error of the class at CB (or below) -/
def ToldOk (ta : Bool) (P : Program) (w : World) (K : PySem.W.Frag) (mg : Str → Option Value) (base : Heap) (tn : Str) (Nt : List Str) (look : Str) (tsc : Scope) (g CB : Addr) (tbody : List Stmt) : Prop :=
  ∀ (cdv : Value) (A : Around) (outer : List PySem.Env) (s : Shared) (H : Hp) (f : Addr) (Y : XK → Hp → VK → Prop) (gd : VK) (bd : Addr → Addr → Hp → Prop) (Q : VK),
    (∀ (W : WX) (pn : List (Addr × Obj)) (xe : Value → Shared → Prop) (p1 p2 : Pos), Takes ((cxOf CX0 P w K mg base Nt tn tsc g cdv A outer s H E0).tr pn xe) W →
      PE ((cxOf CX0 P w K mg base Nt tn tsc g cdv A outer s H E0).tr pn xe) (.Call (.Name look p1) [] [] p2) (fun σZ HZ Q => σZ[0]? = some (some (.ref f)) ∧ Y (fun cls d H' => W cls d σZ H') HZ Q)) →
    (∀ (E : XK) (H2 : Hp), Nw H H2 → (∀ c0 dd H', bd c0 dd H' → E (.ref c0) (some dd) H') → Y E H2 gd) → (∀ (E : XK) (Q Q' : VK) (H : Hp), (∀ v H', Q v H' → Q' v H') → Y E H Q → Y E H Q') →
    (∀ v H', gd v H' → toldGV ta Q v H') → (∀ c0 dd H', bd c0 dd H' → PySem.W.exmOne K (.ref c0) (.ref CB) = some true ∧ toldBV ta Q c0 dd H') →
    ∃ t, PSs (cxOf CX0 P w K mg base Nt tn tsc g cdv A outer s H E0) tbody t ∧ t { nx := fun _ H' => Q .non H', rt := Q } (L2.start Nt [.ref f]) H
theorem exm_err {K : PySem.W.Frag} {c0 B gi : Addr} (E : ErrC K c0 B gi) (EB : ErrC K B B gi) (hB : ∃ cd, PySem.W.clsIn K B = some cd) : PySem.W.exmOne K (.ref c0) (.ref B) = some true := by
  obtain ⟨cd, hB⟩ := hB
  unfold PySem.W.exmOne PySem.W.kitCls
  rw [EB.oex.exC, if_pos (by decide)]
  show (if ((PySem.W.clsIn K B).isSome && PySem.W.typeIn K (.ref B) == some (.type "type")) = true then PySem.W.subIn K (.ref c0) (.ref B) else none) = some true
  rw [EB.oex.tyC, hB, if_pos (by simp)]
  exact E.sub
/-- o is a lambda of ours; then its body -/
def wToldK (X : Cx) (ta : Bool) (isE : Nat → Prop) (params : Arguments) (lb : Expr) (scope : Scope) (wb : KX → TwE) (wa : TwE) : TwE := fun ρ M Φ => wa ρ M fun d M1 => match d with
  | .fn o c q => LamD X params lb scope o c q ∧ wb (fun n d M2 => isE n ∧ Φ (toldB ta (.exc n d)) M2) ρ M1 fun d M2 => Φ (toldG ta d) M2
  | _ => False
section
variable {Cs : Gc} {X : Cx}
theorem se_told {ta : Bool} {isE : Nat → Prop} {params tparams : Arguments} {lb e : Expr} {scope tsc : Scope} {wb : KX → TwE} {wa : TwE} {tn look : Str} {Nt : List Str} {g CB : Addr} {tbody : List Stmt} {k : Nat} {p pos : Pos}
    (Fd : ∃ fd, FunD X.K tn tn tparams tbody tsc [] [] g fd ∧ Binds X.K fd [look] []) (Sc : FnScope Nt [look] tsc) (TO : ToldOk ta X.prog X.w X.K X.mg X.base tn Nt look tsc g CB tbody) (hN : Nt[0]? = some look) (hv : Vis tsc look) (hd : (look == ("__debug__" : Str)) = false) (hcd : (look == ("__classdict__" : Str)) = false)
    (hg : Gl X tn) (hm : X.mg tn = some (.ref g)) (hk : PySem.W.keepIn X.K (.ref g) = true) (L : LamX.LamS X.env.scope scope) (hbind : ∀ (q : Str) (cl : List (Str × Addr)) (pm cv ctv : Value), bindArgs (PySem.W.kla_fn "<lambda>" q params lb scope cl pm cv ctv) ⟨[], []⟩ = pure [])
    (hr : Rm (k + 2) X.A) (herr : ∀ n, isE n → PySem.W.exmOne X.K (.ref (Cs n)) (.ref CB) = some true) (ha : SE Cs X e wa)
    (hl : ∀ (A : Around) (outer : List PySem.Env) (s : Shared) (H : Hp) (E : XK) (f c : Addr) (Ξ : KX), Rm k (LamX.lamCx X A outer s H E scope f c).A → Tk (LamX.lamCx X A outer s H E scope f c) E → SE (Cs.may Ξ E) (LamX.lamCx X A outer s H E scope f c) lb (wb Ξ))
    (hdb : (tn == ("__debug__" : Str)) = false := by decide) (hst : starEach [e] X.env = (false, eval e X.env) :: starEach [] X.env := by rfl) : SE Cs X (.Call (.Name tn p) [e] [] pos) (wToldK X ta isE params lb scope wb wa) :=
  ⟨fun {ρ M Φ} h => .mk fun F σ H A Q k pins s I => by
    refine wpAny_Call_Name_kw (ld_glob I hg hm ?_ hdb)
    refine PySem.W.callWith_K (h₀ := X.base) I.ok.mod.kin hk (PyProof.Rows.args_cons (thn ((ha.run h).run _ σ H A (fun v H1 => ∃ d M1, Post M H M1 H1 ∧ MemAt Cs F M1 H1 ∧ Rep Cs (Zf F M1) H1 v d ∧ ∃ o c q, d = .fn o c q ∧ LamD X params lb scope o c q ∧ wb (fun n d M2 => isE n ∧ Φ (toldB ta (.exc n d)) M2) ρ M1 fun d M2 => Φ (toldG ta d) M2)
      (fun v d H1 M1 p1 m1 r1 h1 => by
        dsimp only at h1
        split at h1
        · exact ⟨_, M1, p1, m1, r1, _, _, _, rfl, h1⟩
        · exact h1.elim) pins s I)
      fun u s1 ⟨v, H1, I1, ru, d, M1, p1, m1, r1, o, c, q, ed, hD, h1⟩ => PyProof.Rows.args_nil ⟨I1.kIn, ?_⟩) hst) hst rfl
    show wpAny _ _ (call (.ref g) [u]) _ _ _
    subst ed
    cases r1 with
    | @fn f _ _ _ hz hx hf hc =>
      obtain rfl : u = Value.ref f := ru
      obtain ⟨fd, Fd, hb⟩ := Fd
      obtain ⟨oc, od, dV, kV, doc, pm, an, cdv, ct, osl, rfl, lk, hcd', _, _⟩ := Fd.ex
      have rc : codeAny (model X.prog X.w) X.A (.call (.ref g) ⟨[.ref f], []⟩) (CR CX0 X.stack X.prog X.w H1 s1 Q E0) s1 := by
        refine LamX.run_ofS (N := Nt) (ps := [look]) (us := [.ref f]) (vs := [.ref f]) lk hcd' Sc hr.rm I1.env0 (hb s1 [.ref f] I1.kIn rfl) (.cons rfl .nil) rfl fun hr' => ?_
        refine TO cdv X.A X.stack s1 H1 f (fun E HZ Q' => HZ f = some (FnO o f) ∧ HZ c = some (LamX.CodeO c q) ∧ ∀ s2, semE (LamX.lamCx X (X.A.deeper (envOfC tn tsc s1.heap.objs.size g cdv)) (envOfC tn tsc s1.heap.objs.size g cdv :: X.stack) s2 HZ E scope f c) lb σ HZ Q')
          (fun v H' => ∃ d M', Post M1 H1 M' H' ∧ MemAt Cs F M' H' ∧ Rep Cs (Zf F M') H' v d ∧ Φ (toldG ta d) M')
          (fun c0 dd H' => ∃ n v d M', c0 = Cs n ∧ Post M1 H1 M' H' ∧ MemAt Cs F M' H' ∧ ¬ Zf F M' dd ∧ H' dd = some (.xd [("value", v)]) ∧ Rep Cs (Zf F M') H' v d ∧ isE n ∧ Φ (toldB ta (.exc n d)) M') Q
          (fun W pn xe p1 p2 tk => ⟨fun pz sz σZ HZ Q IZ z => (pe_act (p1 := p1) (p2 := p2) I1 L hD hbind tk hr' hN hv hd hcd).run pz sz σZ HZ Q IZ ⟨z.1, z.2.1, z.2.2.1, z.2.2.2⟩⟩)
          (fun E H2 nw hE => ?_) (fun E Q Q' HZ i z => ⟨z.1, z.2.1, fun s2 pz sz IZ => wpAny_mono (z.2.2 s2 pz sz IZ) (fun u s' ⟨v, H', J, rv, y⟩ => ⟨v, H', J, rv, i v H' y⟩) fun _ _ y => y⟩) (fun v H' z => ?_) (fun c0 dd H' z => ?_)
        · have pn : Post M1 H1 M1 H2 ∧ MemAt Cs F M1 H2 ∧ H2 f = some (FnO o f) ∧ H2 c = some (LamX.CodeO c q) := by
            rcases nw with rfl | ⟨a, u, na, rfl⟩
            · exact ⟨.refl, m1, hf, hc⟩
            · exact ⟨post_new na, m1.new na, by rw [upd_ne (ne_of_none hf na)]; exact hf, by rw [upd_ne (ne_of_none hc na)]; exact hc⟩
          obtain ⟨pn, m2, hf2, hc2⟩ := pn
          refine ⟨hf2, hc2, fun s2 => ?_⟩
          have AA := A.go (p1.trans pn) m2
          exact ((hl _ _ s2 H2 E f c _ ((hr.deeper _).deeper _) (takes_of rfl rfl rfl rfl)).run h1).run F σ H2 ⟨⟨fun a n e => MOk.dress (C := Cs.may _ E) (MOk.bare (m2.at_ a n e)), m2.ff, fun n dd v d H' M' p m hz hd r hx => hE _ dd H' ⟨n, v, d, M', rfl, pn.trans p, m.dress (Cs.cl _ _ _ _ _ m2.gh p), hz, hd, r, hx⟩⟩, AA.len, AA.env⟩ _
            fun v d H' M' p m r h => ⟨d, M', pn.trans p, ⟨fun a n e => MOk.dress (MOk.bare (m.at_ a n e)), m.ff, Cs.cl _ _ _ _ _ m2.gh p⟩, r, h⟩
        · obtain ⟨d, M', p, m, r, y⟩ := z
          cases ta with
          | true => exact fun a na => A.mem |> fun _ => k _ _ _ M' ((p1.trans p).trans (post_new na)) (m.new na) (.tup (m.notZ na) (.inl upd_same) (.cons .non (.cons (r.go (post_new na)) .nil))) y
          | false => exact k _ _ _ M' (p1.trans p) m .non y
        · obtain ⟨n, v, d, M', rfl, p, m, hz, hd, r, he, y⟩ := z
          refine ⟨herr n he, fun a na => ?_⟩
          have pa : Post M' H' M' (upd H' a (ExV (Cs n) dd a)) := post_new na
          have ra : Rep Cs (Zf F M') (upd H' a (ExV (Cs n) dd a)) (.ref a) (.exc n d) := .exc (m.notZ na) hz upd_same (by rw [upd_ne (ne_of_none hd na)]; exact hd) (r.go pa)
          cases ta with
          | true => exact fun b nb => k _ _ _ M' (((p1.trans p).trans pa).trans (post_new nb)) ((m.new na).new nb) (.tup ((m.new na).notZ nb) (.inl upd_same) (.cons (ra.go (post_new nb)) (.cons .non .nil))) y
          | false => exact k _ _ _ M' ((p1.trans p).trans pa) (m.new na) ra y
      refine wpAny_call (codeAny_mono rc fun r s' z => ?_)
      cases r with
      | error e => exact (show False from z).elim
      | ok fl =>
        cases fl with
        | ret u => exact I1.after z
        | next => exact False.elim z
        | brk => exact False.elim z
        | cont => exact False.elim z⟩
/-- one of two lambdas -/
def wAlt (w1 w2 : TwE) : TwE := fun ρ M Φ => w1 ρ M Φ ∨ w2 ρ M Φ
theorem se_alt {e : Expr} {w1 w2 : TwE} (h1 : SE Cs X e w1) (h2 : SE Cs X e w2) : SE Cs X e (wAlt w1 w2) := ⟨fun h => h.elim h1.run h2.run⟩
end
end DL
/-! ### new instances whose __init__ may raise; own operators and own [ ] that may -/
namespace DL
open PySem PySem.Spec PyProof.Rows L2
section
variable {C : Gc} {X : Cx} {Ξ : KX} {E : XK} {k n : Nat} {a b e o : Expr} {es : List Expr} {pos p apos pos' : Pos} {x y f m : Str} {wa wb w wo : TwE} {was : TwA}
/-- an own operator that may raise, of two of its class -/
def pOwnX (Ξ : KX) (n : Nat) (S : FX) : TwO := fun x y M Φ => match x, y with
  | .obj c _, .obj d _ => match Nat.beq c n, Nat.beq d n with
    | true, true => S [x, y] M Φ Ξ
    | _, _ => False
  | _, _ => False
theorem so_ownX {op : Operator} {g : Addr} {S : FX} (tk : Tk X E) (hsf : PySem.W.selfFirst X.K (C n) = true) (hs : PySem.W.findIn X.K (.ref (C n)) (PySem.dunder op.info.2) = some (some (.ref g))) (hf : PySem.W.isFn X.K (.ref g) = true) (Fn : FnX C X k g S) (hr : Rm k X.A) : SO (C.may Ξ E) X (binaryOp op) (pOwnX Ξ n S) :=
  ⟨fun {x y M Φ} h => .mk fun F H vx vy m rx ry Q k pins s σ v u I rv ru => by
    unfold pOwnX at h
    split at h
    · split at h
      · rename_i e1 e2
        have := beq_c e1; subst this
        have := beq_c e2; subst this
        obtain ⟨q, dx, ws, rfl, hsl, _⟩ := rep_slt rx
        obtain ⟨q', dx', ws', rfl, hsl', _⟩ := rep_slt ry
        cases rv; cases ru
        exact bin_g (E := E) hsf hs hf Fn hr (passes_call tk fun _ _ _ _ h => h) I hsl hsl' (spX_of .refl m (.cons rx (.cons ry .nil)) h k)
      · exact h.elim
    · exact h.elim⟩
end
end DL
/-! ### heads with tables of code objects; defs whose code object is told -/
namespace DL
open PySem PySem.Spec PyProof.Rows L2
theorem tabM_at {K : PySem.W.Frag} {tf : Tf} {p : He.Defn × Str} (nd : (tf.map (tabA K)).Nodup) (hp : p ∈ tf) : tabM K tf (tabA K p) = some (.tab p.2) := by
  unfold tabM
  induction tf with
  | nil => cases hp
  | cons q tf ih =>
    rw [List.map_cons, List.nodup_cons] at nd
    by_cases e : tabA K q = tabA K p
    · rw [List.find?_cons_of_pos (by simpa using e)]
      rcases List.mem_cons.mp hp with rfl | hp
      · rfl
      · exact absurd (List.mem_map.mpr ⟨p, hp, e.symm⟩) nd.1
    · rw [List.find?_cons_of_neg (by simpa using e)]
      rcases List.mem_cons.mp hp with rfl | hp
      · exact absurd rfl e
      · exact ih nd.2 hp
theorem tabM_some {K : PySem.W.Frag} {tf : Tf} {b : Addr} {n : MO} (h : tabM K tf b = some n) : ∃ p ∈ tf, tabA K p = b ∧ n = .tab p.2 := by
  unfold tabM at h
  obtain ⟨p, h1, h2⟩ := Option.map_eq_some_iff.mp h
  exact ⟨p, List.mem_of_find?_eq_some h1, by simpa using List.find?_some h1, h2.symm⟩
theorem tabM_none {K : PySem.W.Frag} {tf : Tf} {b : Addr} (h : b ∉ tf.map (tabA K)) : tabM K tf b = none := by
  cases e : tabM K tf b with
  | none => rfl
  | some n =>
    obtain ⟨p, hp, e1, _⟩ := tabM_some e
    exact absurd (List.mem_map.mpr ⟨p, hp, e1⟩) h
theorem law_DT {P : Program} {w : World} {K : PySem.W.Frag} {mg mb : Str → Option Value} {Cs : Gc} {k : Nat} {fa a : Addr} {S : FS} {s₁ : Shared} {vs : List Value} {ns : List Int} {tf : Tf}
    (KX : K.In s₁.heap) (hno : noL K = true) (hns : s₁.heap.Ns mainGlobals mg) (hb : s₁.heap.Ns builtinsNs mb) (hbb : ∀ x : Str, x ≠ "__name__" → mb x = bootBuiltins x) (hlim : s₁.heap.NoLimit) (hg : s₁.gens = #[])
    (tk : TabF tf s₁.heap K) (hbm : ∃ (bm : Addr) (ob : Obj), mg "__builtins__" = some (.ref bm) ∧ bm ≠ builtinsNs ∧ s₁.heap.get? bm = some ob ∧ ob.cls = .type "module" ∧ ob.dict = some builtinsNs ∧ ob.data = .plain)
    (ha : s₁.heap.get? a = some { cls := .type "list", data := .seq vs.toArray }) (hi : IntsAre vs ns) (hl : ns.length ≤ sizeLine) (hr : Rm k callerA)
    (F : ∀ base : Heap, (∀ p ∈ tf, LamX.TabB base mg (He.cT K p.1).1 (tabA K p)) → FnG P w K mg base CX0 k fa (spD Cs S))
    (hsp : S [.lst (ns.map D.int)] (tabM K tf) fun d _ => d = .bl true) (hgh : ∀ F M H, Cs.gh F M H) :
    codeAny (model P w) callerA (.call (.ref fa) ⟨[.ref a], []⟩) (fun r s' => r = .ok (.ret (.bool true)) ∧ OldK s₁.heap s'.heap ∧ s'.os = s₁.os ∧ AllBare s'.gens) s₁ := by
  have rv := vals_ints hi
  have hk : K.lookup a = none := by
    cases hk : K.lookup a with
    | none => rfl
    | some o =>
      have e := KX a o hk
      rw [ha] at e
      cases e
      exact absurd rfl (noL_ok hno hk)
  have CH : ∀ p ∈ tf, PySem.W.CodeHd s₁.heap (He.cT K p.1).1 (tabA K p) := fun p hp => PySem.W.codeHd_of_K KX (tk.hd p hp)
  generalize hO : ({ cls := .type "list", data := .seq vs.toArray } : Obj) = ob at ha
  have inT : ∀ b, b ∈ tf.map (tabA K) → ∃ p ∈ tf, tabA K p = b := fun b hb => List.mem_map.mp hb
  have tabT : ∀ b, b ∈ tf.map (tabA K) → s₁.heap.get? b = some { cls := .none, data := .fields #[] } := fun b hb => by
    obtain ⟨p, hp, rfl⟩ := inT b hb
    exact tk.empty p hp
  have aT : a ∉ tf.map (tabA K) := fun z => by
    have q := tabT a z
    rw [ha, ← hO] at q
    cases q
  let H : Hp := fun b => if b = a then some (.frz ob (.lst (ns.map V.int))) else if b ∈ tf.map (tabA K) then some (.tbl #[]) else none
  have Ha : H a = some (.frz ob (.lst (ns.map V.int))) := if_pos rfl
  have Ht : ∀ {b}, b ∈ tf.map (tabA K) → H b = some (.tbl #[]) := fun {b} h => (if_neg (show ¬ b = a from fun z => aT (by rw [← z]; exact h))).trans (if_pos h)
  have Hn : ∀ {b}, b ≠ a → b ∉ tf.map (tabA K) → H b = none := fun h h2 => (if_neg h).trans (if_neg h2)
  have two : ∀ b u, H b = some u → (b = a ∧ u = .frz ob (.lst (ns.map V.int))) ∨ (b ∈ tf.map (tabA K) ∧ u = .tbl #[]) := fun b u z => by
    by_cases h1 : b = a
    · subst h1; rw [Ha] at z; cases z; exact .inl ⟨rfl, rfl⟩
    · by_cases h2 : b ∈ tf.map (tabA K)
      · rw [Ht h2] at z; cases z; exact .inr ⟨h2, rfl⟩
      · rw [Hn h1 h2] at z; cases z
  -- what is neither a list nor an empty record is not tracked
  have free : ∀ {b : Addr} {o : Obj}, s₁.heap.get? b = some o → (∀ n xs, o.data ≠ .seq xs n) → o.data ≠ .fields #[] → H b = none := fun {b o} e h1 h2 => by
    refine Hn (fun z => ?_) fun z => ?_
    · rw [z, ha, ← hO] at e
      cases e
      exact h1 _ _ rfl
    · rw [tabT b z] at e
      cases e
      exact h2 rfl
  have nsK : ∀ {b : Addr} {m : Str → Option Value}, s₁.heap.Ns b m → (hidT s₁.heap H).Ns b m := fun {b m} ⟨o, es, ep, e, d, r⟩ => ⟨o, es, ep, hidT_get e (free e (fun n xs z => by rw [d] at z; cases z) (fun z => by rw [d] at z; cases z)), d, r⟩
  have hKb : K.In (hidT s₁.heap H) := fun b o e => hidT_get (KX b o e) (Hn (fun z => by subst z; rw [hk] at e; cases e) fun z => by
    obtain ⟨p, hp, rfl⟩ := inT b z
    rw [tk.out p hp] at e
    cases e)
  have hok : HOk P w H s₁.heap := fun b u z => by
    rcases two b u z with ⟨rfl, rfl⟩ | ⟨h, rfl⟩
    · exact ⟨ha, by rw [List.length_map]; exact hl, vs, _, rv, by rw [ha, ← hO]⟩
    · exact tabT b h
  have hM : Mod K mg (hidT s₁.heap H) := ⟨hKb, nsK hns, ⟨mb, nsK hb, hbb⟩, let ⟨mc, h1, h2⟩ := hlim; ⟨mc, nsK h1, h2⟩⟩
  have TB : ∀ p ∈ tf, LamX.TabB (hidT s₁.heap H) mg (He.cT K p.1).1 (tabA K p) := fun p hp => by
    have eT := tk.empty p hp
    refine ⟨?_, ?_, fun z => ?_⟩
    · obtain ⟨o, us, file, tx, flags, tg, inF, text, tt, e1, r1, r2, r3, rest⟩ := CH p hp
      refine ⟨o, us, file, tx, flags, tg, inF, text, tt, hidT_get e1 (free e1 (fun n xs z => by rw [r2] at z; cases z) fun z => ?_), r1, r2, r3, rest⟩
      rw [r2] at z
      cases z
      simp at r3
    · obtain ⟨bm, om, b1, b2, b3, b4, b5, b6⟩ := hbm
      refine ⟨bm, om, b1, b2, fun q => ?_, fun q => ?_, hidT_get b3 (free b3 (fun n xs z => by rw [b6] at z; cases z) fun z => by rw [b6] at z; cases z), b4, b5, b6⟩
      · obtain ⟨o, es, ep, e, hd, _⟩ := hns
        rw [q, e] at b3
        cases b3
        rw [hd] at b6
        cases b6
      · rw [q, eT] at b3
        cases b3
        cases b6
    · obtain ⟨o, es, ep, e, hd, _⟩ := hns
      rw [z, eT] at e
      cases e
      cases hd
  have e0 : Env0 P w K mg (hidT s₁.heap H) callerA [] s₁ H := ⟨rfl, hM, fun b o e => of_hidT e, Nat.le_of_eq (hidT_size _ _), trivial, fun b hb => absurd (show b ∈ ([] : List Addr) from hb) (by simp), hok, .of_eq hg⟩
  have rs : ∀ (l : List Int), Reps Cs (Zf (fun _ => False) (tabM K tf)) H (l.map V.int) (l.map D.int) := fun l => by
    induction l with
    | nil => exact .nil
    | cons i l ih => exact .cons (.int i) ih
  have mem : MemAt Cs (fun _ => False) (tabM K tf) H := ⟨fun b n e => by
    obtain ⟨p, hp, rfl, rfl⟩ := tabM_some e
    exact ⟨#[], Ht (List.mem_map.mpr ⟨p, hp, rfl⟩), trivial, fun pos cv hc => by simp [codeAmong] at hc⟩, fun _ z => z.elim, hgh _ _ _⟩
  refine codeAny_mono (F _ TB callerA [] s₁ H [.ref a] [.ref a] (fun v _ => v = .bl true) E0 hr e0 (.cons rfl .nil) ⟨fun _ => False, _, _, _, mem, .cons (.lst (fun z => z.elim id fun y => y (tabM_none aT)) (.inr ⟨ob, Ha⟩) (rs ns)) .nil, hsp, fun v d H' M' _ _ r e => by subst e; cases r; rfl⟩) fun r s' h => ?_
  cases r with
  | error e => exact h.elim
  | ok fl =>
    cases fl with
    | next => exact False.elim h
    | brk => exact False.elim h
    | cont => exact False.elim h
    | ret u =>
      obtain ⟨v, H', os, bare, un, hok', r', q⟩ := h
      have q' : v = .bl true := q
      subst q'
      obtain rfl : u = Value.bool true := r'
      have stays : ∀ b o, b ∉ tf.map (tabA K) → s₁.heap.get? b = some o → s'.heap.get? b = some o := fun b o hb e => by
        by_cases h1 : b = a
        · subst h1
          obtain ⟨e2, _⟩ := hok' b _ (un.frzs b ob _ Ha)
          rw [ha] at e; cases e
          exact e2
        · exact un.keep b o e (Hn h1 hb) (by intro z; exact absurd (show b ∈ ([] : List Addr) from z) (by simp)) (by simp)
      have grows : ∀ b, b ∈ tf.map (tabA K) → ∃ more : Array Value, s'.heap.get? b = some { cls := .none, data := .fields more } := fun b hb => by
        obtain ⟨more, z⟩ := un.tbls b #[] (Ht hb)
        exact ⟨_, hok' b _ z⟩
      refine ⟨rfl, ⟨fun b o e => ?_, fun b o e => ?_⟩, os, bare⟩
      · by_cases hb : b ∈ tf.map (tabA K)
        · obtain ⟨more, hm⟩ := grows b hb
          obtain ⟨p, hp, rfl⟩ := inT b hb
          rw [tk.empty p hp] at e
          cases e
          exact .inr (.inl ⟨((CH p hp).tab (tk.empty p hp)).isCodeTable, rfl, #[], more, rfl, by rw [Array.empty_append]; exact hm⟩)
        · exact .inl (stays b o hb e)
      · by_cases hb : b ∈ tf.map (tabA K)
        · obtain ⟨more, hm⟩ := grows b hb
          exact ⟨_, hm⟩
        · exact ⟨o, stays b o hb e⟩
theorem walk_T {l : PySem.W.OpenLaw} {n k : Nat} {q : Program} {loose : List Str} {XP : (Str → Option Value) → Heap → Prop} {fas : List Fc} {fxs : List Fx} {fns fss : List He5.DefA} {dcs : List Dci} {tf : Tf} {d : DefRec} {S : PySem.W.Frag → FS} {Cs : PySem.W.Frag → World → Gc}
    (hn : l.most = some n) (hn2 : n ≤ sizeLine) (hdf : d.params.defaults = []) (hname : d.name = ("law" : Str)) (hr : Rm k callerA)
    (F : ∀ (w : World) (K : PySem.W.Frag) (mg : Str → Option Value) (h base : Heap), K.In h → h.Ns mainGlobals mg → SaysM fas fxs fns fss dcs K w → (∀ p ∈ tf, LamX.TabB base mg (He.cT K p.1).1 (tabA K p)) → FnG l.prog w K mg base CX0 k (He.ga K "law") (spD (Cs K w) (S K)))
    (hsp : ∀ (K : PySem.W.Frag) (ns : List Int), ns.length ≤ n → (∀ p ∈ tf, tabM K tf (tabA K p) = some (.tab p.2)) → S K [.lst (ns.map D.int)] (tabM K tf) fun d _ => d = .bl true) (hgh : ∀ K w F M H, (Cs K w).gh F M H) :
    PySem.W.WalkO q loose XP (fun w h => ∃ K : PySem.W.Frag, K.In h ∧ SaysT fas fxs fns fss dcs tf K w h) l.row.toRowW d [] (fun f vs => PySem.call f vs) := by
  refine Att.attach_call hn hdf fun w s₀ s₁ mg mb fa o pm cd doc a vs ns G Y ho hd hcd hmg hobj hints hlen hg => ?_
  obtain ⟨K, KX, c, tk⟩ := Y
  obtain ⟨c1, c3, _⟩ := c.x.says.1.says
  have e := (Fc.glo_ok KX G.T.g c3).1
  rw [hname] at hmg
  rw [hmg] at e
  obtain rfl : fa = He.ga K "law" := by cases e; rfl
  exact law_DT KX c1 G.T.g G.T.b G.T.builtins G.T.nolimit hg tk G.T.bmain hobj hints (Nat.le_trans hlen hn2) hr (fun base TB => F w K mg _ base KX G.T.g c TB) (hsp K ns hlen fun p hp => tabM_at tk.nd hp) (hgh K w)
/-! ### a def, its code object told -/
theorem fn_gL {CX : CXT} {P : Program} {w : World} {K : PySem.W.Frag} {mg : Str → Option Value} {base : Heap} {k : Nat} {dn : He.Defn} {fd : FuncData} {name qual : Str} {params : Arguments} {body : List Stmt} {scope : Scope} {dvs dws : List V} {kws : List (Str × V)} {ds : List Value}
    {N ps : List Str} {sp : Sp} (F : FunD K name qual params body scope dvs kws (He.fAd K dn) fd) (S : FnScope N ps scope) (hb : Binds K fd ps ds) (hd : Vals dws ds)
    (len : ∀ vs H Q E, sp (vs ++ dws) H Q E → (vs ++ dws).length = ps.length)
    (hbody : ∀ (cdv : Value) (A : Around) (outer : List PySem.Env) (s : Shared) (H : Hp) (vs : List V) (Q : VK) (E : XK), cdv = .ref (He.codeOf K dn) → Rm k (A.deeper (envOfC qual scope s.heap.objs.size (He.fAd K dn) cdv)) → sp vs H Q E →
      ∃ t, PSs (cxOf CX P w K mg base N qual scope (He.fAd K dn) cdv A outer s H E) body t ∧ t { nx := fun _ H' => Q .non H', rt := Q } (start N vs) H) :
    FnG P w K mg base CX (k + 1) (He.fAd K dn) (fun vs H Q E => sp (vs ++ dws) H Q E) := by
  obtain ⟨oc, od, dV, kV, doc, pm, an, cdv, ct, osl, rfl, lk, hcd, _, _⟩ := F.ex
  obtain ⟨c, rfl⟩ := He.codeIn_ref hcd
  have ec : He.codeOf K dn = c := He.codeOf_eq lk rfl
  intro A outer s H us0 vs0 Q E hr e0 r0 hsp
  have hl := len _ _ _ _ hsp
  have r : Vals (vs0 ++ dws) (us0 ++ ds) := r0.append hd
  have KX : K.In s.heap := e0.mod.kin.keeps fun b o e => (e0.bs b o e).1
  have hb' := hb s us0 KX (by rw [← r.length]; exact hl)
  have go := LamX.run_ofS (CX := CX) (base := base) (outer := outer) (H := H) (Q := Q) (E := E) (args := ⟨us0, []⟩) (us := us0 ++ ds) (vs := vs0 ++ dws) (k := k) lk hcd S hr.rm e0 hb' r hl fun hr' => hbody _ A outer s H _ Q E (by rw [ec]) (hr.deeper _) hsp
  exact go
/-- the same, told of data -/
theorem fn_DL {Cs : Gc} {P : Program} {w : World} {K : PySem.W.Frag} {mg : Str → Option Value} {base : Heap} {k : Nat} {dn : He.Defn} {fd : FuncData} {name qual : Str} {params : Arguments} {body : List Stmt} {scope : Scope} {dvs dws : List V} {kws : List (Str × V)} {ds : List Value}
    {N ps : List Str} {S : FS} (dds : List D) (Fd : FunD K name qual params body scope dvs kws (He.fAd K dn) fd) (Sc : FnScope N ps scope) (hb : Binds K fd ps ds) (hd : Vals dws ds)
    (hdd : ∀ (Z : Addr → Prop) (H : Hp), Reps Cs Z H dws dds) (len : ∀ ds M Φ, S ds M Φ → (ds ++ dds).length = ps.length)
    (hbody : ∀ (cdv : Value) (A : Around) (outer : List PySem.Env) (s : Shared) (H : Hp) (as : List D) (M : Mem) (Φ : D → Mem → Prop), cdv = .ref (He.codeOf K dn) → Rm k (cxOf CX0 P w K mg base N qual scope (He.fAd K dn) cdv A outer s H E0).nox.A → S as M Φ →
      WSs Cs (cxOf CX0 P w K mg base N qual scope (He.fAd K dn) cdv A outer s H E0).nox body (startE N (as ++ dds)) M { nx := fun _ M' => Φ .non M', rt := Φ }) :
    FnG P w K mg base CX0 (k + 1) (He.fAd K dn) (spD Cs S) := by
  have G : FnG P w K mg base CX0 (k + 1) (He.fAd K dn) (fun vs H Q E => (fun vs H Q E => ∃ ws, vs = ws ++ dws ∧ spD Cs S ws H Q E) (vs ++ dws) H Q E) := by
    refine fn_gL (sp := fun vs H Q E => ∃ ws, vs = ws ++ dws ∧ spD Cs S ws H Q E) Fd Sc hb hd (fun vs H Q E h => ?_) fun cdv A outer s H vs Q E ec hr h => ?_
    · obtain ⟨ws, e, F, as, M, Φ, m, r, hs, q⟩ := h
      have l := len as M Φ hs
      rw [e, List.length_append, r.length, (hdd (Zf F M) H).length, ← List.length_append]
      exact l
    · obtain ⟨ws, rfl, F, as, M, Φ, m, r, hs, q⟩ := h
      refine ⟨semSs (cxOf CX0 P w K mg base N qual scope (He.fAd K dn) cdv A outer s H E).nox body, PSs.nox pss_sem, ?_⟩
      have hW := hbody cdv A outer s H as M Φ ec hr hs
      exact fun pins s1 I => hW.run F (L2.start N (ws ++ dws)) H (at_start m (r.append (hdd _ _))) _ ⟨fun σ' ρ' H' M' p A' h => q _ _ H' M' p A'.mem .non h, q, fun _ _ _ _ _ _ h => h.elim, fun _ _ _ _ _ _ h => h.elim⟩ pins s1 I
  exact G.imp fun vs H Q E h => ⟨vs, rfl, h⟩
end DL
/-! ### errors asked: isinstance, value; where lambdas stand -/
namespace DL
open PySem PySem.Spec PyProof.Rows L2
section
variable {Cs : Gc} {X : Cx} {eB : Nat → Bool} {a b : Expr} {pos p : Pos} {wa : TwE}
def pIsiErr (eB : Nat → Bool) (m r : Nat) : TwU := fun x M Φ => match x with
  | .exc n _ => eB n = true ∧ Φ (.bl (Nat.beq n m || Nat.beq m r)) M
  | .non => Φ (.bl false) M
  | _ => False
theorem se_isiErr (m r : Nat) (hE : ∀ n, eB n = true → ExcC X.K (Cs n) ∧ PySem.W.kitOne X.K (.ref (Cs n)) (.ref (Cs m)) = some (Nat.beq n m || Nat.beq m r)) (hN : PySem.W.kitOne X.K (.type "NoneType") (.ref (Cs m)) = some false) (hg : Gl X "isinstance") (hm : X.mg "isinstance" = none)
    (ha : SE Cs X a wa) (hb : SE Cs X b (wPure (.ref (Cs m))))
    (he : starEach (a :: [b]) X.env = (false, eval a X.env) :: starEach [b] X.env := by rfl) (he2 : starEach (b :: []) X.env = (false, eval b X.env) :: starEach [] X.env := by rfl) (hpl : (backTo pos (starEach [b] X.env)).any (·.1) = false := by rfl) : SE Cs X (.Call (.Name "isinstance" p) [a, b] [] pos) (wUn wa (pIsiErr eB m r)) :=
  ⟨fun {ρ M Φ} h => we_callB hg hm bb_isinstance (wa_cons ((ha.run h).mono fun x M1 z => wa_cons ((hb.run (Φ := fun y M2 => y = .ref (Cs m) ∧ M2 = M1) ⟨rfl, rfl⟩).mono fun y M2 q => by
    obtain ⟨rfl, rfl⟩ := q
    refine wa_nil ?_
    unfold pIsiErr at z
    split at z
    · exact wc_isiE (.inr ⟨_, rfl, rfl⟩) (hE _ z.1).1 (hE _ z.1).2 z.2
    · exact wc_isiC rfl hN z
    · exact z.elim) he2) he) (by decide) (by decide) he hpl⟩
def pVal (eB : Nat → Bool) : TwU := fun x M Φ => match x with
  | .exc n d => eB n = true ∧ Φ d M
  | _ => False
theorem sat_val {B gi : Addr} (hE : ∀ n, eB n = true → ErrC X.K (Cs n) B gi) : SAt Cs X "value" (pVal eB) := ⟨fun {x M Φ} z => by
  unfold pVal at z
  split at z
  · exact wat_exc (hE _ z.1) z.2
  · exact z.elim⟩
end
/-! the parts of code, to say where a lambda stands -/
def expE : Stmt → Expr
  | .Assign _ e _ => e
  | .Expr e _ => e
  | .Return (some e) _ => e
  | .If c _ _ _ => c
  | .For _ e _ _ _ => e
  | _ => .Constant .none 0 ⟨0, 0, 0, 0⟩
def kidE : Expr → List Expr
  | .List es _ => es
  | .Tuple es _ _ => es
  | .Call f es _ _ => f :: es
  | .Attribute e _ _ => [e]
  | .Subscript a b _ => [a, b]
  | .UnaryOp _ e _ => [e]
  | .BinOp a _ b _ => [a, b]
  | .BoolOp _ es _ => es
  | .Compare a _ es _ => a :: es
  | .IfExp a b c _ => [a, b, c]
  | _ => []
def goE : List Nat → Expr → Expr
  | [], e => e
  | i :: p, e => goE p ((kidE e).getD i (.Constant .none 0 ⟨0, 0, 0, 0⟩))
def sufS : Stmt → Bool → List Stmt
  | .If _ a b _, t => match t with
    | true => b
    | false => a
  | .For _ _ a b _, t => match t with
    | true => b
    | false => a
  | .While _ a b _, t => match t with
    | true => b
    | false => a
  | _, _ => []
def goS : List (Nat × Bool) → List Stmt → List Stmt
  | [], l => l
  | (i, t) :: p, l => goS p (sufS (l.getD i (.Pass ⟨0, 0, 0, 0⟩)) t)
def lamP (body : List Stmt) (sp : List (Nat × Bool)) (i : Nat) (ep : List Nat) : LamP := match goE ep (expE ((goS sp body).getD i (.Pass ⟨0, 0, 0, 0⟩))) with
  | .Lambda a b s _ => (a, b, s)
  | _ => lam0
end DL
/-! ### an instance times anything, and anything times an instance, by defs that may raise -/
namespace DL
open PySem PySem.Spec PyProof.Rows L2
section
variable {X : Cx} {pins : List (Addr × Obj)} {σ : L2.St} {H : Hp} {s : Shared} {Q : VK} {CX : CXT} {E : XK} {C g : Addr} {k : Nat} {sp : Sp}
theorem kit_sub {K : PySem.W.Frag} {T : String} (h : PySem.W.kitOne K (.ref C) (.type T) = some false) : PySem.W.mroIn K C (.type T) = some false := by
  unfold PySem.W.kitOne at h
  split at h
  · cases h
  · unfold PySem.W.kitCls at h
    dsimp only at h
    split at h
    · exact h
    · cases h
theorem mulV_g {a dx gr : Addr} {vs : List (Option V)} {y : V} {u : Value} {T : String} {fo ro : Option Value} (hsf : PySem.W.selfFirst X.K C = true) (hs : PySem.W.findIn X.K (.ref C) "__mul__" = some (some (.ref g))) (hf : PySem.W.isFn X.K (.ref g) = true) (hr' : PySem.W.findIn X.K (.ref C) "__rmul__" = some (some (.ref gr)))
    (h1 : PySem.W.findIn X.K (.type T) "__mul__" = some fo) (h2 : PySem.W.findIn X.K (.type T) "__rmul__" = some ro) (hsub : PySem.W.subIn X.K (.type T) (.ref C) = some false)
    (F : FnG X.prog X.w X.K X.mg X.base CX k g sp) (hr : Rm k X.A) (hx : Passes CX X E) (I : Inv X pins σ H s) (ha : SlX.Slt H a C dx vs) (ty : PySem.W.Looks (model X.prog X.w) s.heap (typeOf u) (.type T)) (ru : RelV y u) (q : sp [.ref a, y] H Q E) :
    wpAny (model X.prog X.w) X.A (binaryOp .Mult (.ref a) u) (EP X pins σ Q) X.xe s := by
  obtain ⟨sl, od, _, J, _⟩ := SlX.slt_inst I ha
  obtain ⟨cd, rest, hcd, hm⟩ := PySem.W.ksp_first hsf
  have one : wpAny (model X.prog X.w) X.A (tryMethod (.ref a) "__mul__" u) (fun r s' => ∃ v, r = some v ∧ EP X pins σ Q v s') X.xe s := by
    refine PySem.W.ksp_try I.kIn J hs hf (wpAny_mono (wpAny_call (run_g (us := [.ref a, u]) (vs := [.ref a, y]) F hr hx I (.cons rfl (.cons ru .nil)) q)) (fun w s' z => ?_) fun _ _ x => x)
    obtain ⟨z', H', I', rz, qz⟩ := z
    exact SlX.cmpback rz ⟨z', H', I', rz, qz⟩
  have L1 : PySem.W.Looks (model X.prog X.w) s.heap (typeOf (.ref a)) (.ref C) := J.type
  have L3 : PySem.W.Looks (model X.prog X.w) s.heap (fillsNumberSlot (.ref C) "mul") true := PySem.W.fills_K I.kIn hcd hm hs
  have L4 : PySem.W.Looks (model X.prog X.w) s.heap (fillsNumberSlot (.type T) "mul") ((fo.isSome && !isSeqSlot fo) || (ro.isSome && !isSeqSlot ro)) := PySem.W.ksp_fillsT I.kIn h1 h2
  have L5 : PySem.W.Looks (model X.prog X.w) s.heap (isSubtype (.type T) (.ref C)) false := PySem.W.looks_subIn I.kIn hsub
  have L6 : PySem.W.Looks (model X.prog X.w) s.heap (numberSlotInPython (.ref C) "mul") true := PySem.W.ksp_inPy I.kIn hs hr' (.inr ⟨gr, rfl⟩)
  have L8 : PySem.W.Looks (model X.prog X.w) s.heap (typeLookup (.type T) (dunderR "mul")) ro := PySem.W.looks_findIn I.kIn h2
  generalize ((fo.isSome && !isSeqSlot fo) || (ro.isSome && !isSeqSlot ro)) = right at L4
  show wpAny _ _ (binaryOp .Mult (.ref a) u) _ _ _
  have hi : (Operator.Mult).info = ("*", "mul") := rfl
  simp only [binaryOp, hi]
  refine wpAny_holding (wpAny_bind ?_)
  unfold binaryOp1
  refine wpAny_bind (L1.here (wpAny_bind (ty.here (wpAny_bind (L3.here ?_)))))
  have hne : (Value.ref C == Value.type T) = false := Bool.eq_false_iff.mpr fun q => by cases beq_iff_eq.mp q
  simp only [hne, Bool.false_eq_true, if_false]
  refine wpAny_bind (L4.here ?_)
  have hpy : numberSlotInPython (.type T) "mul" = pure false := rfl
  cases right with
  | false =>
    simp only [Bool.and_false, Bool.false_and, Bool.false_eq_true, if_false, if_true, pure_bind]
    refine wpAny_bind (wpAny_mono one (fun r s' z => ?_) fun _ _ z => z)
    obtain ⟨v, rfl, hq⟩ := z
    exact wpAny_pure (wpAny_pure hq)
  | true =>
    simp only [Bool.and_self, if_true]
    refine wpAny_bind (L5.here ?_)
    simp only [Bool.false_eq_true, if_false, pure_bind, Bool.not_false, Bool.and_self, if_true, hpy]
    refine wpAny_bind (L6.here ?_)
    simp only [if_true, if_false, Bool.not_false, Bool.false_eq_true]
    refine wpAny_bind (L8.here ?_)
    refine wpAny_bind (wpAny_mono one (fun r s' z => ?_) fun _ _ z => z)
    obtain ⟨v, rfl, hq⟩ := z
    exact wpAny_pure (wpAny_pure hq)
theorem bool_declines {M : Model} {A : Around} {Er : Value → Shared → Prop} {a : Addr} {b : Bool} {ox : Obj} {R : Fin → Shared → Prop} (h : s.heap.get? a = some ox) (hd : ox.data = .plain) (q : R (.done (.ret .notImplemented)) s) :
    wpAny M A (Builtin.«int.__mul__» ⟨[.bool b, .ref a], []⟩) R Er s := by
  obtain ⟨hp, gg, d, tk, os⟩ := s
  unfold Builtin.«int.__mul__»
  repeat (first | with_reducible refine wpAny_load h ?_ | (with_reducible refine wpAny_loadPart_at h ?_) | wp_step)
  rw [hd]
  refine wpAny_pure ?_
  repeat (first | exact q | exact wpAny_pure q | wp_step)
/-- anything times an instance: what stands on the left has no say, or declines -/
theorem rmulV_g {a dx g0 : Addr} {vs : List (Option V)} {y : V} {u : Value} {T : String} {fo ro : Option Value} (hsf : PySem.W.selfFirst X.K C = true) (hs : PySem.W.findIn X.K (.ref C) "__mul__" = some (some (.ref g0))) (hrs : PySem.W.findIn X.K (.ref C) "__rmul__" = some (some (.ref g))) (hf : PySem.W.isFn X.K (.ref g) = true)
    (h1 : PySem.W.findIn X.K (.type T) "__mul__" = some fo) (h2 : PySem.W.findIn X.K (.type T) "__rmul__" = some ro) (hsub : ((fo.isSome && !isSeqSlot fo) || (ro.isSome && !isSeqSlot ro)) = true → PySem.W.mroIn X.K C (.type T) = some false)
    (F : FnG X.prog X.w X.K X.mg X.base CX k g sp) (hr : Rm k X.A) (hx : Passes CX X E) (I : Inv X pins σ H s) (ha : SlX.Slt H a C dx vs) (ty : PySem.W.Looks (model X.prog X.w) s.heap (typeOf u) (.type T)) (ru : RelV y u) (q : sp [.ref a, y] H Q E)
    (dec : ((fo.isSome && !isSeqSlot fo) || (ro.isSome && !isSeqSlot ro)) = true → ∀ ox, s.heap.get? a = some ox → ox.data = .plain → wpAny (model X.prog X.w) X.A (tryMethod u (PySem.dunder "mul") (.ref a)) (fun r s' => r = none ∧ s' = s) X.xe s) :
    wpAny (model X.prog X.w) X.A (binaryOp .Mult u (.ref a)) (EP X pins σ Q) X.xe s := by
  obtain ⟨sl, od, _, J, _⟩ := SlX.slt_inst I ha
  obtain ⟨cd, rest, hcd, hm⟩ := PySem.W.ksp_first hsf
  have two : wpAny (model X.prog X.w) X.A (tryMethod (.ref a) "__rmul__" u) (fun r s' => ∃ v, r = some v ∧ EP X pins σ Q v s') X.xe s := by
    refine PySem.W.ksp_try I.kIn J hrs hf (wpAny_mono (wpAny_call (run_g (us := [.ref a, u]) (vs := [.ref a, y]) F hr hx I (.cons rfl (.cons ru .nil)) q)) (fun w s' z => ?_) fun _ _ x => x)
    obtain ⟨z', H', I', rz, qz⟩ := z
    exact SlX.cmpback rz ⟨z', H', I', rz, qz⟩
  have L2 : PySem.W.Looks (model X.prog X.w) s.heap (typeOf (.ref a)) (.ref C) := J.type
  have L3 : PySem.W.Looks (model X.prog X.w) s.heap (fillsNumberSlot (.type T) "mul") ((fo.isSome && !isSeqSlot fo) || (ro.isSome && !isSeqSlot ro)) := PySem.W.ksp_fillsT I.kIn h1 h2
  have L4 : PySem.W.Looks (model X.prog X.w) s.heap (fillsNumberSlot (.ref C) "mul") true := PySem.W.fills_K I.kIn hcd hm hs
  have dec' := fun z => dec z _ J.at_ rfl
  clear dec
  generalize ((fo.isSome && !isSeqSlot fo) || (ro.isSome && !isSeqSlot ro)) = left at L3 dec' hsub
  show wpAny _ _ (binaryOp .Mult u (.ref a)) _ _ _
  have hi : (Operator.Mult).info = ("*", "mul") := rfl
  simp only [binaryOp, hi]
  refine wpAny_holding (wpAny_bind ?_)
  unfold binaryOp1
  refine wpAny_bind (ty.here (wpAny_bind (L2.here (wpAny_bind (L3.here ?_)))))
  have hne : (Value.type T == Value.ref C) = false := Bool.eq_false_iff.mpr fun q => by cases beq_iff_eq.mp q
  simp only [hne, Bool.false_eq_true, if_false]
  refine wpAny_bind (L4.here ?_)
  have hpy : numberSlotInPython (.type T) "mul" = pure false := rfl
  cases left with
  | false =>
    simp only [Bool.and_false, Bool.false_and, Bool.and_true, Bool.not_false, Bool.false_eq_true, if_false, if_true, pure_bind]
    refine wpAny_bind (wpAny_mono two (fun r s' z => ?_) fun _ _ z => z)
    obtain ⟨v, rfl, hq⟩ := z
    exact wpAny_bind (wpAny_rule (wpAny_pure (wpAny_pure hq)))
  | true =>
    have L5 : PySem.W.Looks (model X.prog X.w) s.heap (isSubtype (.ref C) (.type T)) false := PySem.W.looks_mroIn I.kIn (hsub rfl)
    simp only [Bool.and_self, if_true]
    refine wpAny_bind (L5.here ?_)
    simp only [Bool.false_eq_true, if_false, pure_bind, Bool.not_false, Bool.and_self, if_true, hpy]
    refine wpAny_bind (wpAny_mono (dec' rfl) (fun r s' z => ?_) fun _ _ z => z)
    obtain ⟨rfl, rfl⟩ := z
    refine wpAny_bind (wpAny_mono two (fun r s' z => ?_) fun _ _ z => z)
    obtain ⟨v, rfl, hq⟩ := z
    exact wpAny_bind (wpAny_rule (wpAny_pure (wpAny_pure hq)))
theorem int_dec {P : Program} {w : World} {a : Addr} {i : Int} {t : Tok} {ox : Obj} {A : Around} {Er : Value → Shared → Prop} (h : s.heap.get? a = some ox) (hd : ox.data = .plain) : wpAny (model P w) A (tryMethod (.int i t) (PySem.dunder "mul") (.ref a)) (fun r s' => r = none ∧ s' = s) Er s := by
  have T := typeIs_int s i t
  have S := PySem.F.slot_int_mul
  have En := PySem.F.entry_int_mul
  have Ar := PySem.F.args_int_mul_2 (.int i t) (.ref a)
  with_reducible refine wpAny_tryMethod_declines T S ?_
  with_reducible refine wpAny_call_entry S T En ?_ Ar
  exact int_declines h hd ⟨_, rfl, rfl, rfl, rfl⟩
theorem bool_dec {P : Program} {w : World} {a : Addr} {b : Bool} {ox : Obj} {A : Around} {Er : Value → Shared → Prop} (h : s.heap.get? a = some ox) (hd : ox.data = .plain) : wpAny (model P w) A (tryMethod (.bool b) (PySem.dunder "mul") (.ref a)) (fun r s' => r = none ∧ s' = s) Er s := by
  have T := PySem.typeIs_bool s b
  have S := PySem.F.slot_bool_mul
  have En := PySem.F.entry_int_mul
  have Ar := PySem.F.args_int_mul_2 (.bool b) (.ref a)
  with_reducible refine wpAny_tryMethod_declines T S ?_
  with_reducible refine wpAny_call_entry S T En ?_ Ar
  exact bool_declines h hd ⟨_, rfl, rfl, rfl, rfl⟩
end
/-- what a kind's types say to `*` -/
def mulFo : Tn → Option Value × Option Value
  | .non => (none, none)
  | .bl => (some (.builtin "int.__mul__"), some (.builtin "int.__rmul__"))
  | .int => (some (.builtin "int.__mul__"), some (.builtin "int.__rmul__"))
  | .str => (some (.builtin "str.__mul__"), some (.builtin "str.__rmul__"))
  | .tup => (some (.builtin "tuple.__mul__"), some (.builtin "tuple.__rmul__"))
  | .lst => (some (.builtin "list.__mul__"), some (.builtin "list.__rmul__"))
  | .dct => (none, none)
theorem mulFo_1 (K : PySem.W.Frag) (t : Tn) : PySem.W.findIn K (.type t.nm) "__mul__" = some (mulFo t).1 := by cases t <;> kernel_rfl
theorem mulFo_2 (K : PySem.W.Frag) (t : Tn) : PySem.W.findIn K (.type t.nm) "__rmul__" = some (mulFo t).2 := by cases t <;> kernel_rfl
theorem mulFo_3 (t : Tn) : (match t with | .int => false | .bl => false | _ => true) = true → (((mulFo t).1.isSome && !isSeqSlot (mulFo t).1) || ((mulFo t).2.isSome && !isSeqSlot (mulFo t).2)) = false := by
  intro h
  cases t <;> first | exact absurd h (by decide) | rfl | decide +kernel
theorem tn_sub (K : PySem.W.Frag) (C : Addr) (t : Tn) : PySem.W.subIn K (.type t.nm) (.ref C) = some false := by
  cases t with
  | non => show (fastBuiltinMro "NoneType").map (·.contains (Value.ref C)) = some false; rw [show fastBuiltinMro "NoneType" = some [.type "NoneType", .type "object"] from by kernel_rfl]; simp
  | bl => show (fastBuiltinMro "bool").map (·.contains (Value.ref C)) = some false; rw [show fastBuiltinMro "bool" = some [.type "bool", .type "int", .type "object"] from by kernel_rfl]; simp
  | int => show (fastBuiltinMro "int").map (·.contains (Value.ref C)) = some false; rw [show fastBuiltinMro "int" = some [.type "int", .type "object"] from by kernel_rfl]; simp
  | str => show (fastBuiltinMro "str").map (·.contains (Value.ref C)) = some false; rw [show fastBuiltinMro "str" = some [.type "str", .type "object"] from by kernel_rfl]; simp
  | tup => show (fastBuiltinMro "tuple").map (·.contains (Value.ref C)) = some false; rw [show fastBuiltinMro "tuple" = some [.type "tuple", .type "object"] from by kernel_rfl]; simp
  | lst => show (fastBuiltinMro "list").map (·.contains (Value.ref C)) = some false; rw [show fastBuiltinMro "list" = some [.type "list", .type "object"] from by kernel_rfl]; simp
  | dct => show (fastBuiltinMro "dict").map (·.contains (Value.ref C)) = some false; rw [show fastBuiltinMro "dict" = some [.type "dict", .type "object"] from by kernel_rfl]; simp
section
variable {C : Gc} {X : Cx} {Ξ : KX} {E : XK} {k k' n : Nat}
theorem tn_noO {d : D} {t : Tn} (h : d.tn = some t) : d.noO = true := by
  cases d <;> simp [D.tn] at h <;> rfl
/-- `*` of ints, of an instance and anything, of anything and an instance -/
def pMulX (Ξ : KX) (n : Nat) (S Sr : FX) : TwO := fun x y M Φ => match x with
  | .obj c _ => Nat.beq c n = true ∧ match y with
    | .obj d _ => Nat.beq d n = true ∧ S [x, y] M Φ Ξ
    | _ => y.tn.isSome = true ∧ S [x, y] M Φ Ξ
  | .int i => match y with
    | .int j => CMulW i j ∧ Φ (.int (i * j)) M
    | .obj d _ => Nat.beq d n = true ∧ Sr [y, x] M Φ Ξ
    | _ => False
  | _ => match y with
    | .obj d _ => Nat.beq d n = true ∧ x.tn.isSome = true ∧ Sr [y, x] M Φ Ξ
    | _ => False
theorem wo_mulX {g gr : Addr} {S : FX} {ds : List D} {y : D} {M : Mem} {Φ : Kd} (tk : Tk X E) (hsf : PySem.W.selfFirst X.K (C n) = true) (hs : PySem.W.findIn X.K (.ref (C n)) "__mul__" = some (some (.ref g))) (hf : PySem.W.isFn X.K (.ref g) = true) (hr' : PySem.W.findIn X.K (.ref (C n)) "__rmul__" = some (some (.ref gr)))
    (Fn : FnX C X k g S) (hr : Rm k X.A) (hy : y.tn.isSome = true) (h : S [.obj n ds, y] M Φ Ξ) : WO (C.may Ξ E) X (binaryOp .Mult) (.obj n ds) y M Φ := .mk fun F H vx vy m rx ry Q kk pins s σ v u I rv ru => by
  obtain ⟨t, ht⟩ := Option.isSome_iff_exists.mp hy
  have ty := rep_typ I ry (tn_noO ht) ru
  rw [tyD_tn ht] at ty
  obtain ⟨q, dx, ws, rfl, hsl, _⟩ := rep_slt rx
  cases rv
  exact mulV_g (E := E) hsf hs hf hr' (mulFo_1 _ t) (mulFo_2 _ t) (tn_sub _ _ t) Fn hr (passes_call tk fun _ _ _ _ h => h) I hsl ty ru (spX_of .refl m (.cons rx (.cons ry .nil)) h kk)
theorem wo_rmulX {g g0 : Addr} {S : FX} {ds : List D} {x : D} {M : Mem} {Φ : Kd} (tk : Tk X E) (hsf : PySem.W.selfFirst X.K (C n) = true) (hs : PySem.W.findIn X.K (.ref (C n)) "__mul__" = some (some (.ref g0))) (hrs : PySem.W.findIn X.K (.ref (C n)) "__rmul__" = some (some (.ref g))) (hf : PySem.W.isFn X.K (.ref g) = true)
    (hsi : PySem.W.kitOne X.K (.ref (C n)) (.type "int") = some false) (hsb : PySem.W.kitOne X.K (.ref (C n)) (.type "bool") = some false) (Fn : FnX C X k g S) (hr : Rm k X.A) (hx : x.tn.isSome = true) (h : S [.obj n ds, x] M Φ Ξ) : WO (C.may Ξ E) X (binaryOp .Mult) x (.obj n ds) M Φ := .mk fun F H vx vy m rx ry Q kk pins s σ v u I rv ru => by
  obtain ⟨t, ht⟩ := Option.isSome_iff_exists.mp hx
  have ty := rep_typ I rx (tn_noO ht) rv
  rw [tyD_tn ht] at ty
  obtain ⟨q, dx, ws, rfl, hsl, _⟩ := rep_slt ry
  cases ru
  refine rmulV_g (E := E) hsf hs hrs hf (mulFo_1 _ t) (mulFo_2 _ t) (fun z => ?_) Fn hr (passes_call tk fun _ _ _ _ h => h) I hsl ty rv (spX_of .refl m (.cons ry (.cons rx .nil)) h kk) fun z ox ho hd => ?_
  · cases t
    case int => exact kit_sub hsi
    case bl => exact kit_sub hsb
    all_goals (rw [mulFo_3 _ rfl] at z; cases z)
  cases x <;> simp [D.tn] at ht <;> subst ht
  case int i => cases rx; obtain ⟨t, rfl⟩ := rv; exact int_dec ho hd
  case bl b => cases rx; cases rv; exact bool_dec ho hd
  all_goals (rw [mulFo_3 _ rfl] at z; cases z)
theorem so_mulX {g gr : Addr} {S Sr : FX} (tk : Tk X E) (hsf : PySem.W.selfFirst X.K (C n) = true) (hs : PySem.W.findIn X.K (.ref (C n)) "__mul__" = some (some (.ref g))) (hf : PySem.W.isFn X.K (.ref g) = true) (hrs : PySem.W.findIn X.K (.ref (C n)) "__rmul__" = some (some (.ref gr))) (hfr : PySem.W.isFn X.K (.ref gr) = true)
    (hsi : PySem.W.kitOne X.K (.ref (C n)) (.type "int") = some false) (hsb : PySem.W.kitOne X.K (.ref (C n)) (.type "bool") = some false) (Fn : FnX C X k g S) (hr : Rm k X.A) (Fr : FnX C X k' gr Sr) (hrr : Rm k' X.A) : SO (C.may Ξ E) X (binaryOp .Mult) (pMulX Ξ n S Sr) :=
  ⟨fun {x y M Φ} h => by
    unfold pMulX at h
    split at h
    · obtain ⟨e1, h⟩ := h
      have := beq_c e1; subst this
      split at h
      · obtain ⟨e2, h⟩ := h
        have := beq_c e2; subst this
        exact (so_ownX (op := .Mult) tk hsf hs hf Fn hr).run (by unfold pOwnX; simp only [e1]; exact h)
      · exact wo_mulX tk hsf hs hf hrs Fn hr h.1 h.2
    · split at h
      · exact wo_mul h.1 h.2
      · obtain ⟨e2, h⟩ := h
        have := beq_c e2; subst this
        exact wo_rmulX tk hsf hs hrs hfr hsi hsb Fr hrr rfl h
      · exact h.elim
    · split at h
      · obtain ⟨e2, e3, h⟩ := h
        have := beq_c e2; subst this
        exact wo_rmulX tk hsf hs hrs hfr hsi hsb Fr hrr e3 h
      · exact h.elim⟩
end
section
variable {Cs : Gc} {X : Cx} {k k' n : Nat}
/-- `*` of an instance and an int, and the other way about, by defs that raise nothing -/
def pMulN (n : Nat) (S Sr : FS) : TwO := fun x y M Φ => match x with
  | .obj c _ => match y with
    | .int _ => Nat.beq c n = true ∧ S [x, y] M Φ
    | _ => False
  | .int i => match y with
    | .int j => CMulW i j ∧ Φ (.int (i * j)) M
    | .obj d _ => Nat.beq d n = true ∧ Sr [y, x] M Φ
    | _ => False
  | _ => False
theorem so_mulN {g gr : Addr} {S Sr : FS} (hsf : PySem.W.selfFirst X.K (Cs n) = true) (hs : PySem.W.findIn X.K (.ref (Cs n)) "__mul__" = some (some (.ref g))) (hf : PySem.W.isFn X.K (.ref g) = true) (hrs : PySem.W.findIn X.K (.ref (Cs n)) "__rmul__" = some (some (.ref gr))) (hfr : PySem.W.isFn X.K (.ref gr) = true)
    (hint : PySem.W.mroIn X.K (Cs n) (.type "int") = some false) (Fn : FnD Cs X k g S) (hr : Rm k X.A) (Fr : FnD Cs X k' gr Sr) (hrr : Rm k' X.A) : SO Cs X (binaryOp .Mult) (pMulN n S Sr) :=
  ⟨fun {x y M Φ} h => by
    unfold pMulN at h
    split at h
    · split at h
      · have := beq_c h.1; subst this
        exact wo_mulT hsf hs hf hrs Fn hr h.2
      · exact h.elim
    · split at h
      · exact wo_mul h.1 h.2
      · have := beq_c h.1; subst this
        exact wo_rmul hsf hs hrs hfr hint Fr hrr h.2
      · exact h.elim
    · exact h.elim⟩
end
section
variable {C : Gc} {X : Cx} {Ξ : KX} {E : XK} {k n : Nat}
def pMulL (n : Nat) (S : FS) : TwO := fun x y M Φ => match x with
  | .obj c _ => match y with
    | .int _ => Nat.beq c n = true ∧ S [x, y] M Φ
    | _ => False
  | _ => False
theorem so_mulL {g gr : Addr} {S : FS} (hsf : PySem.W.selfFirst X.K (C n) = true) (hs : PySem.W.findIn X.K (.ref (C n)) "__mul__" = some (some (.ref g))) (hf : PySem.W.isFn X.K (.ref g) = true) (hrs : PySem.W.findIn X.K (.ref (C n)) "__rmul__" = some (some (.ref gr)))
    (Fn : FnD C X k g S) (hr : Rm k X.A) : SO C X (binaryOp .Mult) (pMulL n S) :=
  ⟨fun {x y M Φ} h => by
    unfold pMulL at h
    split at h
    · split at h
      · have := beq_c h.1; subst this
        exact wo_mulT hsf hs hf hrs Fn hr h.2
      · exact h.elim
    · exact h.elim⟩
def pMulXL (Ξ : KX) (n : Nat) (S : FX) : TwO := fun x y M Φ => match x with
  | .obj c _ => Nat.beq c n = true ∧ match y with
    | .obj d _ => Nat.beq d n = true ∧ S [x, y] M Φ Ξ
    | _ => y.tn.isSome = true ∧ S [x, y] M Φ Ξ
  | _ => False
theorem so_mulXL {g gr : Addr} {S : FX} (tk : Tk X E) (hsf : PySem.W.selfFirst X.K (C n) = true) (hs : PySem.W.findIn X.K (.ref (C n)) "__mul__" = some (some (.ref g))) (hf : PySem.W.isFn X.K (.ref g) = true) (hrs : PySem.W.findIn X.K (.ref (C n)) "__rmul__" = some (some (.ref gr)))
    (Fn : FnX C X k g S) (hr : Rm k X.A) : SO (C.may Ξ E) X (binaryOp .Mult) (pMulXL Ξ n S) :=
  ⟨fun {x y M Φ} h => by
    unfold pMulXL at h
    split at h
    · obtain ⟨e1, h⟩ := h
      have := beq_c e1; subst this
      split at h
      · obtain ⟨e2, h⟩ := h
        have := beq_c e2; subst this
        exact (so_ownX (op := .Mult) tk hsf hs hf Fn hr).run (by unfold pOwnX; simp only [e1]; exact h)
      · exact wo_mulX tk hsf hs hf hrs Fn hr h.1 h.2
    · exact h.elim⟩
end
theorem IsiK.may {C : Gc} {K : PySem.W.Frag} {n : Nat} {Ξ : KX} {E : XK} : ∀ {l : List Nat}, IsiK C K n l → IsiK (C.may Ξ E) K n l
  | [], _ => trivial
  | _ :: _, h => ⟨h.1, IsiK.may h.2⟩
theorem IsiO.may {C : Gc} {K : PySem.W.Frag} {n : Tn} {Ξ : KX} {E : XK} : ∀ {l : List Nat}, IsiO C K n l → IsiO (C.may Ξ E) K n l
  | [], _ => trivial
  | _ :: _, h => ⟨h.1, IsiO.may h.2⟩
end DL
namespace Lw
open PySem PySem.Spec PyProof.Rows L2 DL
local macro_rules | `(tactic| fail "vis") => `(tactic| first | exact Or.inl rfl | exact Or.inr (Or.inl rfl) | exact Or.inr (Or.inr rfl))
local macro_rules | `(tactic| fail "c") => `(tactic| first
  | ((with_reducible refine at_call "abs" ?_); refine we_callB rfl (Tx.f_abs (by assumption)) bb_abs ?_)
  | ((with_reducible refine at_call "len" ?_); refine we_callB rfl (Tx.f_len (by assumption)) bb_len ?_)
  | ((with_reducible refine at_call "int" ?_); refine we_callTy rfl (Tx.f_int (by assumption)) bt_int ?_)
  | ((with_reducible refine at_call "isinstance" ?_); refine we_callB rfl (Tx.f_isinstance (by assumption)) bb_isinstance ?_)
  | ((with_reducible refine at_call "repr" ?_); refine we_callB rfl (Tx.f_repr (by assumption)) bb_repr ?_)
  | ((with_reducible refine at_call "all" ?_); refine we_callB rfl (Tx.f_all (by assumption)) bb_all ?_)
  | ((with_reducible refine at_call "any" ?_); refine we_callB rfl (Tx.f_any (by assumption)) bb_any ?_)
  | ((with_reducible refine at_call "max" ?_); refine we_callB rfl (Tx.f_max (by assumption)) bb_max ?_)
  | ((with_reducible refine at_call "min" ?_); refine we_callB rfl (Tx.f_min (by assumption)) bb_min ?_))
local macro_rules | `(tactic| fail "g") => `(tactic| first
  | ((with_reducible refine at_name "int" ?_); refine we_gty rfl (Tx.f_int (by assumption)) bt_int ?_)
  | ((with_reducible refine at_name "bool" ?_); refine we_gty rfl (Tx.f_bool (by assumption)) bt_bool ?_)
  | ((with_reducible refine at_name "tuple" ?_); refine we_gty rfl (Tx.f_tuple (by assumption)) bt_tuple ?_)
  | ((with_reducible refine at_name "PAIR" ?_); refine we_gintE (Tx.v_PAIR (by assumption)) rfl ?_)
  | ((with_reducible refine at_name "Amount" ?_); refine we_gref rfl (Tx.g_Amount (by assumption)).1 ?_)
  | ((with_reducible refine at_name "Source" ?_); refine we_gref rfl (Tx.g_Source (by assumption)).1 ?_))
local macro_rules | `(tactic| fail "a") => `(tactic| first
  | ((with_reducible refine at_wat "top" ?_); refine wat_slot (c := 0) (Tx.c_Amount (by assumption)) (Tx.sl_Amount_top (by assumption)) rfl ?_)
  | ((with_reducible refine at_wat "bottom" ?_); refine wat_slot (c := 0) (Tx.c_Amount (by assumption)) (Tx.sl_Amount_bottom (by assumption)) rfl ?_)
  | ((with_reducible refine at_wat "own_volts" ?_); refine wat_slot (c := 1) (Tx.c_Source (by assumption)) (Tx.sl_Source_own_volts (by assumption)) rfl ?_)
  | ((with_reducible refine at_wat "own_ohms" ?_); refine wat_slot (c := 1) (Tx.c_Source (by assumption)) (Tx.sl_Source_own_ohms (by assumption)) rfl ?_))
local macro_rules | `(tactic| fail "o") => `(tactic| first
  | ((with_reducible refine at_bin .Add ?_); refine wo_add ?_) | ((with_reducible refine at_bin .Sub ?_); refine wo_sub ?_)
  | ((with_reducible refine at_cmp .Lt ?_); refine wo_lt ?_) | ((with_reducible refine at_cmp .LtE ?_); refine wo_le ?_) | ((with_reducible refine at_cmp .Gt ?_); refine wo_gt ?_) | ((with_reducible refine at_cmp .GtE ?_); refine wo_ge ?_)
  | ((with_reducible refine at_cmp .Eq ?_); first | refine wo_eqI ?_ | refine wo_eqB ?_ | refine wo_eqS ?_)
  | ((with_reducible refine at_cmp .NotEq ?_); first | refine wo_neI ?_ | refine wo_neB ?_ | refine wo_neS ?_)
  | ((with_reducible refine at_cmp .Is ?_); refine wo_isN ?_) | ((with_reducible refine at_cmp .IsNot ?_); refine wo_notN ?_))
local macro_rules | `(tactic| fail "w") => `(tactic| first
  | ((with_reducible refine e_name ?_); first | fail "v" | fail "g")
  | ((with_reducible refine e_attr ?_); refine we_attr ?_)
  | ((with_reducible refine e_call ?_); fail "c")
  | ((with_reducible refine e_const ?_); first | refine we_int ?_ | refine we_bl ?_ | refine we_non ?_ | refine we_str ?_)
  | ((with_reducible refine e_bin ?_); refine we_bin ?_)
  | ((with_reducible refine e_sub ?_); refine we_ix ?_)
  | ((with_reducible refine e_callm ?_); fail "m")
  | ((with_reducible refine e_cmp ?_); refine we_cmp ?_)
  | ((with_reducible refine e_tup ?_); refine we_tup ?_))
local macro_rules | `(tactic| fail "x") => `(tactic| first
  | ((with_reducible refine j_we ?_); fail "w")
  | ((with_reducible refine j_wa ?_); first | refine wa_cons ?_ | refine wa_nil ?_)
  | ((with_reducible refine j_wat ?_); fail "a")
  | ((with_reducible refine j_wo ?_); fail "o")
  | ((with_reducible refine j_wix ?_); refine wix_tup rfl ?_)
  | (with_reducible refine a_len ?_ rfl)
  | ((with_reducible refine a_obj ?_); refine ⟨_, rfl, ?_⟩)
  | ((with_reducible refine t_cmp ?_); refine wt_cmp ?_))
local macro_rules | `(tactic| fail "e") => `(tactic| first | fail "x" | ((with_reducible refine j_ret ?_); refine ws_ret ?_) | ((with_reducible refine j_wss ?_); first | refine wss_one ?_ | refine wss_cons ?_))
variable {w : World} {K : PySem.W.Frag} {mg : Str → Option Value} {base : Heap}
local macro_rules | `(tactic| fail "g") => `(tactic| first
  | ((with_reducible refine at_name "PAIR" ?_); refine we_gintE (Tx.v_PAIR (by assumption)) rfl ?_))
def S_common : FS := fun ds M Φ => ∃ a b : Int, ds = [.int a, .int b] ∧ Φ (.int (Int.gcd a b)) M
section
local macro_rules | `(tactic| fail "v") => `(tactic| first
  | ((with_reducible refine at_name "one" ?_); refine we_var 0 rfl (by fail "vis") rfl ?_)
  | ((with_reducible refine at_name "other" ?_); refine we_var 1 rfl (by fail "vis") rfl ?_))
theorem ok_common (T : Tx K mg w) : FnG P w K mg base CX0 (1 + 1) (He.ga K "common") (spD (Cs K w) S_common) := by
  obtain ⟨fd, Fd⟩ := T.e_common
  have b := Fd.bindsN (ps := ["one", "other"]) fun _ _ _ _ _ _ us hl => match us, hl with | [_, _], _ => rfl
  refine fn_D [] Fd sc_common b .nil (fun _ _ => .nil) (fun ds M Φ h => by obtain ⟨a, b, rfl, h⟩ := h; rfl) ?_
  rintro cdv A outer s H as M Φ hr ⟨a, b, rfl, h⟩
  refine wss_cons (ws_par 0 1 rfl sc_common.nd rfl rfl (by decide) rfl rfl rfl ?_)
  repeat fail "e"
  refine wc_abs ?_
  repeat fail "e"
  refine wc_abs ?_
  refine wa_nil ⟨_, _, rfl, ?_⟩
  refine wss_cons (ws_while (W := fun m ρ M' => ∃ u v : Int, ρ = [some (.int u), some (.int v)] ∧ M' = M ∧ 0 ≤ u ∧ 0 ≤ v ∧ v.toNat = m ∧ Int.gcd u v = Int.gcd a b) PassesOwn.never _ ⟨_, _, rfl, rfl, ?_, ?_, rfl, ?_⟩ ?_)
  · split <;> omega
  · split <;> omega
  · split <;> split <;> simp
  · rintro m ρ M' ⟨u, v, rfl, rfl, hu, hv, hm, hg⟩
    refine wt_cmp (we_var 1 rfl (.inl rfl) rfl (we_int (wo_gt ⟨_, rfl, fun ht => ?_, fun hf => ?_⟩)))
    · have hv' : 0 < v := of_decide_eq_true ht
      refine wss_one (ws_par 0 1 rfl sc_common.nd rfl rfl (by decide) rfl rfl rfl ?_)
      refine wa_cons (we_var 1 rfl (.inl rfl) rfl (wa_cons (we_bin (we_var 0 rfl (.inl rfl) rfl (we_var 1 rfl (.inl rfl) rfl (wo_mod hv' ?_))))))
      refine wa_nil ⟨_, _, rfl, (u % v).toNat, ?_, v, u % v, rfl, rfl, by omega, Int.emod_nonneg _ (by omega), rfl, ?_⟩
      · have := Int.emod_lt_of_pos u hv'
        have := Int.emod_nonneg u (b := v) (by omega)
        omega
      · rw [← hg]; exact gcd_step hu hv'
    · have hv' : ¬ 0 < v := of_decide_eq_false hf
      have e : v = 0 := by omega
      subst e
      refine wss_one (ws_ret (we_var 0 rfl (.inl rfl) rfl ?_))
      have e2 : u = (Int.gcd a b : Int) := by rw [← hg]; simp; omega
      rw [e2]; exact h
end
local macro_rules | `(tactic| fail "c") => `(tactic| ((with_reducible refine at_call "common" ?_); refine we_call (ok_common (by assumption)) (Rm.mono (by assumption) (by decide)) rfl (Tx.g_common (by assumption)).1 (Tx.g_common (by assumption)).2 ?_))
def S_is_integer2 : FS := fun ds M Φ => ∃ i lo : Int, ds = [.int i, .int lo] ∧ Φ (.bl (decide (lo ≤ i))) M
section
local macro_rules | `(tactic| fail "v") => `(tactic| first
  | ((with_reducible refine at_name "value" ?_); refine we_var 0 rfl (by fail "vis") rfl ?_)
  | ((with_reducible refine at_name "low" ?_); refine we_var 1 rfl (by fail "vis") rfl ?_)
  | ((with_reducible refine at_name "high" ?_); refine we_var 2 rfl (by fail "vis") rfl ?_))
theorem ok_is_integer2 (T : Tx K mg w) : FnG P w K mg base CX0 (0 + 1) (He.ga K "is_integer") (spD (Cs K w) S_is_integer2) := by
  obtain ⟨fd, Fd⟩ := T.e_is_integer
  obtain ⟨ds, hd, b⟩ := Fd.binds1 (ps := ["value", "low", "high"]) 2 1 (by simp) rfl fun _ _ _ _ _ _ _ us its h1 h2 => match us, its, h1, h2 with | [_, _], [_, _], _, _ => ⟨_, rfl, rfl⟩
  refine fn_D [.non] Fd sc_is_integer b hd (fun _ _ => .cons .non .nil) (fun ds M Φ h => by obtain ⟨i, lo, rfl, h⟩ := h; rfl) ?_
  rintro cdv A outer s H as M Φ hr ⟨i, lo, rfl, h⟩
  refine wss_cons (ws_if ?_)
  refine WW.wt (ww_or (wt_not (wt_val ?_)))
  repeat fail "e"
  refine wc_isi rfl T.kt_int_int ⟨_, rfl, nofun, fun _ => ?_⟩
  refine ww_or1 (wt_val ?_)
  repeat fail "e"
  refine wc_isi rfl T.kt_int_bool ⟨_, rfl, nofun, fun _ => wss_nil ?_⟩
  refine wss_one (ws_ret (we_and (we_or ?_)))
  repeat fail "e"
  refine ⟨_, rfl, nofun, fun _ => we_one ?_⟩
  repeat fail "e"
  refine ⟨_, rfl, fun hc => ?_, fun hc => ?_⟩
  · refine we_one (we_or ?_)
    repeat fail "e"
    refine ⟨_, rfl, fun _ => ?_, nofun⟩
    rw [← hc]; exact h
  · rw [← hc]; exact h
end
local macro_rules | `(tactic| fail "c") => `(tactic| ((with_reducible refine at_call "is_integer" ?_); refine we_call (ok_is_integer2 (by assumption)) (Rm.mono (by assumption) (by decide)) rfl (Tx.g_is_integer (by assumption)).1 (Tx.g_is_integer (by assumption)).2 ?_))
def S_is_ratio : FS := fun ds M Φ => ∃ q : Rat, ds = [rt q] ∧ 0 ≤ q ∧ Φ (.bl true) M
section
local macro_rules | `(tactic| fail "v") => `(tactic| first
  | ((with_reducible refine at_name "value" ?_); refine we_var 0 rfl (by fail "vis") rfl ?_))
theorem ok_is_ratio (T : Tx K mg w) : FnG P w K mg base CX0 (2 + 1) (He.ga K "is_ratio") (spD (Cs K w) S_is_ratio) := by
  obtain ⟨fd, Fd⟩ := T.e_is_ratio
  have b := Fd.bindsN (ps := ["value"]) fun _ _ _ _ _ _ us hl => match us, hl with | [_], _ => rfl
  refine fn_D [] Fd sc_is_ratio b .nil (fun _ _ => .nil) (fun ds M Φ h => by obtain ⟨q, rfl, hq, h⟩ := h; rfl) ?_
  rintro cdv A outer s H as M Φ hr ⟨q, rfl, hq, h⟩
  refine wss_cons (ws_if ?_)
  refine WW.wt (ww_or (wt_not (wt_val ?_)))
  repeat fail "e"
  refine wc_isi rfl T.kt_tuple_tuple ⟨_, rfl, nofun, fun _ => ww_or1 (wt_cmp ?_)⟩
  repeat fail "e"
  refine wc_lenT ?_
  repeat fail "e"
  refine ⟨_, rfl, nofun, fun _ => wss_nil ?_⟩
  refine wss_cons (ws_if ?_)
  refine WW.wt (ww_or (wt_not (wt_val ?_)))
  repeat fail "e"
  refine ⟨_, _, rfl, _, rfl, fun hc => ?_, fun _ => ww_or1 (wt_not (wt_val ?_))⟩
  · have := num_nonneg.mpr hq
    simp [this] at hc
  repeat fail "e"
  refine ⟨_, _, rfl, _, rfl, fun hc => ?_, fun _ => wss_nil ?_⟩
  · have := rat_den_pos q
    have : (1 : Int) ≤ q.den := by omega
    simp [this] at hc
  repeat fail "e"
  refine ⟨_, _, rfl, ?_⟩
  repeat fail "e"
  rw [rat_gcd]
  exact h
end
local macro_rules | `(tactic| fail "c") => `(tactic| ((with_reducible refine at_call "is_ratio" ?_); refine we_call (ok_is_ratio (by assumption)) (Rm.mono (by assumption) (by decide)) rfl (Tx.g_is_ratio (by assumption)).1 (Tx.g_is_ratio (by assumption)).2 ?_))
def S_Amount_init : FS := fun ds M Φ => ∃ (a dx : Addr) (n u : Int), ds = [.ref a, .int n, .int u] ∧ M a = some (.slt 0 dx []) ∧ u ≠ 0 ∧ n.natAbs < 2 ^ 100000 ∧ u.natAbs < 2 ^ 9000 ∧ Φ .non (put M a (.slt 0 dx [some (.int (Rat.divInt n u).den), some (.int (Rat.divInt n u).num)]))
def S_Amount_init1 : FS := fun ds M Φ => ∃ (a dx : Addr) (n : Int), ds = [.ref a, .int n] ∧ M a = some (.slt 0 dx []) ∧ n.natAbs < 2 ^ 100000 ∧ Φ .non (put M a (.slt 0 dx [some (.int (Rat.divInt n 1).den), some (.int (Rat.divInt n 1).num)]))
theorem sg_lt (u : Int) : (if u < 0 then (-1 : Int) else 1).natAbs < 2 ^ 1 := by split <;> decide
section
local macro_rules | `(tactic| fail "v") => `(tactic| first
  | ((with_reducible refine at_name "self" ?_); refine we_var 0 rfl (by fail "vis") rfl ?_)
  | ((with_reducible refine at_name "above" ?_); refine we_var 1 rfl (by fail "vis") rfl ?_)
  | ((with_reducible refine at_name "under" ?_); refine we_var 2 rfl (by fail "vis") rfl ?_)
  | ((with_reducible refine at_name "by" ?_); refine we_var 3 rfl (by fail "vis") rfl ?_)
  | ((with_reducible refine at_name "sign" ?_); refine we_var 4 rfl (by fail "vis") rfl ?_))
theorem body_Amount_init (T : Tx K mg w) (cdv : Value) (A : Around) (outer : List PySem.Env) (s : Shared) (H : Hp) (M : Mem) (Φ : D → Mem → Prop) (ad dx : Addr) (n u : Int) (hr : Rm 2 (cxOf CX0 P w K mg base ["self", "above", "under", "by", "sign"] "Amount.__init__" (defScope s_Amount_init) (He.ma K (He.ga K "Amount") "__init__") cdv A outer s H E0).nox.A)
    (hM : M ad = some (.slt 0 dx [])) (hu : u ≠ 0) (hn : n.natAbs < 2 ^ 100000) (hb : u.natAbs < 2 ^ 9000) (h : Φ .non (put M ad (.slt 0 dx [some (.int (Rat.divInt n u).den), some (.int (Rat.divInt n u).num)]))) :
    WSs (Cs K w) (cxOf CX0 P w K mg base ["self", "above", "under", "by", "sign"] "Amount.__init__" (defScope s_Amount_init) (He.ma K (He.ga K "Amount") "__init__") cdv A outer s H E0).nox (defBody s_Amount_init) (startE ["self", "above", "under", "by", "sign"] [.ref ad, .int n, .int u]) M { nx := fun _ M' => Φ .non M', rt := Φ } := by
  refine wss_cons (ws_set 3 sc_Amount_init.nd rfl (.inl rfl) ?_)
  repeat fail "e"
  refine ⟨_, _, rfl, ?_⟩
  refine wss_cons (ws_set 4 sc_Amount_init.nd rfl (.inl rfl) (we_if ?_))
  repeat fail "e"
  have key : ∀ sg : Int, sg = (if u < 0 then (-1 : Int) else 1) → WSs (Cs K w) (cxOf CX0 P w K mg base ["self", "above", "under", "by", "sign"] "Amount.__init__" (defScope s_Amount_init) (He.ma K (He.ga K "Amount") "__init__") cdv A outer s H E0).nox
      ((defBody s_Amount_init).drop 2) [some (.ref ad), some (.int n), some (.int u), some (.int (Int.gcd n u)), some (.int sg)] M { nx := fun _ M' => Φ .non M', rt := Φ } := by
    intro sg hsg
    refine wss_cons (ws_slot (c := 0) T.c_Amount T.sl_Amount_top ?_)
    repeat fail "e"
    refine wo_mul (wide_mul (by rw [hsg]; exact sg_lt u) hn (by decide) (by decide) (by decide)) ?_
    repeat fail "e"
    refine wo_fdiv (wide_div (gcd_pos hu) (gcd_lt hu hb) (by decide) (by decide)) ?_
    repeat fail "e"
    refine ⟨ad, dx, [], rfl, hM, ?_⟩
    refine wss_one (ws_slot (c := 0) T.c_Amount T.sl_Amount_bottom ?_)
    repeat fail "e"
    refine wo_mul (wide_mul (by rw [hsg]; exact sg_lt u) hb (by decide) (by decide) (by decide)) ?_
    repeat fail "e"
    refine wo_fdiv (wide_div (gcd_pos hu) (gcd_lt hu hb) (by decide) (by decide)) ?_
    repeat fail "e"
    refine ⟨ad, dx, _, rfl, put_same, ?_⟩
    rw [put_put, hsg, top_eq hu, bot_eq hu]
    exact h
  refine ⟨_, rfl, fun hc => ?_, fun hc => ?_⟩
  · have hc' : u < 0 := of_decide_eq_true hc
    refine we_un (we_int (wu_neg ?_))
    exact key _ (by rw [if_pos hc'])
  · have hc' : ¬ u < 0 := of_decide_eq_false hc
    refine we_int ?_
    exact key _ (by rw [if_neg hc'])
end
section
local macro_rules | `(tactic| fail "v") => `(tactic| first
  | ((with_reducible refine at_name "self" ?_); refine we_var 0 rfl (by fail "vis") rfl ?_)
  | ((with_reducible refine at_name "above" ?_); refine we_var 1 rfl (by fail "vis") rfl ?_)
  | ((with_reducible refine at_name "under" ?_); refine we_var 2 rfl (by fail "vis") rfl ?_)
  | ((with_reducible refine at_name "by" ?_); refine we_var 3 rfl (by fail "vis") rfl ?_)
  | ((with_reducible refine at_name "sign" ?_); refine we_var 4 rfl (by fail "vis") rfl ?_))
theorem ok_Amount_init (T : Tx K mg w) : FnG P w K mg base CX0 (2 + 1) (He.ma K (He.ga K "Amount") "__init__") (spD (Cs K w) S_Amount_init) := by
  obtain ⟨fd, Fd⟩ := T.e_Amount_init
  obtain ⟨ds, hd, b⟩ := Fd.binds1 (ps := ["self", "above", "under"]) 3 1 (by simp) rfl fun _ _ _ _ _ _ _ us its h1 h2 => match us, its, h1, h2 with | [_, _, _], [_], _, _ => ⟨_, rfl, rfl⟩
  refine fn_D [] Fd sc_Amount_init b hd (fun _ _ => .nil) (fun ds M Φ h => by obtain ⟨ad, dx, n, u, rfl, hM, hu, hn, hb, h⟩ := h; rfl) ?_
  rintro cdv A outer s H as M Φ hr ⟨ad, dx, n, u, rfl, hM, hu, hn, hb, h⟩
  exact body_Amount_init T cdv A outer s H M Φ ad dx n u hr hM hu hn hb h
end
section
local macro_rules | `(tactic| fail "v") => `(tactic| first
  | ((with_reducible refine at_name "self" ?_); refine we_var 0 rfl (by fail "vis") rfl ?_)
  | ((with_reducible refine at_name "above" ?_); refine we_var 1 rfl (by fail "vis") rfl ?_)
  | ((with_reducible refine at_name "under" ?_); refine we_var 2 rfl (by fail "vis") rfl ?_)
  | ((with_reducible refine at_name "by" ?_); refine we_var 3 rfl (by fail "vis") rfl ?_)
  | ((with_reducible refine at_name "sign" ?_); refine we_var 4 rfl (by fail "vis") rfl ?_))
theorem ok_Amount_init1 (T : Tx K mg w) : FnG P w K mg base CX0 (2 + 1) (He.ma K (He.ga K "Amount") "__init__") (spD (Cs K w) S_Amount_init1) := by
  obtain ⟨fd, Fd⟩ := T.e_Amount_init
  obtain ⟨ds, hd, b⟩ := Fd.binds1 (ps := ["self", "above", "under"]) 2 0 (by simp) rfl fun _ _ _ _ _ _ _ us its h1 h2 => match us, its, h1, h2 with | [_, _], [_], _, _ => ⟨_, rfl, rfl⟩
  refine fn_D [.int 1] Fd sc_Amount_init b hd (fun _ _ => .cons (.int 1) .nil) (fun ds M Φ h => by obtain ⟨ad, dx, n, rfl, hM, hn, h⟩ := h; rfl) ?_
  rintro cdv A outer s H as M Φ hr ⟨ad, dx, n, rfl, hM, hn, h⟩
  exact body_Amount_init T cdv A outer s H M Φ ad dx n 1 hr hM (by decide) hn (by decide) h
end
/-! Amount(n, u), Amount(n) -/
theorem we_Amount {X : Cx} {ρ : DL.Env} {M : Mem} {Φ : D → Mem → Prop} {e1 e2 : Expr} {p pos : Pos} (eK : X.K = K) (eM : X.mg = mg) (Fn : FnD (Cs K w) X 3 (He.ma K (He.ga K "Amount") "__init__") S_Amount_init) (T : Tx K mg w) (hr : Rm 4 X.A) (hg : Gl X "Amount")
    (h : WA (Cs K w) X [e1, e2] ρ M fun ds M1 => ∃ n u : Int, ds = [.int n, .int u] ∧ u ≠ 0 ∧ n.natAbs < 2 ^ 100000 ∧ u.natAbs < 2 ^ 9000 ∧ Φ (amt (Rat.divInt n u)) M1)
    (he : starEach [e1, e2] X.env = (false, eval e1 X.env) :: starEach [e2] X.env := by rfl) (hpl : (backTo pos (starEach [e2] X.env)).any (·.1) = false := by rfl) : WE (Cs K w) X (.Call (.Name "Amount" p) [e1, e2] [] pos) ρ M Φ := by
  subst eK eM
  refine we_make (n := 0) T.mk_Amount Fn hr hg T.g_Amount.1 (.mk fun F σ H A Q k => h.run F σ H A Q fun vs ds H1 M1 p m r q => k vs ds H1 M1 p m r ?_) (by decide) he hpl
  obtain ⟨n, u, rfl, hu, hn, hb, hΦ⟩ := q
  intro a dx ha hdx hne
  refine ⟨a, dx, n, u, rfl, put_same, hu, hn, hb, rfl, [_, _], by simp, put_same, ?_⟩
  rw [put_put, era_put (by rw [put_ne (Ne.symm hne)]; exact ha), era_put hdx]
  exact hΦ
theorem we_Amount1 {X : Cx} {ρ : DL.Env} {M : Mem} {Φ : D → Mem → Prop} {e1 : Expr} {p pos : Pos} (eK : X.K = K) (eM : X.mg = mg) (Fn : FnD (Cs K w) X 3 (He.ma K (He.ga K "Amount") "__init__") S_Amount_init1) (T : Tx K mg w) (hr : Rm 4 X.A) (hg : Gl X "Amount")
    (h : WA (Cs K w) X [e1] ρ M fun ds M1 => ∃ n : Int, ds = [.int n] ∧ n.natAbs < 2 ^ 100000 ∧ Φ (amt (Rat.divInt n 1)) M1)
    (he : starEach [e1] X.env = (false, eval e1 X.env) :: starEach [] X.env := by rfl) (hpl : (backTo pos (starEach [] X.env)).any (·.1) = false := by rfl) : WE (Cs K w) X (.Call (.Name "Amount" p) [e1] [] pos) ρ M Φ := by
  subst eK eM
  refine we_make (n := 0) T.mk_Amount Fn hr hg T.g_Amount.1 (.mk fun F σ H A Q k => h.run F σ H A Q fun vs ds H1 M1 p m r q => k vs ds H1 M1 p m r ?_) (by decide) he hpl
  obtain ⟨n, rfl, hn, hΦ⟩ := q
  intro a dx ha hdx hne
  refine ⟨a, dx, n, rfl, put_same, hn, rfl, [_, _], by simp, put_same, ?_⟩
  rw [put_put, era_put (by rw [put_ne (Ne.symm hne)]; exact ha), era_put hdx]
  exact hΦ
local macro_rules | `(tactic| fail "c") => `(tactic| ((with_reducible refine at_call "Amount" ?_); first | refine we_Amount rfl rfl (ok_Amount_init (by assumption)) (by assumption) (Rm.mono (by assumption) (by decide)) rfl ?_ | refine we_Amount1 rfl rfl (ok_Amount_init1 (by assumption)) (by assumption) (Rm.mono (by assumption) (by decide)) rfl ?_))
def S_Amount_pair : FS := fun ds M Φ => ∃ q : Rat, ds = [amt q] ∧ Φ (rt q) M
section
local macro_rules | `(tactic| fail "v") => `(tactic| first
  | ((with_reducible refine at_name "self" ?_); refine we_var 0 rfl (by fail "vis") rfl ?_))
theorem ok_Amount_pair (T : Tx K mg w) : FnG P w K mg base CX0 (1 + 1) (He5.wf K (He.ga K "Amount") "property" "pair") (spD (Cs K w) S_Amount_pair) := by
  obtain ⟨fd, Fd⟩ := T.e_Amount_pair
  have b := Fd.bindsN (ps := ["self"]) fun _ _ _ _ _ _ us hl => match us, hl with | [_], _ => rfl
  refine fn_D [] Fd sc_Amount_pair b .nil (fun _ _ => .nil) (fun ds M Φ h => by obtain ⟨q, rfl, h⟩ := h; rfl) ?_
  rintro cdv A outer s H as M Φ hr ⟨q, rfl, h⟩
  repeat fail "e"
  exact h
end
local macro_rules | `(tactic| fail "a") => `(tactic| ((with_reducible refine at_wat "pair" ?_); refine wat_prop (c := 0) (Tx.c_Amount (by assumption)) (Tx.p_Amount_pair (by assumption)).at_ (Tx.p_Amount_pair (by assumption)).get (Tx.p_Amount_pair (by assumption)).tk (Tx.p_Amount_pair (by assumption)).rc (ok_Amount_pair (by assumption)) (Rm.mono (by assumption) (by decide)) ?_))
def S_Amount_over : FS := fun ds M Φ => ∃ (p q : Rat) (B : Nat), ds = [amt p, amt q] ∧ q ≠ 0 ∧ B ≤ 4400 ∧ Bz B p ∧ Bz B q ∧ Φ (amt (p / q)) M
theorem big_mul {B : Nat} {x y : Int} (h : B ≤ 4400) (hx : x.natAbs < 2 ^ B) (hy : y.natAbs < 2 ^ B) : CMulW x y := by
  have hx' : x.natAbs < 2 ^ 4400 := Nat.lt_of_lt_of_le hx (Nat.pow_le_pow_right (by decide) h)
  have hy' : y.natAbs < 2 ^ 4400 := Nat.lt_of_lt_of_le hy (Nat.pow_le_pow_right (by decide) h)
  exact wide_mul hx' hy' (by decide) (by decide) (by decide)
theorem big_lt {B C : Nat} {x : Int} (h : B ≤ C) (hx : x.natAbs < 2 ^ B) : x.natAbs < 2 ^ C := Nat.lt_of_lt_of_le hx (Nat.pow_le_pow_right (by decide) h)
theorem num_ne {q : Rat} (h : q ≠ 0) : q.num ≠ 0 := fun z => h (Rat.num_eq_zero.mp z)
section
local macro_rules | `(tactic| fail "v") => `(tactic| first
  | ((with_reducible refine at_name "self" ?_); refine we_var 0 rfl (by fail "vis") rfl ?_)
  | ((with_reducible refine at_name "other" ?_); refine we_var 1 rfl (by fail "vis") rfl ?_))
theorem ok_Amount_over (T : Tx K mg w) : FnG P w K mg base CX0 (4 + 1) (He.ma K (He.ga K "Amount") "over") (spD (Cs K w) S_Amount_over) := by
  obtain ⟨fd, Fd⟩ := T.e_Amount_over
  have b := Fd.bindsN (ps := ["self", "other"]) fun _ _ _ _ _ _ us hl => match us, hl with | [_, _], _ => rfl
  refine fn_D [] Fd sc_Amount_over b .nil (fun _ _ => .nil) (fun ds M Φ h => by obtain ⟨p, q, B, rfl, hq, hB, bp, bq, h⟩ := h; rfl) ?_
  rintro cdv A outer s H as M Φ hr ⟨p, q, B, rfl, hq, hB, bp, bq, h⟩
  refine wss_one (ws_ret ?_)
  fail "c"
  repeat fail "e"
  refine wo_mul (big_mul hB bp.n (den_lt bq)) ?_
  repeat fail "e"
  refine wo_mul (big_mul hB (den_lt bp) bq.n) ?_
  repeat fail "e"
  refine ⟨_, _, rfl, Int.mul_ne_zero (rat_den_ne p) (num_ne hq), big_lt (by omega) (mul_lt bp.n (den_lt bq)), big_lt (by omega) (mul_lt (den_lt bp) bq.n), ?_⟩
  rw [← rat_div]
  exact h
end
local macro_rules | `(tactic| fail "m") => `(tactic| ((with_reducible refine at_meth "over" ?_); refine we_meth (c := 0) (Tx.c_Amount (by assumption)) (Tx.m_Amount_over (by assumption)) (ok_Amount_over (by assumption)) (Rm.mono (by assumption) (by decide)) ?_))
def S_Amount_add : FS := fun ds M Φ => ∃ (p q : Rat) (B : Nat), ds = [amt p, amt q] ∧ B ≤ 4400 ∧ Bz B p ∧ Bz B q ∧ Φ (amt (p + q)) M
section
local macro_rules | `(tactic| fail "v") => `(tactic| first
  | ((with_reducible refine at_name "self" ?_); refine we_var 0 rfl (by fail "vis") rfl ?_)
  | ((with_reducible refine at_name "other" ?_); refine we_var 1 rfl (by fail "vis") rfl ?_))
theorem ok_Amount_add (T : Tx K mg w) : FnG P w K mg base CX0 (4 + 1) (He.ma K (He.ga K "Amount") "__add__") (spD (Cs K w) S_Amount_add) := by
  obtain ⟨fd, Fd⟩ := T.e_Amount_add
  have b := Fd.bindsN (ps := ["self", "other"]) fun _ _ _ _ _ _ us hl => match us, hl with | [_, _], _ => rfl
  refine fn_D [] Fd sc_Amount_add b .nil (fun _ _ => .nil) (fun ds M Φ h => by obtain ⟨p, q, B, rfl, hB, bp, bq, h⟩ := h; rfl) ?_
  rintro cdv A outer s H as M Φ hr ⟨p, q, B, rfl, hB, bp, bq, h⟩
  refine wss_one (ws_ret ?_)
  fail "c"
  repeat fail "e"
  refine wo_mul (big_mul hB bp.n (den_lt bq)) ?_
  repeat fail "e"
  refine wo_mul (big_mul hB bq.n (den_lt bp)) ?_
  repeat fail "e"
  refine wo_mul (big_mul hB (den_lt bp) (den_lt bq)) ?_
  repeat fail "e"
  refine ⟨_, _, rfl, Int.mul_ne_zero (rat_den_ne p) (rat_den_ne q), big_lt (by omega) (add_lt (mul_lt bp.n (den_lt bq)) (mul_lt bq.n (den_lt bp))), big_lt (by omega) (mul_lt (den_lt bp) (den_lt bq)), ?_⟩
  rw [← rat_add]
  exact h
end
local macro_rules | `(tactic| fail "o") => `(tactic| ((with_reducible refine at_bin .Add ?_); refine wo_bin (op := .Add) (n := 0) (Tx.sf_Amount (by assumption)) (Tx.o_Amount_add (by assumption)).1 (Tx.o_Amount_add (by assumption)).2 (ok_Amount_add (by assumption)) (Rm.mono (by assumption) (by decide)) ?_))
def S_Amount_mul : FS := fun ds M Φ => ∃ (p q : Rat) (B : Nat), ds = [amt p, amt q] ∧ B ≤ 4400 ∧ Bz B p ∧ Bz B q ∧ Φ (amt (p * q)) M
section
local macro_rules | `(tactic| fail "v") => `(tactic| first
  | ((with_reducible refine at_name "self" ?_); refine we_var 0 rfl (by fail "vis") rfl ?_)
  | ((with_reducible refine at_name "other" ?_); refine we_var 1 rfl (by fail "vis") rfl ?_))
theorem ok_Amount_mul (T : Tx K mg w) : FnG P w K mg base CX0 (4 + 1) (He.ma K (He.ga K "Amount") "__mul__") (spD (Cs K w) S_Amount_mul) := by
  obtain ⟨fd, Fd⟩ := T.e_Amount_mul
  have b := Fd.bindsN (ps := ["self", "other"]) fun _ _ _ _ _ _ us hl => match us, hl with | [_, _], _ => rfl
  refine fn_D [] Fd sc_Amount_mul b .nil (fun _ _ => .nil) (fun ds M Φ h => by obtain ⟨p, q, B, rfl, hB, bp, bq, h⟩ := h; rfl) ?_
  rintro cdv A outer s H as M Φ hr ⟨p, q, B, rfl, hB, bp, bq, h⟩
  refine wss_one (ws_ret ?_)
  fail "c"
  repeat fail "e"
  refine wo_mul (big_mul hB bp.n bq.n) ?_
  repeat fail "e"
  refine wo_mul (big_mul hB (den_lt bp) (den_lt bq)) ?_
  repeat fail "e"
  refine ⟨_, _, rfl, Int.mul_ne_zero (rat_den_ne p) (rat_den_ne q), big_lt (by omega) (mul_lt bp.n bq.n), big_lt (by omega) (mul_lt (den_lt bp) (den_lt bq)), ?_⟩
  rw [← rat_mul]
  exact h
end
local macro_rules | `(tactic| fail "o") => `(tactic| ((with_reducible refine at_bin .Mult ?_); refine wo_bin (op := .Mult) (n := 0) (Tx.sf_Amount (by assumption)) (Tx.o_Amount_mul (by assumption)).1 (Tx.o_Amount_mul (by assumption)).2 (ok_Amount_mul (by assumption)) (Rm.mono (by assumption) (by decide)) ?_))
def S_Amount_lt : FS := fun ds M Φ => ∃ (p q : Rat) (B : Nat), ds = [amt p, amt q] ∧ B ≤ 4400 ∧ Bz B p ∧ Bz B q ∧ Φ (.bl (decide (p < q))) M
theorem dec_lt (p q : Rat) : decide (p.num * q.den < q.num * p.den) = decide (p < q) := by
  by_cases h : p < q
  · rw [decide_eq_true h, decide_eq_true ((Rat.lt_iff p q).mp h)]
  · rw [decide_eq_false h, decide_eq_false (fun z => h ((Rat.lt_iff p q).mpr z))]
theorem dec_le (p q : Rat) : decide (p.num * q.den ≤ q.num * p.den) = decide (p ≤ q) := by
  by_cases h : p ≤ q
  · rw [decide_eq_true h, decide_eq_true ((Rat.le_iff p q).mp h)]
  · rw [decide_eq_false h, decide_eq_false (fun z => h ((Rat.le_iff p q).mpr z))]
section
local macro_rules | `(tactic| fail "v") => `(tactic| first
  | ((with_reducible refine at_name "self" ?_); refine we_var 0 rfl (by fail "vis") rfl ?_)
  | ((with_reducible refine at_name "other" ?_); refine we_var 1 rfl (by fail "vis") rfl ?_))
theorem ok_Amount_lt (T : Tx K mg w) : FnG P w K mg base CX0 (1 + 1) (He.ma K (He.ga K "Amount") "__lt__") (spD (Cs K w) S_Amount_lt) := by
  obtain ⟨fd, Fd⟩ := T.e_Amount_lt
  have b := Fd.bindsN (ps := ["self", "other"]) fun _ _ _ _ _ _ us hl => match us, hl with | [_, _], _ => rfl
  refine fn_D [] Fd sc_Amount_lt b .nil (fun _ _ => .nil) (fun ds M Φ h => by obtain ⟨p, q, B, rfl, hB, bp, bq, h⟩ := h; rfl) ?_
  rintro cdv A outer s H as M Φ hr ⟨p, q, B, rfl, hB, bp, bq, h⟩
  refine wss_cons (ws_if (wt_not (wt_val ?_)))
  repeat fail "e"
  refine wc_isiS (.inr ⟨_, rfl, rfl⟩) T.c_Amount T.i_Amount T.kt_Amount_Amount ⟨_, rfl, nofun, fun _ => wss_nil ?_⟩
  repeat fail "e"
  refine wo_mul (big_mul hB bp.n (den_lt bq)) ?_
  repeat fail "e"
  refine wo_mul (big_mul hB bq.n (den_lt bp)) ?_
  repeat fail "e"
  rw [dec_lt]; exact h
end
local macro_rules | `(tactic| fail "o") => `(tactic| ((with_reducible refine at_cmp .Lt ?_); refine wo_own (op := .Lt) (n := 0) (n' := 0) (fun _ _ => rfl) (Tx.nf_Amount (by assumption)) (Tx.o_Amount_lt (by assumption)).1 (Tx.o_Amount_lt (by assumption)).2 (ok_Amount_lt (by assumption)) (Rm.mono (by assumption) (by decide)) ?_))
def S_Amount_le : FS := fun ds M Φ => ∃ (p q : Rat) (B : Nat), ds = [amt p, amt q] ∧ B ≤ 4400 ∧ Bz B p ∧ Bz B q ∧ Φ (.bl (decide (p ≤ q))) M
section
local macro_rules | `(tactic| fail "v") => `(tactic| first
  | ((with_reducible refine at_name "self" ?_); refine we_var 0 rfl (by fail "vis") rfl ?_)
  | ((with_reducible refine at_name "other" ?_); refine we_var 1 rfl (by fail "vis") rfl ?_))
theorem ok_Amount_le (T : Tx K mg w) : FnG P w K mg base CX0 (1 + 1) (He.ma K (He.ga K "Amount") "__le__") (spD (Cs K w) S_Amount_le) := by
  obtain ⟨fd, Fd⟩ := T.e_Amount_le
  have b := Fd.bindsN (ps := ["self", "other"]) fun _ _ _ _ _ _ us hl => match us, hl with | [_, _], _ => rfl
  refine fn_D [] Fd sc_Amount_le b .nil (fun _ _ => .nil) (fun ds M Φ h => by obtain ⟨p, q, B, rfl, hB, bp, bq, h⟩ := h; rfl) ?_
  rintro cdv A outer s H as M Φ hr ⟨p, q, B, rfl, hB, bp, bq, h⟩
  refine wss_cons (ws_if (wt_not (wt_val ?_)))
  repeat fail "e"
  refine wc_isiS (.inr ⟨_, rfl, rfl⟩) T.c_Amount T.i_Amount T.kt_Amount_Amount ⟨_, rfl, nofun, fun _ => wss_nil ?_⟩
  repeat fail "e"
  refine wo_mul (big_mul hB bp.n (den_lt bq)) ?_
  repeat fail "e"
  refine wo_mul (big_mul hB bq.n (den_lt bp)) ?_
  repeat fail "e"
  rw [dec_le]; exact h
end
local macro_rules | `(tactic| fail "o") => `(tactic| ((with_reducible refine at_cmp .LtE ?_); refine wo_own (op := .LtE) (n := 0) (n' := 0) (fun _ _ => rfl) (Tx.nf_Amount (by assumption)) (Tx.o_Amount_le (by assumption)).1 (Tx.o_Amount_le (by assumption)).2 (ok_Amount_le (by assumption)) (Rm.mono (by assumption) (by decide)) ?_))
def S_amount_of : FS := fun ds M Φ => ∃ (q : Rat) (B : Nat), ds = [rt q] ∧ B ≤ 9000 ∧ Bz B q ∧ Φ (amt q) M
section
local macro_rules | `(tactic| fail "v") => `(tactic| first
  | ((with_reducible refine at_name "ratio" ?_); refine we_var 0 rfl (by fail "vis") rfl ?_))
theorem ok_amount_of (T : Tx K mg w) : FnG P w K mg base CX0 (4 + 1) (He.ga K "amount_of") (spD (Cs K w) S_amount_of) := by
  obtain ⟨fd, Fd⟩ := T.e_amount_of
  have b := Fd.bindsN (ps := ["ratio"]) fun _ _ _ _ _ _ us hl => match us, hl with | [_], _ => rfl
  refine fn_D [] Fd sc_amount_of b .nil (fun _ _ => .nil) (fun ds M Φ h => by obtain ⟨q, B, rfl, hB, bq, h⟩ := h; rfl) ?_
  rintro cdv A outer s H as M Φ hr ⟨q, B, rfl, hB, bq, h⟩
  refine wss_one (ws_ret ?_)
  fail "c"
  repeat fail "e"
  refine ⟨_, _, rfl, rat_den_ne q, big_lt (by omega) bq.n, big_lt hB (den_lt bq), ?_⟩
  rw [rat_div_self]; exact h
end
local macro_rules | `(tactic| fail "c") => `(tactic| ((with_reducible refine at_call "amount_of" ?_); refine we_call (ok_amount_of (by assumption)) (Rm.mono (by assumption) (by decide)) rfl (Tx.g_amount_of (by assumption)).1 (Tx.g_amount_of (by assumption)).2 ?_))
def S_nought : FS := fun ds M Φ => ds = [] ∧ Φ (amt 0) M
section
theorem ok_nought (T : Tx K mg w) : FnG P w K mg base CX0 (4 + 1) (He.ga K "nought") (spD (Cs K w) S_nought) := by
  obtain ⟨fd, Fd⟩ := T.e_nought
  have b := Fd.bindsN (ps := []) fun _ _ _ _ _ _ us hl => match us, hl with | [], _ => rfl
  refine fn_D [] Fd sc_nought b .nil (fun _ _ => .nil) (fun ds M Φ h => by obtain ⟨rfl, h⟩ := h; rfl) ?_
  rintro cdv A outer s H as M Φ hr ⟨rfl, h⟩
  refine wss_one (ws_ret ?_)
  fail "c"
  repeat fail "e"
  refine ⟨0, rfl, big_lt (B := 1) (by decide) (by decide), ?_⟩
  have e : Rat.divInt 0 1 = 0 := by decide
  rw [e]; exact h
end
local macro_rules | `(tactic| fail "c") => `(tactic| ((with_reducible refine at_call "nought" ?_); refine we_call0 (ok_nought (by assumption)) (Rm.mono (by assumption) (by decide)) rfl (Tx.g_nought (by assumption)).1 (Tx.g_nought (by assumption)).2 ?_))
def S_unit : FS := fun ds M Φ => ds = [] ∧ Φ (amt 1) M
section
theorem ok_unit (T : Tx K mg w) : FnG P w K mg base CX0 (4 + 1) (He.ga K "unit") (spD (Cs K w) S_unit) := by
  obtain ⟨fd, Fd⟩ := T.e_unit
  have b := Fd.bindsN (ps := []) fun _ _ _ _ _ _ us hl => match us, hl with | [], _ => rfl
  refine fn_D [] Fd sc_unit b .nil (fun _ _ => .nil) (fun ds M Φ h => by obtain ⟨rfl, h⟩ := h; rfl) ?_
  rintro cdv A outer s H as M Φ hr ⟨rfl, h⟩
  refine wss_one (ws_ret ?_)
  fail "c"
  repeat fail "e"
  refine ⟨1, rfl, big_lt (B := 1) (by decide) (by decide), ?_⟩
  have e : Rat.divInt 1 1 = 1 := by decide
  rw [e]; exact h
end
local macro_rules | `(tactic| fail "c") => `(tactic| ((with_reducible refine at_call "unit" ?_); refine we_call0 (ok_unit (by assumption)) (Rm.mono (by assumption) (by decide)) rfl (Tx.g_unit (by assumption)).1 (Tx.g_unit (by assumption)).2 ?_))
/-! ### the law's own draws -/
structure PotV (o sd n : Int) (c : Nat) : Prop where
  o0 : 0 ≤ o
  o1 : o < 2 ^ 1000
  s0 : 0 ≤ sd
  s1 : sd < 2 ^ 61
  n0 : 0 ≤ n
  n1 : n ≤ c
def Pot (M : Mem) (p : Addr) (c : Nat) : Prop := ∃ o sd n : Int, M p = some (.lst [.int o, .int sd, .int n]) ∧ PotV o sd n c
structure PotTo (M : Mem) (p : Addr) (M' : Mem) (c : Nat) : Prop where
  old : ∀ a, a ≠ p → M' a = M a
  pot : Pot M' p c
theorem PotTo.trans {M M1 M2 : Mem} {p : Addr} {c d : Nat} (a : PotTo M p M1 c) (b : PotTo M1 p M2 d) : PotTo M p M2 d := ⟨fun x h => (b.old x h).trans (a.old x h), b.pot⟩
theorem Pot.mono {M : Mem} {p : Addr} {c d : Nat} (h : Pot M p c) (l : c ≤ d) : Pot M p d := by
  obtain ⟨o, sd, n, e, v⟩ := h
  exact ⟨o, sd, n, e, v.o0, v.o1, v.s0, v.s1, v.n0, by have := v.n1; omega⟩
theorem PotTo.mono {M M' : Mem} {p : Addr} {c d : Nat} (h : PotTo M p M' c) (l : c ≤ d) : PotTo M p M' d := ⟨h.old, h.pot.mono l⟩
theorem PotTo.refl {M : Mem} {p : Addr} {c : Nat} (h : Pot M p c) : PotTo M p M c := ⟨fun _ _ => rfl, h⟩
theorem sq_lt {k n : Int} (h0 : 0 ≤ k) (h1 : k ≤ 200000) (h2 : 0 ≤ n) (h3 : n ≤ 1000001) : 0 ≤ k * n * n ∧ k * n * n < 2 ^ 60 := by
  have a1 : 0 ≤ k * n := Int.mul_nonneg h0 h2
  have a2 : k * n ≤ 200000 * 1000001 := Int.mul_le_mul h1 h3 h2 (by decide)
  have a3 : k * n * n ≤ 200000 * 1000001 * 1000001 := Int.mul_le_mul a2 h3 h2 (by decide)
  exact ⟨Int.mul_nonneg a1 h2, by omega⟩
theorem ok_mul {i j : Int} (h : i.natAbs < 2 ^ 64) (h' : j.natAbs < 2 ^ 1000) : CMulW i j := wide_mul h h' (by decide) (by decide) (by decide)
theorem ok_mul' {i j : Int} (h : i.natAbs < 2 ^ 1000) (h' : j.natAbs < 2 ^ 64) : CMulW i j := wide_mul h h' (by decide) (by decide) (by decide)
theorem lt1000 {i : Int} (h : i.natAbs < 2 ^ 64) : i.natAbs < 2 ^ 1000 := Nat.lt_of_lt_of_le h (Nat.pow_le_pow_right (by decide) (by decide))
theorem bits_le {x : Int} (h0 : 0 ≤ x) (h1 : x < 2 ^ 64) : (Builtin.Int.intBits x : Int) * 3 ≤ 2 ^ 27 := by
  have b : Builtin.Int.intBits x ≤ x.natAbs.log2 + 1 := by
    unfold Builtin.Int.intBits
    split <;> omega
  have l : x.natAbs.log2 < 64 := PySem.Flt.log2_lt_of (by decide) (by omega)
  omega
def S_law_pot : FS := fun ds M Φ => ∃ (ns : List Int) (k : Nat), ds = [.lst (ns.map D.int), .int k] ∧ k ≤ 100 ∧ ns.length ≤ 1000 ∧ ∀ p o sd, M p = none → PotV o sd 0 0 → Φ (.ref p) (put M p (.lst [.int o, .int sd, .int 0]))
section
local macro_rules | `(tactic| fail "v") => `(tactic| first
  | ((with_reducible refine at_name "_law_script" ?_); refine we_var 0 rfl (by fail "vis") rfl ?_)
  | ((with_reducible refine at_name "_law_place" ?_); refine we_var 1 rfl (by fail "vis") rfl ?_)
  | ((with_reducible refine at_name "_law_cell" ?_); refine we_var 2 rfl (by fail "vis") rfl ?_)
  | ((with_reducible refine at_name "_law_own" ?_); refine we_var 3 rfl (by fail "vis") rfl ?_)
  | ((with_reducible refine at_name "_law_small" ?_); refine we_var 4 rfl (by fail "vis") rfl ?_))
theorem ok_law_pot (T : Tx K mg w) : FnG P w K mg base CX0 (2 + 1) (He.ga K "_law_pot") (spD (Cs K w) S_law_pot) := by
  obtain ⟨fd, Fd⟩ := T.e_law_pot
  have b := Fd.bindsN (ps := ["_law_script", "_law_place"]) fun _ _ _ _ _ _ us hl => match us, hl with | [_, _], _ => rfl
  refine fn_D [] Fd sc_law_pot b .nil (fun _ _ => .nil) (fun ds M Φ h => by obtain ⟨ns, k, rfl, hk, hl, h⟩ := h; rfl) ?_
  rintro cdv A outer s H as M Φ hr ⟨ns, k, rfl, hk, hl, h⟩
  have key : ∀ cell : Int, WSs (Cs K w) (cxOf CX0 P w K mg base ["_law_script", "_law_place", "_law_cell", "_law_own", "_law_small"] "_law_pot" (defScope s_law_pot) (He.ga K "_law_pot") cdv A outer s H E0).nox
      ((defBody s_law_pot).drop 1) [some (.lst (ns.map D.int)), some (.int k), some (.int cell), none, none] M { nx := fun _ M' => Φ .non M', rt := Φ } := by
    intro cell
    refine wss_cons (ws_set 3 sc_law_pot.nd rfl (.inl rfl) ?_)
    repeat fail "e"
    refine wc_abs ?_
    refine wa_nil (wc_int ?_)
    repeat fail "e"
    refine wo_pow (by decide +kernel) ?_
    repeat fail "e"
    refine wo_pow (by decide +kernel) ?_
    refine wo_mod (by decide +kernel) ?_
    generalize hA : (if cell < 0 then -cell else cell) % ((10 : Int) ^ (60 : Int).toNat) ^ (5 : Int).toNat = A1
    have hA0 : 0 ≤ A1 := by rw [← hA]; exact Int.emod_nonneg _ (by decide +kernel)
    have hA1 : A1 < 2 ^ 1000 := by
      rw [← hA]
      exact Int.lt_of_lt_of_le (Int.emod_lt_of_pos _ (by decide +kernel)) (by decide +kernel)
    repeat fail "e"
    refine wc_abs ?_
    repeat fail "e"
    refine wo_pow (by decide +kernel) ?_
    repeat fail "e"
    generalize decide ((10 : Int) ^ (18 : Int).toNat ≤ if cell < 0 then -cell else cell) = tb
    refine wc_intB ?_
    have hn : A1.natAbs < 2 ^ 1000 := by omega
    refine wo_mul (ok_mul' hn (by cases tb <;> decide)) ?_
    generalize hO : A1 * (if tb = true then (1 : Int) else 0) = O1
    have hO0 : 0 ≤ O1 := by rw [← hO]; cases tb <;> simp <;> omega
    have hO1 : O1 < 2 ^ 1000 := by rw [← hO]; cases tb <;> simp <;> omega
    refine wss_cons (ws_set 4 sc_law_pot.nd rfl (.inl rfl) ?_)
    repeat fail "e"
    refine wc_int ?_
    repeat fail "e"
    refine wo_mod (by decide) ?_
    generalize hB : cell % 2305843009213693951 = B1
    have hB0 : 0 ≤ B1 := by rw [← hB]; exact Int.emod_nonneg _ (by decide)
    have hB1 : B1 < 2305843009213693951 := by rw [← hB]; exact Int.emod_lt_of_pos _ (by decide)
    refine wss_one (ws_ret (we_lstO ?_))
    repeat fail "e"
    refine wo_mul (ok_mul (by omega) (lt1000 (by omega))) ?_
    repeat fail "e"
    refine wo_mul (ok_mul (by omega) (lt1000 (by omega))) ?_
    repeat fail "e"
    refine wo_mul (ok_mul (by omega) (lt1000 (by omega))) ?_
    repeat fail "e"
    refine wc_int ?_
    repeat fail "e"
    refine wo_mod (by decide) ?_
    repeat fail "e"
    generalize hC : (B1 * 61149 + 8631 * (k : Int) * (k : Int) + 101) % 2305843009213693921 = C1
    have hC0 : 0 ≤ C1 := by rw [← hC]; exact Int.emod_nonneg _ (by decide)
    have hC1 : C1 < 2305843009213693921 := by rw [← hC]; exact Int.emod_lt_of_pos _ (by decide)
    exact fun p hp => h p O1 C1 hp ⟨hO0, hO1, hC0, by omega, by decide, by decide⟩
  refine wss_cons (ws_set 2 sc_law_pot.nd rfl (.inl rfl) (we_if (wt_cmp ?_)))
  repeat fail "e"
  refine wc_lenL ?_
  repeat fail "e"
  refine ⟨_, rfl, fun hc => ?_, fun hc => ?_⟩
  · have hc' : k < ns.length := by
      have z := of_decide_eq_true hc
      rw [List.length_map] at z
      omega
    repeat fail "e"
    have hg : (ns.map D.int)[k]? = some (.int ns[k]) := by rw [List.getElem?_map, List.getElem?_eq_getElem hc']; rfl
    refine wix_lst (atI_nat hg) ?_
    exact key _
  · repeat fail "e"
    refine wo_mul (ok_mul (by decide) (lt1000 (by omega))) ?_
    repeat fail "x"
    exact key _
end
local macro_rules | `(tactic| fail "c") => `(tactic| ((with_reducible refine at_call "_law_pot" ?_); refine we_call (ok_law_pot (by assumption)) (Rm.mono (by assumption) (by decide)) rfl (Tx.g_law_pot (by assumption)).1 (Tx.g_law_pot (by assumption)).2 ?_))
def S_law_take : FS := fun ds M Φ => ∃ (p : Addr) (n : Int) (c : Nat), ds = [.ref p, .int n] ∧ 0 < n ∧ n < 2 ^ 60 ∧ c ≤ 1000000 ∧ Pot M p c ∧ ∀ r M', 0 ≤ r → r < n → PotTo M p M' (c + 1) → Φ (.int r) M'
theorem pr_at {i : Int} (h0 : 0 ≤ i) (h1 : i < 5) : ∃ pr : Int, atI [D.int 2147483647, .int 2147483629, .int 2147483587, .int 2147483579, .int 2147483563] i = some (.int pr) ∧ 0 < pr ∧ pr ≤ 2147483647 := by
  have : i = 0 ∨ i = 1 ∨ i = 2 ∨ i = 3 ∨ i = 4 := by omega
  rcases this with rfl | rfl | rfl | rfl | rfl
  · exact ⟨_, rfl, by decide, by decide⟩
  · exact ⟨_, rfl, by decide, by decide⟩
  · exact ⟨_, rfl, by decide, by decide⟩
  · exact ⟨_, rfl, by decide, by decide⟩
  · exact ⟨_, rfl, by decide, by decide⟩
section
local macro_rules | `(tactic| fail "v") => `(tactic| first
  | ((with_reducible refine at_name "_law_pot_here" ?_); refine we_var 0 rfl (by fail "vis") rfl ?_)
  | ((with_reducible refine at_name "_law_upto" ?_); refine we_var 1 rfl (by fail "vis") rfl ?_)
  | ((with_reducible refine at_name "_law_digit" ?_); refine we_var 2 rfl (by fail "vis") rfl ?_)
  | ((with_reducible refine at_name "_law_prime" ?_); refine we_var 3 rfl (by fail "vis") rfl ?_)
  | ((with_reducible refine at_name "_law_mixed" ?_); refine we_var 4 rfl (by fail "vis") rfl ?_))
theorem ok_law_take (T : Tx K mg w) : FnG P w K mg base CX0 (2 + 1) (He.ga K "_law_take") (spD (Cs K w) S_law_take) := by
  obtain ⟨fd, Fd⟩ := T.e_law_take
  have b := Fd.bindsN (ps := ["_law_pot_here", "_law_upto"]) fun _ _ _ _ _ _ us hl => match us, hl with | [_, _], _ => rfl
  refine fn_D [] Fd sc_law_take b .nil (fun _ _ => .nil) (fun ds M Φ h => by obtain ⟨p, n, c, rfl, hn, hn2, hc, ⟨o, sd, cn, hM, V⟩, h⟩ := h; rfl) ?_
  rintro cdv A outer s H as M Φ hr ⟨p, n, c, rfl, hn, hn2, hc, ⟨o, sd, cn, hM, V⟩, h⟩
  have o0 := V.o0
  have o1 := V.o1
  have s0 := V.s0
  have s1 := V.s1
  have n0 := V.n0
  have n1 := V.n1
  refine wss_cons (ws_if (wt_cmp ?_))
  repeat fail "x"
  refine wix_own hM rfl ?_
  repeat fail "x"
  refine ⟨_, rfl, fun hc => ?_, fun hc => wss_nil ?_⟩
  · refine wss_cons (ws_set 2 sc_law_take.nd rfl (.inl rfl) ?_)
    repeat fail "x"
    refine wix_own hM rfl ?_
    refine wa_nil (wc_int ?_)
    repeat fail "x"
    refine wo_mod hn ?_
    refine wss_cons (ws_asg ?_)
    repeat fail "x"
    refine wix_own hM rfl ?_
    repeat fail "x"
    refine wo_fdiv (wide_div (b := 60) hn (by omega) (by decide) (by decide)) ?_
    refine wg_sub ?_
    repeat fail "x"
    refine ⟨p, _, 0, 0, rfl, rfl, hM, rfl, ?_⟩
    repeat fail "e"
    have q0 : 0 ≤ o / n := Int.ediv_nonneg o0 (by omega)
    have q1 : o / n ≤ o := Int.ediv_le_self _ o0
    refine h _ _ (Int.emod_nonneg _ (by omega)) (Int.emod_lt_of_pos _ hn) ⟨fun a ha => put_ne ha, o / n, sd, cn, put_same, q0, by omega, s0, s1, n0, by omega⟩
  · refine wss_cons (ws_asg ?_)
    repeat fail "x"
    refine wix_own hM rfl ?_
    repeat fail "x"
    refine wg_sub ?_
    repeat fail "x"
    refine ⟨p, _, 2, 2, rfl, rfl, hM, rfl, ?_⟩
    generalize hM2 : put M p (.lst (List.set [D.int o, .int sd, .int cn] 2 (.int (cn + 1)))) = M2
    have hP : M2 p = some (.lst [.int o, .int sd, .int (cn + 1)]) := by rw [← hM2]; exact put_same
    have hO : ∀ a, a ≠ p → M2 a = M a := fun a ha => by rw [← hM2]; exact put_ne ha
    generalize hcn : cn + 1 = cm at hP
    have m0 : 0 ≤ cm := by omega
    have m1 : cm ≤ c + 1 := by omega
    have m2 : cm ≤ 1000001 := by omega
    refine wss_cons (ws_set 3 sc_law_take.nd rfl (.inl rfl) ?_)
    refine we_ix (we_lst ?_)
    repeat fail "x"
    refine wix_own hP rfl ?_
    refine wa_nil (wc_int ?_)
    repeat fail "x"
    refine wo_mod (by decide) ?_
    obtain ⟨pr, hpr, pr0, pr1⟩ := pr_at (Int.emod_nonneg cm (by decide : (5 : Int) ≠ 0)) (Int.emod_lt_of_pos cm (by decide : (0 : Int) < 5))
    refine wix_lst hpr ?_
    refine wss_cons (ws_set 4 sc_law_take.nd rfl (.inl rfl) ?_)
    repeat fail "x"
    refine wix_own hP rfl ?_
    repeat fail "x"
    refine wix_own hP rfl ?_
    refine wo_mul (ok_mul (by decide) (lt1000 (by omega))) ?_
    repeat fail "x"
    refine wix_own hP rfl ?_
    refine wo_mul (ok_mul (by omega) (lt1000 (by omega))) ?_
    have sq := sq_lt (k := 100127) (by decide) (by decide) m0 m2
    generalize 100127 * cm * cm = w1 at sq
    obtain ⟨w0, w2⟩ := sq
    repeat fail "x"
    refine wc_int ?_
    repeat fail "x"
    refine wo_pow ⟨by decide, bits_le (by omega) (by omega)⟩ ?_
    refine wa_nil (wc_int ?_)
    repeat fail "x"
    refine wo_mod pr0 ?_
    generalize hx : (sd + w1 + 45) ^ (3 : Int).toNat % pr = mx
    have x0 : 0 ≤ mx := by rw [← hx]; exact Int.emod_nonneg _ (by omega)
    have x1 : mx < pr := by rw [← hx]; exact Int.emod_lt_of_pos _ pr0
    refine wss_cons (ws_set 4 sc_law_take.nd rfl (.inl rfl) ?_)
    repeat fail "x"
    refine wc_int ?_
    repeat fail "x"
    refine wo_mod (by decide) ?_
    have y0 : 0 ≤ mx % 10015 := Int.emod_nonneg _ (by decide)
    have y1 : mx % 10015 < 10015 := Int.emod_lt_of_pos _ (by decide)
    repeat fail "x"
    refine wix_own hP rfl ?_
    refine wo_mul (ok_mul (by decide) (lt1000 (by omega))) ?_
    repeat fail "x"
    refine wo_mul (ok_mul (by omega) (lt1000 (by omega))) ?_
    refine wa_nil (wc_int ?_)
    repeat fail "x"
    refine wo_mod (by decide) ?_
    generalize mx * (mx % 10015 + 75 * cm) % 2305843009213693907 = my
    repeat fail "e"
    refine wo_fdiv (wide_div (b := 60) (by decide) (by decide) (by decide) (by decide)) ?_
    refine wa_nil (wc_int ?_)
    repeat fail "x"
    refine wo_mod hn ?_
    refine h _ _ (Int.emod_nonneg _ (by omega)) (Int.emod_lt_of_pos _ hn) ⟨hO, o, sd, cm, hP, o0, o1, s0, s1, m0, by omega⟩
end
local macro_rules | `(tactic| fail "c") => `(tactic| ((with_reducible refine at_call "_law_take" ?_); refine we_call (ok_law_take (by assumption)) (Rm.mono (by assumption) (by decide)) rfl (Tx.g_law_take (by assumption)).1 (Tx.g_law_take (by assumption)).2 ?_))
def S_law_of : FS := fun ds M Φ => ∃ (p : Addr) (es : List D) (c : Nat), ds = [.ref p, .lst es] ∧ es ≠ [] ∧ es.length ≤ 1000 ∧ c ≤ 1000000 ∧ Pot M p c ∧ ∀ d M', d ∈ es → PotTo M p M' (c + 1) → Φ d M'
section
local macro_rules | `(tactic| fail "v") => `(tactic| first
  | ((with_reducible refine at_name "_law_pot_here" ?_); refine we_var 0 rfl (by fail "vis") rfl ?_)
  | ((with_reducible refine at_name "_law_some" ?_); refine we_var 1 rfl (by fail "vis") rfl ?_))
theorem ok_law_of (T : Tx K mg w) : FnG P w K mg base CX0 (3 + 1) (He.ga K "_law_of") (spD (Cs K w) S_law_of) := by
  obtain ⟨fd, Fd⟩ := T.e_law_of
  have b := Fd.bindsN (ps := ["_law_pot_here", "_law_some"]) fun _ _ _ _ _ _ us hl => match us, hl with | [_, _], _ => rfl
  refine fn_D [] Fd sc_law_of b .nil (fun _ _ => .nil) (fun ds M Φ h => by obtain ⟨p, es, c, rfl, hne, hl, hc, hp, h⟩ := h; rfl) ?_
  rintro cdv A outer s H as M Φ hr ⟨p, es, c, rfl, hne, hl, hc, hp, h⟩
  refine wss_one (ws_ret (we_ix ?_))
  repeat fail "x"
  refine wc_lenL ?_
  repeat fail "x"
  have l0 : 0 < es.length := List.length_pos_iff.mpr hne
  refine ⟨p, es.length, c, rfl, by omega, by omega, hc, hp, fun r M' r0 r1 ht => ?_⟩
  obtain ⟨j, rfl⟩ := Int.eq_ofNat_of_zero_le r0
  have hj : j < es.length := by omega
  refine wix_lst (atI_nat (List.getElem?_eq_getElem hj)) ?_
  exact h _ M' (List.getElem_mem hj) ht
end
local macro_rules | `(tactic| fail "c") => `(tactic| ((with_reducible refine at_call "_law_of" ?_); refine we_call (ok_law_of (by assumption)) (Rm.mono (by assumption) (by decide)) rfl (Tx.g_law_of (by assumption)).1 (Tx.g_law_of (by assumption)).2 ?_))
def S_law_cells : FS := fun ds M Φ => ∃ (ns : List Int) (m : Nat), ds = [.lst (ns.map D.int), .int m] ∧ m ≤ 100 ∧ ∀ k : Nat, k ≤ 101 → Φ (.lst (upTo k)) M
section
local macro_rules | `(tactic| fail "v") => `(tactic| first
  | ((with_reducible refine at_name "_law_script" ?_); refine we_var 0 rfl (by fail "vis") rfl ?_)
  | ((with_reducible refine at_name "_law_most" ?_); refine we_var 1 rfl (by fail "vis") rfl ?_))
theorem ok_law_cells (T : Tx K mg w) : FnG P w K mg base CX0 (2 + 1) (He.ga K "_law_cells") (spD (Cs K w) S_law_cells) := by
  obtain ⟨fd, Fd⟩ := T.e_law_cells
  have b := Fd.bindsN (ps := ["_law_script", "_law_most"]) fun _ _ _ _ _ _ us hl => match us, hl with | [_, _], _ => rfl
  refine fn_D [] Fd sc_law_cells b .nil (fun _ _ => .nil) (fun ds M Φ h => by obtain ⟨ns, m, rfl, hm, h⟩ := h; rfl) ?_
  rintro cdv A outer s H as M Φ hr ⟨ns, m, rfl, hm, h⟩
  refine wss_one (ws_ret (we_listR rfl rfl T.f_list rfl T.f_range ?_))
  repeat fail "x"
  refine wc_lenL ?_
  refine wa_nil (wc_min rfl ?_)
  refine wa_nil (wc_max rfl ?_)
  rw [List.length_map]
  generalize hk : (if (if (ns.length : Int) < (m : Int) then (ns.length : Int) else (m : Int)) > 1 then (if (ns.length : Int) < (m : Int) then (ns.length : Int) else (m : Int)) else (1 : Int)) = k
  have k0 : 0 ≤ k := by rw [← hk]; split <;> split <;> omega
  have k1 : k ≤ 101 := by rw [← hk]; split <;> split <;> omega
  obtain ⟨j, rfl⟩ := Int.eq_ofNat_of_zero_le k0
  exact ⟨j, rfl, by omega, h j (by omega)⟩
end
local macro_rules | `(tactic| fail "c") => `(tactic| ((with_reducible refine at_call "_law_cells" ?_); refine we_call (ok_law_cells (by assumption)) (Rm.mono (by assumption) (by decide)) rfl (Tx.g_law_cells (by assumption)).1 (Tx.g_law_cells (by assumption)).2 ?_))
/-! ### the law's own fractions -/
def S_law_common : FS := fun ds M Φ => ∃ a b : Int, ds = [.int a, .int b] ∧ Φ (.int (Int.gcd a b)) M
section
local macro_rules | `(tactic| fail "v") => `(tactic| first
  | ((with_reducible refine at_name "_law_one" ?_); refine we_var 0 rfl (by fail "vis") rfl ?_)
  | ((with_reducible refine at_name "_law_other" ?_); refine we_var 1 rfl (by fail "vis") rfl ?_)
  | ((with_reducible refine at_name "_law_left" ?_); refine we_var 2 rfl (by fail "vis") rfl ?_)
  | ((with_reducible refine at_name "_law_right" ?_); refine we_var 3 rfl (by fail "vis") rfl ?_))
theorem ok_law_common (T : Tx K mg w) : FnG P w K mg base CX0 (1 + 1) (He.ga K "_law_common") (spD (Cs K w) S_law_common) := by
  obtain ⟨fd, Fd⟩ := T.e_law_common
  have b := Fd.bindsN (ps := ["_law_one", "_law_other"]) fun _ _ _ _ _ _ us hl => match us, hl with | [_, _], _ => rfl
  refine fn_D [] Fd sc_law_common b .nil (fun _ _ => .nil) (fun ds M Φ h => by obtain ⟨a, b, rfl, h⟩ := h; rfl) ?_
  rintro cdv A outer s H as M Φ hr ⟨a, b, rfl, h⟩
  refine wss_cons (ws_par 2 3 rfl sc_law_common.nd rfl rfl (by decide) rfl rfl rfl ?_)
  repeat fail "x"
  refine wc_abs ?_
  repeat fail "x"
  refine wc_abs ?_
  refine wa_nil ⟨_, _, rfl, ?_⟩
  refine wss_cons (ws_while (W := fun m ρ M' => ∃ u v : Int, ρ = [some (.int a), some (.int b), some (.int u), some (.int v)] ∧ M' = M ∧ 0 ≤ u ∧ 0 ≤ v ∧ v.toNat = m ∧ Int.gcd u v = Int.gcd a b) PassesOwn.never _ ⟨_, _, rfl, rfl, ?_, ?_, rfl, ?_⟩ ?_)
  · split <;> omega
  · split <;> omega
  · split <;> split <;> simp
  · rintro m ρ M' ⟨u, v, rfl, rfl, hu, hv, hm, hg⟩
    refine wt_cmp ?_
    repeat fail "x"
    refine ⟨_, rfl, fun ht => ?_, fun hf => ?_⟩
    · have hv' : 0 < v := of_decide_eq_true ht
      refine wss_one (ws_par 2 3 rfl sc_law_common.nd rfl rfl (by decide) rfl rfl rfl ?_)
      repeat fail "x"
      refine wc_int ?_
      repeat fail "x"
      refine wc_int (wo_mod hv' ?_)
      refine wa_nil ⟨_, _, rfl, (u % v).toNat, ?_, v, u % v, rfl, rfl, by omega, Int.emod_nonneg _ (by omega), rfl, ?_⟩
      · have := Int.emod_lt_of_pos u hv'
        have := Int.emod_nonneg u (b := v) (by omega)
        omega
      · rw [← hg]; exact gcd_step hu hv'
    · have hv' : ¬ 0 < v := of_decide_eq_false hf
      have e : v = 0 := by omega
      subst e
      repeat fail "e"
      have e2 : u = (Int.gcd a b : Int) := by rw [← hg]; simp; omega
      rw [e2]; exact h
end
local macro_rules | `(tactic| fail "c") => `(tactic| ((with_reducible refine at_call "_law_common" ?_); refine we_call (ok_law_common (by assumption)) (Rm.mono (by assumption) (by decide)) rfl (Tx.g_law_common (by assumption)).1 (Tx.g_law_common (by assumption)).2 ?_))
def S_law_pair : FS := fun ds M Φ => ∃ a u : Int, ds = [.int a, .int u] ∧ 0 < u ∧ u.natAbs < 2 ^ 9000 ∧ Φ (rt (Rat.divInt a u)) M
section
local macro_rules | `(tactic| fail "v") => `(tactic| first
  | ((with_reducible refine at_name "_law_above" ?_); refine we_var 0 rfl (by fail "vis") rfl ?_)
  | ((with_reducible refine at_name "_law_under" ?_); refine we_var 1 rfl (by fail "vis") rfl ?_)
  | ((with_reducible refine at_name "_law_by" ?_); refine we_var 2 rfl (by fail "vis") rfl ?_))
theorem ok_law_pair (T : Tx K mg w) : FnG P w K mg base CX0 (2 + 1) (He.ga K "_law_pair") (spD (Cs K w) S_law_pair) := by
  obtain ⟨fd, Fd⟩ := T.e_law_pair
  have b := Fd.bindsN (ps := ["_law_above", "_law_under"]) fun _ _ _ _ _ _ us hl => match us, hl with | [_, _], _ => rfl
  refine fn_D [] Fd sc_law_pair b .nil (fun _ _ => .nil) (fun ds M Φ h => by obtain ⟨a, u, rfl, hu, hb, h⟩ := h; rfl) ?_
  rintro cdv A outer s H as M Φ hr ⟨a, u, rfl, hu, hb, h⟩
  refine wss_cons (ws_set 2 sc_law_pair.nd rfl (.inl rfl) ?_)
  repeat fail "x"
  refine ⟨_, _, rfl, ?_⟩
  have hu' : u ≠ 0 := by omega
  repeat fail "e"
  refine wo_fdiv (wide_div (gcd_pos hu') (gcd_lt hu' hb) (by decide) (by decide)) ?_
  repeat fail "x"
  refine wo_fdiv (wide_div (gcd_pos hu') (gcd_lt hu' hb) (by decide) (by decide)) ?_
  repeat fail "x"
  have e1 := top_eq (a := a) hu'
  have e2 := bot_eq (a := a) hu'
  rw [if_neg (by omega), Int.one_mul] at e1 e2
  rw [e1, e2]
  exact h
end
local macro_rules | `(tactic| fail "c") => `(tactic| ((with_reducible refine at_call "_law_pair" ?_); refine we_call (ok_law_pair (by assumption)) (Rm.mono (by assumption) (by decide)) rfl (Tx.g_law_pair (by assumption)).1 (Tx.g_law_pair (by assumption)).2 ?_))
def S_law_plus : FS := fun ds M Φ => ∃ (p q : Rat) (B : Nat), ds = [rt p, rt q] ∧ B ≤ 4400 ∧ Bz B p ∧ Bz B q ∧ Φ (rt (p + q)) M
section
local macro_rules | `(tactic| fail "v") => `(tactic| first
  | ((with_reducible refine at_name "_law_one" ?_); refine we_var 0 rfl (by fail "vis") rfl ?_)
  | ((with_reducible refine at_name "_law_other" ?_); refine we_var 1 rfl (by fail "vis") rfl ?_))
theorem ok_law_plus (T : Tx K mg w) : FnG P w K mg base CX0 (3 + 1) (He.ga K "_law_plus") (spD (Cs K w) S_law_plus) := by
  obtain ⟨fd, Fd⟩ := T.e_law_plus
  have b := Fd.bindsN (ps := ["_law_one", "_law_other"]) fun _ _ _ _ _ _ us hl => match us, hl with | [_, _], _ => rfl
  refine fn_D [] Fd sc_law_plus b .nil (fun _ _ => .nil) (fun ds M Φ h => by obtain ⟨p, q, B, rfl, hB, bp, bq, h⟩ := h; rfl) ?_
  rintro cdv A outer s H as M Φ hr ⟨p, q, B, rfl, hB, bp, bq, h⟩
  repeat fail "e"
  refine wo_mul (big_mul hB bp.n (den_lt bq)) ?_
  repeat fail "x"
  refine wo_mul (big_mul hB bq.n (den_lt bp)) ?_
  repeat fail "x"
  refine wo_mul (big_mul hB (den_lt bp) (den_lt bq)) ?_
  repeat fail "x"
  refine ⟨_, _, rfl, Int.mul_pos (rat_den_pos p) (rat_den_pos q), big_lt (by omega) (mul_lt (den_lt bp) (den_lt bq)), ?_⟩
  rw [← rat_add]; exact h
end
local macro_rules | `(tactic| fail "c") => `(tactic| ((with_reducible refine at_call "_law_plus" ?_); refine we_call (ok_law_plus (by assumption)) (Rm.mono (by assumption) (by decide)) rfl (Tx.g_law_plus (by assumption)).1 (Tx.g_law_plus (by assumption)).2 ?_))
def S_law_times : FS := fun ds M Φ => ∃ (p q : Rat) (B : Nat), ds = [rt p, rt q] ∧ B ≤ 4400 ∧ Bz B p ∧ Bz B q ∧ Φ (rt (p * q)) M
section
local macro_rules | `(tactic| fail "v") => `(tactic| first
  | ((with_reducible refine at_name "_law_one" ?_); refine we_var 0 rfl (by fail "vis") rfl ?_)
  | ((with_reducible refine at_name "_law_other" ?_); refine we_var 1 rfl (by fail "vis") rfl ?_))
theorem ok_law_times (T : Tx K mg w) : FnG P w K mg base CX0 (3 + 1) (He.ga K "_law_times") (spD (Cs K w) S_law_times) := by
  obtain ⟨fd, Fd⟩ := T.e_law_times
  have b := Fd.bindsN (ps := ["_law_one", "_law_other"]) fun _ _ _ _ _ _ us hl => match us, hl with | [_, _], _ => rfl
  refine fn_D [] Fd sc_law_times b .nil (fun _ _ => .nil) (fun ds M Φ h => by obtain ⟨p, q, B, rfl, hB, bp, bq, h⟩ := h; rfl) ?_
  rintro cdv A outer s H as M Φ hr ⟨p, q, B, rfl, hB, bp, bq, h⟩
  repeat fail "e"
  refine wo_mul (big_mul hB bp.n bq.n) ?_
  repeat fail "x"
  refine wo_mul (big_mul hB (den_lt bp) (den_lt bq)) ?_
  repeat fail "x"
  refine ⟨_, _, rfl, Int.mul_pos (rat_den_pos p) (rat_den_pos q), big_lt (by omega) (mul_lt (den_lt bp) (den_lt bq)), ?_⟩
  rw [← rat_mul]; exact h
end
local macro_rules | `(tactic| fail "c") => `(tactic| ((with_reducible refine at_call "_law_times" ?_); refine we_call (ok_law_times (by assumption)) (Rm.mono (by assumption) (by decide)) rfl (Tx.g_law_times (by assumption)).1 (Tx.g_law_times (by assumption)).2 ?_))
theorem num_pos {q : Rat} (h : 0 < q) : 0 < q.num := by
  have := Rat.num_nonneg.mpr (Rat.le_of_lt h)
  have := num_ne (Rat.ne_of_gt h)
  omega
def S_law_over : FS := fun ds M Φ => ∃ (p q : Rat) (B : Nat), ds = [rt p, rt q] ∧ 0 < q ∧ B ≤ 4400 ∧ Bz B p ∧ Bz B q ∧ Φ (rt (p / q)) M
section
local macro_rules | `(tactic| fail "v") => `(tactic| first
  | ((with_reducible refine at_name "_law_one" ?_); refine we_var 0 rfl (by fail "vis") rfl ?_)
  | ((with_reducible refine at_name "_law_other" ?_); refine we_var 1 rfl (by fail "vis") rfl ?_))
theorem ok_law_over (T : Tx K mg w) : FnG P w K mg base CX0 (3 + 1) (He.ga K "_law_over") (spD (Cs K w) S_law_over) := by
  obtain ⟨fd, Fd⟩ := T.e_law_over
  have b := Fd.bindsN (ps := ["_law_one", "_law_other"]) fun _ _ _ _ _ _ us hl => match us, hl with | [_, _], _ => rfl
  refine fn_D [] Fd sc_law_over b .nil (fun _ _ => .nil) (fun ds M Φ h => by obtain ⟨p, q, B, rfl, hq, hB, bp, bq, h⟩ := h; rfl) ?_
  rintro cdv A outer s H as M Φ hr ⟨p, q, B, rfl, hq, hB, bp, bq, h⟩
  repeat fail "e"
  refine wo_mul (big_mul hB bp.n (den_lt bq)) ?_
  repeat fail "x"
  refine wo_mul (big_mul hB (den_lt bp) bq.n) ?_
  repeat fail "x"
  refine ⟨_, _, rfl, Int.mul_pos (rat_den_pos p) (num_pos hq), big_lt (by omega) (mul_lt (den_lt bp) bq.n), ?_⟩
  rw [← rat_div]; exact h
end
local macro_rules | `(tactic| fail "c") => `(tactic| ((with_reducible refine at_call "_law_over" ?_); refine we_call (ok_law_over (by assumption)) (Rm.mono (by assumption) (by decide)) rfl (Tx.g_law_over (by assumption)).1 (Tx.g_law_over (by assumption)).2 ?_))
end Lw
namespace Lw
open PySem PySem.Spec PyProof.Rows L2 DL
variable {w : World} {K : PySem.W.Frag} {mg : Str → Option Value} {base : Heap}
open SX (S)
local macro_rules | `(tactic| fail "n") => `(tactic| conv => whnf)
local macro_rules | `(tactic| fail "d") => `(tactic| first | assumption | (apply Ne.symm; assumption))
local macro_rules | `(tactic| fail "m") => `(tactic| first | exact put_same | assumption | exact (put_ne (by fail "d")).trans (by fail "m") | exact put_get (by assumption) (by fail "m"))
local macro_rules | `(tactic| fail "sl") => `(tactic| (simp only [SX.S_cat, SX.S_len, List.length_append, List.length_cons, List.length_nil]; omega))
local macro_rules | `(tactic| fail "l") => `(tactic| (fail "n"; first | refine ⟨by (simp only [List.length_cons, List.length_nil]; decide), ?_⟩ | fail "stop"))
def so (v r : Rat) : D := .obj 4 [amt r, amt v]
def S_check_ratio : FS := fun ds M Φ => ∃ q : Rat, ds = [rt q] ∧ 0 ≤ q ∧ Φ .non M
section
local macro_rules | `(tactic| fail "v") => `(tactic| first
  | ((with_reducible refine at_name "value" ?_); refine we_var 0 rfl (by fail "vis") rfl ?_))
theorem ok_check_ratio (T : Tx K mg w) : FnG P w K mg base CX0 (3 + 1) (He.ga K "check_ratio") (spD (Cs K w) S_check_ratio) := by
  obtain ⟨fd, Fd⟩ := T.e_check_ratio
  have b := Fd.bindsN (ps := ["value"]) fun _ _ _ _ _ _ us hl => match us, hl with | [_], _ => rfl
  refine fn_D [] Fd sc_check_ratio b .nil (fun _ _ => .nil) (fun ds M Φ h => by obtain ⟨q, rfl, hq, h⟩ := h <;> rfl) ?_
  rintro cdv A outer s H as M Φ hr ⟨q, rfl, hq, h⟩
  (apply run_of; (· exact (sss_one (ss_if (st_not (st_val (se_call (ok_is_ratio T) (hr.mono (by decide)) rfl T.g_is_ratio.1 T.g_is_ratio.2 (sa_cons (se_var 0 rfl (by first | exact .inl rfl | exact .inr (.inl rfl) | exact .inr (.inr rfl))) sa_nil)))) (sss_one ss_no) sss_nil))))
  fail "n"
  refine ⟨q, rfl, hq, ?_⟩
  fail "n"
  exact h
end
def S_Source_init : FS := fun ds M Φ => ∃ (a dx : Addr) (v r : Rat), ds = [.ref a, rt v, rt r] ∧ M a = some (.slt 4 dx []) ∧ 0 ≤ v ∧ 0 ≤ r ∧ Bz 9000 v ∧ Bz 9000 r ∧ Φ .non (put M a (.slt 4 dx [some (amt r), some (amt v)]))
section
local macro_rules | `(tactic| fail "v") => `(tactic| first
  | ((with_reducible refine at_name "self" ?_); refine we_var 0 rfl (by fail "vis") rfl ?_)
  | ((with_reducible refine at_name "volts" ?_); refine we_var 1 rfl (by fail "vis") rfl ?_)
  | ((with_reducible refine at_name "ohms" ?_); refine we_var 2 rfl (by fail "vis") rfl ?_))
theorem ok_Source_init (T : Tx K mg w) : FnG P w K mg base CX0 (5 + 1) (He.ma K (He.ga K "Source") "__init__") (spD (Cs K w) S_Source_init) := by
  obtain ⟨fd, Fd⟩ := T.e_Source_init
  have b := Fd.bindsN (ps := ["self", "volts", "ohms"]) fun _ _ _ _ _ _ us hl => match us, hl with | [_, _, _], _ => rfl
  refine fn_D [] Fd sc_Source_init b .nil (fun _ _ => .nil) (fun ds M Φ h => by obtain ⟨a, dx, v, r, rfl, hM, hv, hr0, bv, br, h⟩ := h <;> rfl) ?_
  rintro cdv A outer s H as M Φ hr ⟨a, dx, v, r, rfl, hM, hv, hr0, bv, br, h⟩
  (apply run_of; (· exact (sss_cons (ss_expr (se_call (ok_check_ratio T) (hr.mono (by decide)) rfl T.g_check_ratio.1 T.g_check_ratio.2 (sa_cons (se_var 1 rfl (by first | exact .inl rfl | exact .inr (.inl rfl) | exact .inr (.inr rfl))) sa_nil))) (sss_cons (ss_expr (se_call (ok_check_ratio T) (hr.mono (by decide)) rfl T.g_check_ratio.1 T.g_check_ratio.2 (sa_cons (se_var 2 rfl (by first | exact .inl rfl | exact .inr (.inl rfl) | exact .inr (.inr rfl))) sa_nil))) (sss_cons (ss_slot (c := 4) T.c_Source T.sl_Source_own_volts (se_call (ok_amount_of T) (hr.mono (by decide)) rfl T.g_amount_of.1 T.g_amount_of.2 (sa_cons (se_var 1 rfl (by first | exact .inl rfl | exact .inr (.inl rfl) | exact .inr (.inr rfl))) sa_nil)) (se_var 0 rfl (by first | exact .inl rfl | exact .inr (.inl rfl) | exact .inr (.inr rfl)))) (sss_one (ss_slot (c := 4) T.c_Source T.sl_Source_own_ohms (se_call (ok_amount_of T) (hr.mono (by decide)) rfl T.g_amount_of.1 T.g_amount_of.2 (sa_cons (se_var 2 rfl (by first | exact .inl rfl | exact .inr (.inl rfl) | exact .inr (.inr rfl))) sa_nil)) (se_var 0 rfl (by first | exact .inl rfl | exact .inr (.inl rfl) | exact .inr (.inr rfl))))))))))
  fail "n"
  refine ⟨v, rfl, hv, ?_⟩
  fail "n"
  refine ⟨r, rfl, hr0, ?_⟩
  fail "n"
  refine ⟨v, _, rfl, Nat.le_refl _, bv, ?_⟩
  fail "n"
  refine ⟨_, hM, ?_⟩
  fail "n"
  refine ⟨r, _, rfl, Nat.le_refl _, br, ?_⟩
  fail "n"
  refine ⟨_, put_same, ?_⟩
  fail "n"
  rw [put_put]
  exact h
end
def Sm_Source : FS := fun ds M Φ => ∃ v r : Rat, ds = [rt v, rt r] ∧ 0 ≤ v ∧ 0 ≤ r ∧ Bz 9000 v ∧ Bz 9000 r ∧ Φ (so v r) M
theorem mk_Source : MkOk 4 S_Source_init Sm_Source := by
  rintro ds M Φ ⟨v, r, rfl, hv, hr, bv, br, hΦ⟩ a dx ha hdx hne
  refine ⟨a, dx, v, r, rfl, put_same, hv, hr, bv, br, rfl, [_, _], by simp, put_same, ?_⟩
  rw [put_put, era_put (by rw [put_ne (Ne.symm hne)]; exact ha), era_put hdx]
  exact hΦ
section
local macro_rules | `(tactic| fail "v") => `(tactic| first
  | ((with_reducible refine at_name "source" ?_); refine we_var 0 rfl (by fail "vis") rfl ?_)
  | ((with_reducible refine at_name "draw" ?_); refine we_var 1 rfl (by fail "vis") rfl ?_))
end
section
local macro_rules | `(tactic| fail "v") => `(tactic| first
  | ((with_reducible refine at_name "source" ?_); refine we_var 0 rfl (by fail "vis") rfl ?_)
  | ((with_reducible refine at_name "draw" ?_); refine we_var 1 rfl (by fail "vis") rfl ?_))
end
end Lw
namespace Lw
open PySem PySem.Spec PyProof.Rows L2 DL
variable {w : World} {K : PySem.W.Frag} {mg : Str → Option Value} {base : Heap}
open SX (S)
local macro_rules | `(tactic| fail "n") => `(tactic| conv => whnf)
local macro_rules | `(tactic| fail "d") => `(tactic| first | assumption | (apply Ne.symm; assumption))
local macro_rules | `(tactic| fail "m") => `(tactic| first | exact put_same | assumption | exact (put_ne (by fail "d")).trans (by fail "m") | exact put_get (by assumption) (by fail "m"))
local macro_rules | `(tactic| fail "sl") => `(tactic| (simp only [SX.S_cat, SX.S_len, List.length_append, List.length_cons, List.length_nil]; omega))
local macro_rules | `(tactic| fail "l") => `(tactic| (fail "n"; first | refine ⟨by (simp only [List.length_cons, List.length_nil]; decide), ?_⟩ | fail "stop"))
theorem isi_int (T : Tx K mg w) : ∀ t : Tn, PySem.W.kitOne K (.type t.nm) (.type "int") = some (t.isA .int) := by
  intro t; cases t
  · exact T.kt_NoneType_int
  · exact T.kt_bool_int
  · exact T.kt_int_int
  · exact T.kt_str_int
  · exact T.kt_tuple_int
  · exact T.kt_list_int
  · exact T.kt_dict_int
theorem iso_int (T : Tx K mg w) : IsiO (Cs K w) K .int [0, 4] := ⟨⟨T.c_Amount, T.i_Amount, T.kt_Amount_int⟩, ⟨T.c_Source, T.i_Source, T.kt_Source_int⟩, trivial⟩
theorem isi_bool (T : Tx K mg w) : ∀ t : Tn, PySem.W.kitOne K (.type t.nm) (.type "bool") = some (t.isA .bl) := by
  intro t; cases t
  · exact T.kt_NoneType_bool
  · exact T.kt_bool_bool
  · exact T.kt_int_bool
  · exact T.kt_str_bool
  · exact T.kt_tuple_bool
  · exact T.kt_list_bool
  · exact T.kt_dict_bool
theorem iso_bool (T : Tx K mg w) : IsiO (Cs K w) K .bl [0, 4] := ⟨⟨T.c_Amount, T.i_Amount, T.kt_Amount_bool⟩, ⟨T.c_Source, T.i_Source, T.kt_Source_bool⟩, trivial⟩
theorem isc_Amount (T : Tx K mg w) : ∀ t : Tn, PySem.W.kitOne K (.type t.nm) (.ref (He.ga K "Amount")) = some false := by
  intro t; cases t
  · exact T.kt_NoneType_Amount
  · exact T.kt_bool_Amount
  · exact T.kt_int_Amount
  · exact T.kt_str_Amount
  · exact T.kt_tuple_Amount
  · exact T.kt_list_Amount
  · exact T.kt_dict_Amount
theorem isk_Amount (T : Tx K mg w) : IsiK (Cs K w) K 0 [0, 4] := ⟨⟨T.c_Amount, T.i_Amount, T.kt_Amount_Amount⟩, ⟨T.c_Source, T.i_Source, T.kt_Source_Amount⟩, trivial⟩
theorem isc_Source (T : Tx K mg w) : ∀ t : Tn, PySem.W.kitOne K (.type t.nm) (.ref (He.ga K "Source")) = some false := by
  intro t; cases t
  · exact T.kt_NoneType_Source
  · exact T.kt_bool_Source
  · exact T.kt_int_Source
  · exact T.kt_str_Source
  · exact T.kt_tuple_Source
  · exact T.kt_list_Source
  · exact T.kt_dict_Source
theorem isk_Source (T : Tx K mg w) : IsiK (Cs K w) K 4 [0, 4] := ⟨⟨T.c_Amount, T.i_Amount, T.kt_Amount_Source⟩, ⟨T.c_Source, T.i_Source, T.kt_Source_Source⟩, trivial⟩
/-! what is no ratio -/
def isInt (lo : Int) : D → Bool
  | .int i => decide (lo ≤ i)
  | _ => false
section
local macro_rules | `(tactic| fail "v") => `(tactic| first
  | ((with_reducible refine at_name "value" ?_); refine we_var 0 rfl (by fail "vis") rfl ?_)
  | ((with_reducible refine at_name "low" ?_); refine we_var 1 rfl (by fail "vis") rfl ?_)
  | ((with_reducible refine at_name "high" ?_); refine we_var 2 rfl (by fail "vis") rfl ?_))
end
section
local macro_rules | `(tactic| fail "v") => `(tactic| first
  | ((with_reducible refine at_name "value" ?_); refine we_var 0 rfl (by fail "vis") rfl ?_))
end
section
local macro_rules | `(tactic| fail "v") => `(tactic| first
  | ((with_reducible refine at_name "value" ?_); refine we_var 0 rfl (by fail "vis") rfl ?_))
end
section
local macro_rules | `(tactic| fail "v") => `(tactic| first
  | ((with_reducible refine at_name "self" ?_); refine we_var 0 rfl (by fail "vis") rfl ?_)
  | ((with_reducible refine at_name "volts" ?_); refine we_var 1 rfl (by fail "vis") rfl ?_)
  | ((with_reducible refine at_name "ohms" ?_); refine we_var 2 rfl (by fail "vis") rfl ?_))
end
end Lw
namespace Lw
open PySem PySem.Spec PyProof.Rows L2 DL
variable {w : World} {K : PySem.W.Frag} {mg : Str → Option Value} {base : Heap}
open SX (S)
local macro_rules | `(tactic| fail "n") => `(tactic| conv => whnf)
local macro_rules | `(tactic| fail "d") => `(tactic| first | assumption | (apply Ne.symm; assumption))
local macro_rules | `(tactic| fail "m") => `(tactic| first | exact put_same | assumption | exact (put_ne (by fail "d")).trans (by fail "m") | exact put_get (by assumption) (by fail "m"))
local macro_rules | `(tactic| fail "sl") => `(tactic| (simp only [SX.S_cat, SX.S_len, List.length_append, List.length_cons, List.length_nil]; omega))
local macro_rules | `(tactic| fail "l") => `(tactic| (fail "n"; first | refine ⟨by (simp only [List.length_cons, List.length_nil]; decide), ?_⟩ | fail "stop"))
structure Nn (B : Nat) (v r : Rat) : Prop where
  v0 : 0 ≤ v
  r0 : 0 ≤ r
  bv : Bz B v
  br : Bz B r
theorem q_div_nn {a b : Rat} (ha : 0 ≤ a) (hb : 0 < b) : 0 ≤ a / b := by
  rw [Rat.div_def]
  exact Rat.mul_nonneg ha (Rat.le_of_lt (Rat.inv_pos.mpr hb))
def S_Source_volts : FS := fun ds M Φ => ∃ v r : Rat, ds = [so v r] ∧ Φ (rt v) M
section
local macro_rules | `(tactic| fail "v") => `(tactic| first
  | ((with_reducible refine at_name "self" ?_); refine we_var 0 rfl (by fail "vis") rfl ?_))
theorem ok_Source_volts (T : Tx K mg w) : FnG P w K mg base CX0 (6 + 1) (He5.wf K (He.ga K "Source") "property" "volts") (spD (Cs K w) S_Source_volts) := by
  obtain ⟨fd, Fd⟩ := T.e_Source_volts
  have b := Fd.bindsN (ps := ["self"]) fun _ _ _ _ _ _ us hl => match us, hl with | [_], _ => rfl
  refine fn_D [] Fd sc_Source_volts b .nil (fun _ _ => .nil) (fun ds M Φ h => by obtain ⟨v, r, rfl, h⟩ := h <;> rfl) ?_
  rintro cdv A outer s H as M Φ hr ⟨v, r, rfl, h⟩
  (apply run_of; (· exact (sss_one (ss_ret (se_attr (se_attr (se_var 0 rfl (by first | exact .inl rfl | exact .inr (.inl rfl) | exact .inr (.inr rfl))) (sat _ (.cons (n := 4) (S := .slot 1) ⟨T.c_Source, _, T.sl_Source_own_volts⟩ .nil))) (sat _ (.cons (n := 0) (S := .prop S_Amount_pair) ⟨T.c_Amount, _, _, _, T.p_Amount_pair, ok_Amount_pair T, (hr.mono (by decide))⟩ .nil)))))))
  fail "n"
  exact ⟨v, rfl, h⟩
end
def S_Source_ohms : FS := fun ds M Φ => ∃ v r : Rat, ds = [so v r] ∧ Φ (rt r) M
section
local macro_rules | `(tactic| fail "v") => `(tactic| first
  | ((with_reducible refine at_name "self" ?_); refine we_var 0 rfl (by fail "vis") rfl ?_))
theorem ok_Source_ohms (T : Tx K mg w) : FnG P w K mg base CX0 (6 + 1) (He5.wf K (He.ga K "Source") "property" "ohms") (spD (Cs K w) S_Source_ohms) := by
  obtain ⟨fd, Fd⟩ := T.e_Source_ohms
  have b := Fd.bindsN (ps := ["self"]) fun _ _ _ _ _ _ us hl => match us, hl with | [_], _ => rfl
  refine fn_D [] Fd sc_Source_ohms b .nil (fun _ _ => .nil) (fun ds M Φ h => by obtain ⟨v, r, rfl, h⟩ := h <;> rfl) ?_
  rintro cdv A outer s H as M Φ hr ⟨v, r, rfl, h⟩
  (apply run_of; (· exact (sss_one (ss_ret (se_attr (se_attr (se_var 0 rfl (by first | exact .inl rfl | exact .inr (.inl rfl) | exact .inr (.inr rfl))) (sat _ (.cons (n := 4) (S := .slot 0) ⟨T.c_Source, _, T.sl_Source_own_ohms⟩ .nil))) (sat _ (.cons (n := 0) (S := .prop S_Amount_pair) ⟨T.c_Amount, _, _, _, T.p_Amount_pair, ok_Amount_pair T, (hr.mono (by decide))⟩ .nil)))))))
  fail "n"
  exact ⟨r, rfl, h⟩
end
def S_source_of : FS := fun ds M Φ => ∃ v r : Rat, ds = [amt v, amt r] ∧ Nn 9000 v r ∧ Φ (so v r) M
section
local macro_rules | `(tactic| fail "v") => `(tactic| first
  | ((with_reducible refine at_name "volts" ?_); refine we_var 0 rfl (by fail "vis") rfl ?_)
  | ((with_reducible refine at_name "ohms" ?_); refine we_var 1 rfl (by fail "vis") rfl ?_))
theorem ok_source_of (T : Tx K mg w) : FnG P w K mg base CX0 (8 + 1) (He.ga K "source_of") (spD (Cs K w) S_source_of) := by
  obtain ⟨fd, Fd⟩ := T.e_source_of
  have b := Fd.bindsN (ps := ["volts", "ohms"]) fun _ _ _ _ _ _ us hl => match us, hl with | [_, _], _ => rfl
  refine fn_D [] Fd sc_source_of b .nil (fun _ _ => .nil) (fun ds M Φ h => by obtain ⟨v, r, rfl, hn, h⟩ := h <;> rfl) ?_
  rintro cdv A outer s H as M Φ hr ⟨v, r, rfl, hn, h⟩
  (apply run_of; (· exact (sss_one (ss_ret (se_make (n := 4) T.mk_Source (ok_Source_init T) mk_Source (hr.mono (by decide)) rfl T.g_Source.1 (sa_cons (se_attr (se_var 0 rfl (by first | exact .inl rfl | exact .inr (.inl rfl) | exact .inr (.inr rfl))) (sat _ (.cons (n := 0) (S := .prop S_Amount_pair) ⟨T.c_Amount, _, _, _, T.p_Amount_pair, ok_Amount_pair T, (hr.mono (by decide))⟩ .nil))) (sa_cons (se_attr (se_var 1 rfl (by first | exact .inl rfl | exact .inr (.inl rfl) | exact .inr (.inr rfl))) (sat _ (.cons (n := 0) (S := .prop S_Amount_pair) ⟨T.c_Amount, _, _, _, T.p_Amount_pair, ok_Amount_pair T, (hr.mono (by decide))⟩ .nil))) sa_nil)))))))
  fail "n"
  refine ⟨v, rfl, ?_⟩
  fail "n"
  refine ⟨r, rfl, ?_⟩
  fail "n"
  exact ⟨v, r, rfl, hn.v0, hn.r0, hn.bv, hn.br, h⟩
end
section
local macro_rules | `(tactic| fail "v") => `(tactic| first
  | ((with_reducible refine at_name "self" ?_); refine we_var 0 rfl (by fail "vis") rfl ?_)
  | ((with_reducible refine at_name "load" ?_); refine we_var 1 rfl (by fail "vis") rfl ?_))
end
section
local macro_rules | `(tactic| fail "v") => `(tactic| first
  | ((with_reducible refine at_name "self" ?_); refine we_var 0 rfl (by fail "vis") rfl ?_)
  | ((with_reducible refine at_name "load" ?_); refine we_var 1 rfl (by fail "vis") rfl ?_)
  | ((with_reducible refine at_name "share" ?_); refine we_var 2 rfl (by fail "vis") rfl ?_))
end
def S_Source_eq : FS := fun ds M Φ => ∃ (v r x t : Rat), ds = [so v r, so x t] ∧ Φ (.bl (decide (v = x) && decide (r = t))) M
section
local macro_rules | `(tactic| fail "v") => `(tactic| first
  | ((with_reducible refine at_name "self" ?_); refine we_var 0 rfl (by fail "vis") rfl ?_)
  | ((with_reducible refine at_name "other" ?_); refine we_var 1 rfl (by fail "vis") rfl ?_))
theorem ok_Source_eq (T : Tx K mg w) : FnG P w K mg base CX0 (8 + 1) (He.ma K (He.ga K "Source") "__eq__") (spD (Cs K w) S_Source_eq) := by
  obtain ⟨fd, Fd⟩ := T.e_Source_eq
  have b := Fd.bindsN (ps := ["self", "other"]) fun _ _ _ _ _ _ us hl => match us, hl with | [_, _], _ => rfl
  refine fn_D [] Fd sc_Source_eq b .nil (fun _ _ => .nil) (fun ds M Φ h => by obtain ⟨v, r, x, t, rfl, h⟩ := h <;> rfl) ?_
  rintro cdv A outer s H as M Φ hr ⟨v, r, x, t, rfl, h⟩
  (apply run_of; (· exact (sss_one (ss_ret (se_and (se_isiC 4 (isc_Source T) (isk_Source T) rfl T.f_isinstance (se_var 1 rfl (by first | exact .inl rfl | exact .inr (.inl rfl) | exact .inr (.inr rfl))) (se_gref rfl T.g_Source.1)) (se_one (se_cmp (se_tup (sa_cons (se_attr (se_var 0 rfl (by first | exact .inl rfl | exact .inr (.inl rfl) | exact .inr (.inr rfl))) (sat _ (.cons (n := 4) (S := .prop S_Source_volts) ⟨T.c_Source, _, _, _, T.p_Source_volts, ok_Source_volts T, (hr.mono (by decide))⟩ .nil))) (sa_cons (se_attr (se_var 0 rfl (by first | exact .inl rfl | exact .inr (.inl rfl) | exact .inr (.inr rfl))) (sat _ (.cons (n := 4) (S := .prop S_Source_ohms) ⟨T.c_Source, _, _, _, T.p_Source_ohms, ok_Source_ohms T, (hr.mono (by decide))⟩ .nil))) sa_nil))) (se_tup (sa_cons (se_attr (se_var 1 rfl (by first | exact .inl rfl | exact .inr (.inl rfl) | exact .inr (.inr rfl))) (sat _ (.cons (n := 4) (S := .prop S_Source_volts) ⟨T.c_Source, _, _, _, T.p_Source_volts, ok_Source_volts T, (hr.mono (by decide))⟩ .nil))) (sa_cons (se_attr (se_var 1 rfl (by first | exact .inl rfl | exact .inr (.inl rfl) | exact .inr (.inr rfl))) (sat _ (.cons (n := 4) (S := .prop S_Source_ohms) ⟨T.c_Source, _, _, _, T.p_Source_ohms, ok_Source_ohms T, (hr.mono (by decide))⟩ .nil))) sa_nil))) (so_eq hr .nil .nil))))))))
  fail "n"
  refine ⟨rfl, ?_⟩
  fail "n"
  refine ⟨v, r, rfl, ?_⟩
  fail "n"
  refine ⟨v, r, rfl, ?_⟩
  fail "n"
  refine ⟨by simp, ?_⟩
  fail "n"
  refine ⟨x, t, rfl, ?_⟩
  fail "n"
  refine ⟨x, t, rfl, ?_⟩
  fail "n"
  refine ⟨by simp, ?_⟩
  fail "n"
  refine ⟨rt2_isPy _ _, rt2_isPy _ _, rt2_shaped _ _, rt2_shaped _ _, ?_⟩
  rw [tup2_eqv, rt_eqv, rt_eqv]
  exact h
end
section
local macro_rules | `(tactic| fail "v") => `(tactic| first
  | ((with_reducible refine at_name "self" ?_); refine we_var 0 rfl (by fail "vis") rfl ?_)
  | ((with_reducible refine at_name "other" ?_); refine we_var 1 rfl (by fail "vis") rfl ?_))
end
/-! ### calls that are refused -/
section
local macro_rules | `(tactic| fail "v") => `(tactic| first
  | ((with_reducible refine at_name "self" ?_); refine we_var 0 rfl (by fail "vis") rfl ?_)
  | ((with_reducible refine at_name "load" ?_); refine we_var 1 rfl (by fail "vis") rfl ?_))
end
section
local macro_rules | `(tactic| fail "v") => `(tactic| first
  | ((with_reducible refine at_name "self" ?_); refine we_var 0 rfl (by fail "vis") rfl ?_)
  | ((with_reducible refine at_name "load" ?_); refine we_var 1 rfl (by fail "vis") rfl ?_)
  | ((with_reducible refine at_name "share" ?_); refine we_var 2 rfl (by fail "vis") rfl ?_))
end
end Lw
namespace Lw
open PySem PySem.Spec PyProof.Rows L2 DL
variable {w : World} {K : PySem.W.Frag} {mg : Str → Option Value} {base : Heap}
open SX (S)
local macro_rules | `(tactic| fail "n") => `(tactic| conv => whnf)
local macro_rules | `(tactic| fail "d") => `(tactic| first | assumption | (apply Ne.symm; assumption))
local macro_rules | `(tactic| fail "m") => `(tactic| first | exact put_same | assumption | exact (put_ne (by fail "d")).trans (by fail "m") | exact put_get (by assumption) (by fail "m"))
local macro_rules | `(tactic| fail "sl") => `(tactic| (simp only [SX.S_cat, SX.S_len, List.length_append, List.length_cons, List.length_nil]; omega))
local macro_rules | `(tactic| fail "l") => `(tactic| (fail "n"; first | refine ⟨by (simp only [List.length_cons, List.length_nil]; decide), ?_⟩ | fail "stop"))
def Sm_Amount1 : FS := fun ds M Φ => ∃ n : Int, ds = [.int n] ∧ n.natAbs < 2 ^ 100000 ∧ Φ (amt (Rat.divInt n 1)) M
theorem mk_Amount1 : MkOk 0 S_Amount_init1 Sm_Amount1 := by
  rintro ds M Φ ⟨n, rfl, hn, hΦ⟩ a dx ha hdx hne
  refine ⟨a, dx, n, rfl, put_same, hn, rfl, [_, _], by simp, put_same, ?_⟩
  rw [put_put, era_put (by rw [put_ne (Ne.symm hne)]; exact ha), era_put hdx]
  exact hΦ
def S_Amount_eq : FS := fun ds M Φ => ∃ (p q : Rat), ds = [amt p, amt q] ∧ Φ (.bl (decide (p = q))) M
section
local macro_rules | `(tactic| fail "v") => `(tactic| first
  | ((with_reducible refine at_name "self" ?_); refine we_var 0 rfl (by fail "vis") rfl ?_)
  | ((with_reducible refine at_name "other" ?_); refine we_var 1 rfl (by fail "vis") rfl ?_))
theorem ok_Amount_eq (T : Tx K mg w) : FnG P w K mg base CX0 (9 + 1) (He.ma K (He.ga K "Amount") "__eq__") (spD (Cs K w) S_Amount_eq) := by
  obtain ⟨fd, Fd⟩ := T.e_Amount_eq
  have b := Fd.bindsN (ps := ["self", "other"]) fun _ _ _ _ _ _ us hl => match us, hl with | [_, _], _ => rfl
  refine fn_D [] Fd sc_Amount_eq b .nil (fun _ _ => .nil) (fun ds M Φ h => by obtain ⟨p, q, rfl, h⟩ := h <;> rfl) ?_
  rintro cdv A outer s H as M Φ hr ⟨p, q, rfl, h⟩
  (apply run_of; (· exact (sss_one (ss_ret (se_and (se_isiC 0 (isc_Amount T) (isk_Amount T) rfl T.f_isinstance (se_var 1 rfl (by first | exact .inl rfl | exact .inr (.inl rfl) | exact .inr (.inr rfl))) (se_gref rfl T.g_Amount.1)) (se_one (se_cmp (se_attr (se_var 0 rfl (by first | exact .inl rfl | exact .inr (.inl rfl) | exact .inr (.inr rfl))) (sat _ (.cons (n := 0) (S := .prop S_Amount_pair) ⟨T.c_Amount, _, _, _, T.p_Amount_pair, ok_Amount_pair T, (hr.mono (by decide))⟩ .nil))) (se_attr (se_var 1 rfl (by first | exact .inl rfl | exact .inr (.inl rfl) | exact .inr (.inr rfl))) (sat _ (.cons (n := 0) (S := .prop S_Amount_pair) ⟨T.c_Amount, _, _, _, T.p_Amount_pair, ok_Amount_pair T, (hr.mono (by decide))⟩ .nil))) (so_eq hr (.cons (n := 4) (S := S_Source_eq) ⟨_, _, T.nf_Source, T.o_Source_eq.1, T.o_Source_eq.2, ok_Source_eq T, (hr.mono (by decide))⟩ .nil) .nil))))))))
  fail "n"
  refine ⟨rfl, ?_⟩
  fail "n"
  refine ⟨p, rfl, ?_⟩
  fail "n"
  refine ⟨q, rfl, ?_⟩
  fail "n"
  refine ⟨rt_isPy _, rt_isPy _, rt_shaped _, rt_shaped _, ?_⟩
  rw [rt_eqv]
  exact h
end
theorem rat_pos_of {a : Rat} (h0 : 0 ≤ a) (hn : ¬ a = 0) : 0 < a := by
  rcases Rat.le_iff_lt_or_eq.mp h0 with h | h
  · exact h
  · exact absurd h.symm hn
def S_Source_add : FS := fun ds M Φ => ∃ (v r x t : Rat) (B : Nat), ds = [so v r, so x t] ∧ B ≤ 1000 ∧ Nn B v r ∧ Nn B x t ∧ Φ (so (v + x) (r + t)) M
section
local macro_rules | `(tactic| fail "v") => `(tactic| first
  | ((with_reducible refine at_name "self" ?_); refine we_var 0 rfl (by fail "vis") rfl ?_)
  | ((with_reducible refine at_name "other" ?_); refine we_var 1 rfl (by fail "vis") rfl ?_))
theorem ok_Source_add (T : Tx K mg w) : FnG P w K mg base CX0 (9 + 1) (He.ma K (He.ga K "Source") "__add__") (spD (Cs K w) S_Source_add) := by
  obtain ⟨fd, Fd⟩ := T.e_Source_add
  have b := Fd.bindsN (ps := ["self", "other"]) fun _ _ _ _ _ _ us hl => match us, hl with | [_, _], _ => rfl
  refine fn_D [] Fd sc_Source_add b .nil (fun _ _ => .nil) (fun ds M Φ h => by obtain ⟨v, r, x, t, B, rfl, hB, h1, h2, h⟩ := h <;> rfl) ?_
  rintro cdv A outer s H as M Φ hr ⟨v, r, x, t, B, rfl, hB, h1, h2, h⟩
  (apply run_of; (· exact (sss_cons (ss_if (st_not (st_val (se_isiC 4 (isc_Source T) (isk_Source T) rfl T.f_isinstance (se_var 1 rfl (by first | exact .inl rfl | exact .inr (.inl rfl) | exact .inr (.inr rfl))) (se_gref rfl T.g_Source.1)))) (sss_one ss_no) sss_nil) (sss_one (ss_ret (se_call (ok_source_of T) (hr.mono (by decide)) rfl T.g_source_of.1 T.g_source_of.2 (sa_cons (se_bin (se_attr (se_var 0 rfl (by first | exact .inl rfl | exact .inr (.inl rfl) | exact .inr (.inr rfl))) (sat _ (.cons (n := 4) (S := .slot 1) ⟨T.c_Source, _, T.sl_Source_own_volts⟩ .nil))) (se_attr (se_var 1 rfl (by first | exact .inl rfl | exact .inr (.inl rfl) | exact .inr (.inr rfl))) (sat _ (.cons (n := 4) (S := .slot 1) ⟨T.c_Source, _, T.sl_Source_own_volts⟩ .nil))) (so_add (.cons (n := 0) (S := S_Amount_add) ⟨_, _, T.sf_Amount, T.o_Amount_add.1, T.o_Amount_add.2, ok_Amount_add T, (hr.mono (by decide))⟩ .nil))) (sa_cons (se_bin (se_attr (se_var 0 rfl (by first | exact .inl rfl | exact .inr (.inl rfl) | exact .inr (.inr rfl))) (sat _ (.cons (n := 4) (S := .slot 0) ⟨T.c_Source, _, T.sl_Source_own_ohms⟩ .nil))) (se_attr (se_var 1 rfl (by first | exact .inl rfl | exact .inr (.inl rfl) | exact .inr (.inr rfl))) (sat _ (.cons (n := 4) (S := .slot 0) ⟨T.c_Source, _, T.sl_Source_own_ohms⟩ .nil))) (so_add (.cons (n := 0) (S := S_Amount_add) ⟨_, _, T.sf_Amount, T.o_Amount_add.1, T.o_Amount_add.2, ok_Amount_add T, (hr.mono (by decide))⟩ .nil))) sa_nil))))))))
  fail "n"
  refine ⟨rfl, ?_⟩
  fail "n"
  refine ⟨v, x, B, rfl, by omega, h1.bv, h2.bv, ?_⟩
  fail "n"
  refine ⟨r, t, B, rfl, by omega, h1.br, h2.br, ?_⟩
  fail "n"
  exact ⟨_, _, rfl, ⟨Rat.add_nonneg h1.v0 h2.v0, Rat.add_nonneg h1.r0 h2.r0, (h1.bv.add h2.bv).mono (by omega), (h1.br.add h2.br).mono (by omega)⟩, h⟩
end
def S_Source_andX : FX := fun ds M Φ Ξ => ∃ (v r x t : Rat) (B : Nat), ds = [so v r, so x t] ∧ B ≤ 1000 ∧ Nn B v r ∧ Nn B x t ∧ (0 < r + t → Φ (so ((v * t + x * r) / (r + t)) (r * t / (r + t))) M) ∧ (r + t = 0 → Ξ 32 (so x t) M)
section
local macro_rules | `(tactic| fail "v") => `(tactic| first
  | ((with_reducible refine at_name "self" ?_); refine we_var 0 rfl (by fail "vis") rfl ?_)
  | ((with_reducible refine at_name "other" ?_); refine we_var 1 rfl (by fail "vis") rfl ?_)
  | ((with_reducible refine at_name "ohms" ?_); refine we_var 2 rfl (by fail "vis") rfl ?_)
  | ((with_reducible refine at_name "volts" ?_); refine we_var 3 rfl (by fail "vis") rfl ?_))
theorem ok_Source_andX (T : Tx K mg w) : FnG P w K mg base (L2.CX P w) (11 + 1) (He.ma K (He.ga K "Source") "__and__") (spX (Cs K w) S_Source_andX) := by
  obtain ⟨fd, Fd⟩ := T.e_Source_and
  have b := Fd.bindsN (ps := ["self", "other"]) fun _ _ _ _ _ _ us hl => match us, hl with | [_, _], _ => rfl
  refine fn_DX [] Fd sc_Source_and b .nil (fun _ _ => .nil) (fun ds M Φ Ξ h => by obtain ⟨v, r, x, t, B, rfl, hB, h1, h2, hk, hx⟩ := h <;> rfl) ?_
  rintro cdv A outer s H as M Φ Ξ E hr ⟨v, r, x, t, B, rfl, hB, h1, h2, hk, hx⟩ tk
  (apply run_of; (· exact (sss_cons (ss_if (st_not (st_val (se_isiC 4 (isc_Source T) (isk_Source T).may rfl T.f_isinstance (se_var 1 rfl (by first | exact .inl rfl | exact .inr (.inl rfl) | exact .inr (.inr rfl))) (se_gref rfl T.g_Source.1)))) (sss_one ss_no) sss_nil) (sss_cons (ss_set 2 sc_Source_and.nd rfl (by first | exact .inl rfl | exact .inr rfl) (se_bin (se_attr (se_var 0 rfl (by first | exact .inl rfl | exact .inr (.inl rfl) | exact .inr (.inr rfl))) (sat _ (.cons (n := 4) (S := .slot 0) ⟨T.c_Source, _, T.sl_Source_own_ohms⟩ .nil))) (se_attr (se_var 1 rfl (by first | exact .inl rfl | exact .inr (.inl rfl) | exact .inr (.inr rfl))) (sat _ (.cons (n := 4) (S := .slot 0) ⟨T.c_Source, _, T.sl_Source_own_ohms⟩ .nil))) (so_add (.cons (n := 0) (S := S_Amount_add) ⟨_, _, T.sf_Amount, T.o_Amount_add.1, T.o_Amount_add.2, (ok_Amount_add T).may, (hr.mono (by decide))⟩ (.cons (n := 4) (S := S_Source_add) ⟨_, _, T.sf_Source, T.o_Source_add.1, T.o_Source_add.2, (ok_Source_add T).may, (hr.mono (by decide))⟩ .nil))))) (sss_cons (ss_if (st_cmp (se_var 2 rfl (by first | exact .inl rfl | exact .inr (.inl rfl) | exact .inr (.inr rfl))) (se_call0 (ok_nought T).may (hr.mono (by decide)) rfl T.g_nought.1 T.g_nought.2) (so_eq hr (.cons (n := 0) (S := S_Amount_eq) ⟨_, _, T.nf_Amount, T.o_Amount_eq.1, T.o_Amount_eq.2, (ok_Amount_eq T).may, (hr.mono (by decide))⟩ (.cons (n := 4) (S := S_Source_eq) ⟨_, _, T.nf_Source, T.o_Source_eq.1, T.o_Source_eq.2, (ok_Source_eq T).may, (hr.mono (by decide))⟩ .nil)) .nil)) (sss_one (ss_raise (n := 32) (k := 0) tk rfl (T.er "Short" (by decide)) T.si T.f_super top_super (hr.mono (by decide)) rfl T.g_Short.1 (se_var 1 rfl (by first | exact .inl rfl | exact .inr (.inl rfl) | exact .inr (.inr rfl))))) sss_nil) (sss_cons (ss_set 3 sc_Source_and.nd rfl (by first | exact .inl rfl | exact .inr rfl) (se_bin (se_bin (se_attr (se_var 0 rfl (by first | exact .inl rfl | exact .inr (.inl rfl) | exact .inr (.inr rfl))) (sat _ (.cons (n := 4) (S := .slot 1) ⟨T.c_Source, _, T.sl_Source_own_volts⟩ .nil))) (se_attr (se_var 1 rfl (by first | exact .inl rfl | exact .inr (.inl rfl) | exact .inr (.inr rfl))) (sat _ (.cons (n := 4) (S := .slot 0) ⟨T.c_Source, _, T.sl_Source_own_ohms⟩ .nil))) (so_mul (.cons (n := 0) (S := S_Amount_mul) ⟨_, _, T.sf_Amount, T.o_Amount_mul.1, T.o_Amount_mul.2, (ok_Amount_mul T).may, (hr.mono (by decide))⟩ .nil))) (se_bin (se_attr (se_var 1 rfl (by first | exact .inl rfl | exact .inr (.inl rfl) | exact .inr (.inr rfl))) (sat _ (.cons (n := 4) (S := .slot 1) ⟨T.c_Source, _, T.sl_Source_own_volts⟩ .nil))) (se_attr (se_var 0 rfl (by first | exact .inl rfl | exact .inr (.inl rfl) | exact .inr (.inr rfl))) (sat _ (.cons (n := 4) (S := .slot 0) ⟨T.c_Source, _, T.sl_Source_own_ohms⟩ .nil))) (so_mul (.cons (n := 0) (S := S_Amount_mul) ⟨_, _, T.sf_Amount, T.o_Amount_mul.1, T.o_Amount_mul.2, (ok_Amount_mul T).may, (hr.mono (by decide))⟩ .nil))) (so_add (.cons (n := 0) (S := S_Amount_add) ⟨_, _, T.sf_Amount, T.o_Amount_add.1, T.o_Amount_add.2, (ok_Amount_add T).may, (hr.mono (by decide))⟩ (.cons (n := 4) (S := S_Source_add) ⟨_, _, T.sf_Source, T.o_Source_add.1, T.o_Source_add.2, (ok_Source_add T).may, (hr.mono (by decide))⟩ .nil))))) (sss_one (ss_ret (se_call (ok_source_of T).may (hr.mono (by decide)) rfl T.g_source_of.1 T.g_source_of.2 (sa_cons (se_meth (c := 0) T.c_Amount T.m_Amount_over (ok_Amount_over T).may (hr.mono (by decide)) (se_var 3 rfl (by first | exact .inl rfl | exact .inr (.inl rfl) | exact .inr (.inr rfl))) (sa_cons (se_var 2 rfl (by first | exact .inl rfl | exact .inr (.inl rfl) | exact .inr (.inr rfl))) sa_nil)) (sa_cons (se_meth (c := 0) T.c_Amount T.m_Amount_over (ok_Amount_over T).may (hr.mono (by decide)) (se_bin (se_attr (se_var 0 rfl (by first | exact .inl rfl | exact .inr (.inl rfl) | exact .inr (.inr rfl))) (sat _ (.cons (n := 4) (S := .slot 0) ⟨T.c_Source, _, T.sl_Source_own_ohms⟩ .nil))) (se_attr (se_var 1 rfl (by first | exact .inl rfl | exact .inr (.inl rfl) | exact .inr (.inr rfl))) (sat _ (.cons (n := 4) (S := .slot 0) ⟨T.c_Source, _, T.sl_Source_own_ohms⟩ .nil))) (so_mul (.cons (n := 0) (S := S_Amount_mul) ⟨_, _, T.sf_Amount, T.o_Amount_mul.1, T.o_Amount_mul.2, (ok_Amount_mul T).may, (hr.mono (by decide))⟩ .nil))) (sa_cons (se_var 2 rfl (by first | exact .inl rfl | exact .inr (.inl rfl) | exact .inr (.inr rfl))) sa_nil)) sa_nil)))))))))))
  fail "n"
  refine ⟨rfl, ?_⟩
  fail "n"
  refine ⟨r, t, B, rfl, by omega, h1.br, h2.br, ?_⟩
  fail "n"
  refine ⟨rfl, ?_⟩
  fail "n"
  refine ⟨r + t, 0, rfl, ?_⟩
  fail "n"
  by_cases e : r + t = 0
  · rw [decide_eq_true e]
    fail "n"
    exact hx e
  · rw [decide_eq_false e]
    have hp := rat_pos_of (Rat.add_nonneg h1.r0 h2.r0) e
    have b1 := (h1.bv.mul h2.br).add (h2.bv.mul h1.br)
    have b2 := h1.br.add h2.br
    have b3 := h1.br.mul h2.br
    fail "n"
    refine ⟨v, t, B, rfl, by omega, h1.bv, h2.br, ?_⟩
    fail "n"
    refine ⟨x, r, B, rfl, by omega, h2.bv, h1.br, ?_⟩
    fail "n"
    refine ⟨v * t, x * r, 2 * B, rfl, by omega, h1.bv.mul h2.br, h2.bv.mul h1.br, ?_⟩
    fail "n"
    refine ⟨_, _, 4 * B + 1, rfl, Rat.ne_of_gt hp, by omega, b1.mono (by omega), b2.mono (by omega), ?_⟩
    fail "n"
    refine ⟨r, t, B, rfl, by omega, h1.br, h2.br, ?_⟩
    fail "n"
    refine ⟨_, _, 4 * B + 1, rfl, Rat.ne_of_gt hp, by omega, b3.mono (by omega), b2.mono (by omega), ?_⟩
    fail "n"
    exact ⟨_, _, rfl, ⟨q_div_nn (Rat.add_nonneg (Rat.mul_nonneg h1.v0 h2.r0) (Rat.mul_nonneg h2.v0 h1.r0)) hp, q_div_nn (Rat.mul_nonneg h1.r0 h2.r0) hp,
      (Bz.over (B := 4 * B + 1) (Rat.ne_of_gt hp) (b1.mono (by omega)) (b2.mono (by omega))).mono (by omega), (Bz.over (B := 4 * B + 1) (Rat.ne_of_gt hp) (b3.mono (by omega)) (b2.mono (by omega))).mono (by omega)⟩, hk hp⟩
end
def S_is_integerN : FS := fun ds M Φ => ∃ (d : D) (lo : Int), ds = [d, .int lo] ∧ ((d.tn.isSome = true ∧ isInt lo d = false) ∨ ∃ v r, d = so v r) ∧ Φ (.bl false) M
section
local macro_rules | `(tactic| fail "v") => `(tactic| first
  | ((with_reducible refine at_name "value" ?_); refine we_var 0 rfl (by fail "vis") rfl ?_)
  | ((with_reducible refine at_name "low" ?_); refine we_var 1 rfl (by fail "vis") rfl ?_)
  | ((with_reducible refine at_name "high" ?_); refine we_var 2 rfl (by fail "vis") rfl ?_))
theorem ok_is_integerN (T : Tx K mg w) : FnG P w K mg base CX0 (3 + 1) (He.ga K "is_integer") (spD (Cs K w) S_is_integerN) := by
  obtain ⟨fd, Fd⟩ := T.e_is_integer
  obtain ⟨ds, hd, b⟩ := Fd.binds1 (ps := ["value", "low", "high"]) 2 1 (by simp) rfl fun _ _ _ _ _ _ _ us its h1 h2 => match us, its, h1, h2 with | [_, _], [_, _], _, _ => ⟨_, rfl, rfl⟩
  refine fn_D [.non] Fd sc_is_integer b hd (fun _ _ => .cons .non .nil) (fun ds M Φ h => by obtain ⟨d, lo, rfl, hd, h⟩ := h <;> rfl) ?_
  rintro cdv A outer s H as M Φ hr ⟨d, lo, rfl, hd, h⟩
  (apply run_of; (· exact (sss_cons (ss_if (st_w (sw_or (st_not (st_val (se_isiT .int (isi_int T) (iso_int T) rfl T.f_isinstance (se_var 0 rfl (by first | exact .inl rfl | exact .inr (.inl rfl) | exact .inr (.inr rfl))) (se_gty rfl T.f_int bt_int)))) (sw_or1 (st_val (se_isiT .bl (isi_bool T) (iso_bool T) rfl T.f_isinstance (se_var 0 rfl (by first | exact .inl rfl | exact .inr (.inl rfl) | exact .inr (.inr rfl))) (se_gty rfl T.f_bool bt_bool)))))) (sss_one (ss_ret se_bl)) sss_nil) (sss_one (ss_ret (se_and (se_or (se_cmp (se_var 1 rfl (by first | exact .inl rfl | exact .inr (.inl rfl) | exact .inr (.inr rfl))) se_non so_is) (se_one (se_cmp (se_var 1 rfl (by first | exact .inl rfl | exact .inr (.inl rfl) | exact .inr (.inr rfl))) (se_var 0 rfl (by first | exact .inl rfl | exact .inr (.inl rfl) | exact .inr (.inr rfl))) (so_le (.cons (n := 0) (S := S_Amount_le) ⟨_, _, T.nf_Amount, T.o_Amount_le.1, T.o_Amount_le.2, ok_Amount_le T, (hr.mono (by decide))⟩ .nil))))) (se_one (se_or (se_cmp (se_var 2 rfl (by first | exact .inl rfl | exact .inr (.inl rfl) | exact .inr (.inr rfl))) se_non so_is) (se_one (se_cmp (se_var 0 rfl (by first | exact .inl rfl | exact .inr (.inl rfl) | exact .inr (.inr rfl))) (se_var 2 rfl (by first | exact .inl rfl | exact .inr (.inl rfl) | exact .inr (.inr rfl))) (so_le (.cons (n := 0) (S := S_Amount_le) ⟨_, _, T.nf_Amount, T.o_Amount_le.1, T.o_Amount_le.2, ok_Amount_le T, (hr.mono (by decide))⟩ .nil))))))))))))
  rcases hd with ⟨hd, e⟩ | ⟨v, r, rfl⟩
  · cases d <;> first | (exfalso; simp [D.tn] at hd; done) | skip
    all_goals fail "n"
    all_goals first | exact h | skip
    rename_i i
    have e : decide (lo ≤ i) = false := e
    rw [e]
    fail "n"
    exact h
  · fail "n"
    refine ⟨rfl, ?_⟩
    fail "n"
    exact h
end
def S_Source_mul : FS := fun ds M Φ => ∃ (v r : Rat) (n : Int) (B : Nat), ds = [so v r, .int n] ∧ 1 ≤ B ∧ B ≤ 1000 ∧ Nn B v r ∧ 0 ≤ n ∧ n.natAbs < 2 ^ B ∧ Φ (so (v * (n : Rat)) r) M
theorem Bz.ofI {B : Nat} {n : Int} (h : n.natAbs < 2 ^ B) (h1 : 1 ≤ B) : Bz B (n : Rat) := by
  refine ⟨by simpa using h, ?_⟩
  show (n : Rat).den < 2 ^ B
  rw [Rat.den_intCast]
  exact Nat.one_lt_two_pow (by omega)
section
local macro_rules | `(tactic| fail "v") => `(tactic| first
  | ((with_reducible refine at_name "self" ?_); refine we_var 0 rfl (by fail "vis") rfl ?_)
  | ((with_reducible refine at_name "many" ?_); refine we_var 1 rfl (by fail "vis") rfl ?_))
theorem ok_Source_mul (T : Tx K mg w) : FnG P w K mg base CX0 (10 + 1) (He.ma K (He.ga K "Source") "__mul__") (spD (Cs K w) S_Source_mul) := by
  obtain ⟨fd, Fd⟩ := T.e_Source_mul
  have b := Fd.bindsN (ps := ["self", "many"]) fun _ _ _ _ _ _ us hl => match us, hl with | [_, _], _ => rfl
  refine fn_D [] Fd sc_Source_mul b .nil (fun _ _ => .nil) (fun ds M Φ h => by obtain ⟨v, r, n, B, rfl, h1, hB, hn, n0, bn, h⟩ := h <;> rfl) ?_
  rintro cdv A outer s H as M Φ hr ⟨v, r, n, B, rfl, h1, hB, hn, n0, bn, h⟩
  (apply run_of; (· exact (sss_cons (ss_if (st_not (st_val (se_call (ok_is_integer2 T) (hr.mono (by decide)) rfl T.g_is_integer.1 T.g_is_integer.2 (sa_cons (se_var 1 rfl (by first | exact .inl rfl | exact .inr (.inl rfl) | exact .inr (.inr rfl))) (sa_cons se_int sa_nil))))) (sss_one ss_no) sss_nil) (sss_one (ss_ret (se_call (ok_source_of T) (hr.mono (by decide)) rfl T.g_source_of.1 T.g_source_of.2 (sa_cons (se_bin (se_attr (se_var 0 rfl (by first | exact .inl rfl | exact .inr (.inl rfl) | exact .inr (.inr rfl))) (sat _ (.cons (n := 4) (S := .slot 1) ⟨T.c_Source, _, T.sl_Source_own_volts⟩ .nil))) (se_make (n := 0) T.mk_Amount (ok_Amount_init1 T) mk_Amount1 (hr.mono (by decide)) rfl T.g_Amount.1 (sa_cons (se_var 1 rfl (by first | exact .inl rfl | exact .inr (.inl rfl) | exact .inr (.inr rfl))) sa_nil)) (so_mul (.cons (n := 0) (S := S_Amount_mul) ⟨_, _, T.sf_Amount, T.o_Amount_mul.1, T.o_Amount_mul.2, ok_Amount_mul T, (hr.mono (by decide))⟩ .nil))) (sa_cons (se_attr (se_var 0 rfl (by first | exact .inl rfl | exact .inr (.inl rfl) | exact .inr (.inr rfl))) (sat _ (.cons (n := 4) (S := .slot 0) ⟨T.c_Source, _, T.sl_Source_own_ohms⟩ .nil))) sa_nil))))))))
  fail "n"
  refine ⟨n, 0, rfl, ?_⟩
  rw [decide_eq_true n0]
  fail "n"
  refine ⟨n, rfl, big_lt (by omega) bn, ?_⟩
  rw [divInt_one]
  fail "n"
  refine ⟨v, _, B, rfl, by omega, hn.bv, Bz.ofI bn h1, ?_⟩
  fail "n"
  exact ⟨_, _, rfl, ⟨Rat.mul_nonneg hn.v0 (Rat.intCast_nonneg.mpr n0), hn.r0, (hn.bv.mul (Bz.ofI bn h1)).mono (by omega), hn.br.mono (by omega)⟩, h⟩
end
def S_Source_rmul : FS := S_Source_mul
section
local macro_rules | `(tactic| fail "v") => `(tactic| first
  | ((with_reducible refine at_name "self" ?_); refine we_var 0 rfl (by fail "vis") rfl ?_)
  | ((with_reducible refine at_name "many" ?_); refine we_var 1 rfl (by fail "vis") rfl ?_))
theorem ok_Source_rmul (T : Tx K mg w) : FnG P w K mg base CX0 (11 + 1) (He.ma K (He.ga K "Source") "__rmul__") (spD (Cs K w) S_Source_rmul) := by
  obtain ⟨fd, Fd⟩ := T.e_Source_rmul
  have b := Fd.bindsN (ps := ["self", "many"]) fun _ _ _ _ _ _ us hl => match us, hl with | [_, _], _ => rfl
  refine fn_D [] Fd sc_Source_rmul b .nil (fun _ _ => .nil) (fun ds M Φ h => by obtain ⟨v, r, n, B, rfl, h1, hB, hn, n0, bn, h⟩ := h <;> rfl) ?_
  rintro cdv A outer s H as M Φ hr ⟨v, r, n, B, rfl, h1, hB, hn, n0, bn, h⟩
  (apply run_of; (· exact (sss_one (ss_ret (se_bin (se_var 0 rfl (by first | exact .inl rfl | exact .inr (.inl rfl) | exact .inr (.inr rfl))) (se_var 1 rfl (by first | exact .inl rfl | exact .inr (.inl rfl) | exact .inr (.inr rfl))) (so_mulL (n := 4) T.sf_Source T.o_Source_mul.1 T.o_Source_mul.2 T.o_Source_rmul.1 (ok_Source_mul T) (hr.mono (by decide))))))))
  fail "n"
  exact ⟨rfl, v, r, n, B, rfl, h1, hB, hn, n0, bn, h⟩
end
/-! ### what is no number of times -/
def NoMany (d : D) : Prop := (d.tn.isSome = true ∧ isInt 0 d = false) ∨ ∃ v r, d = so v r
def S_Source_mulX : FX := fun ds M Φ Ξ => ∃ (v r : Rat) (d : D), ds = [so v r, d] ∧ NoMany d ∧ Ξ 33 d M
section
local macro_rules | `(tactic| fail "v") => `(tactic| first
  | ((with_reducible refine at_name "self" ?_); refine we_var 0 rfl (by fail "vis") rfl ?_)
  | ((with_reducible refine at_name "many" ?_); refine we_var 1 rfl (by fail "vis") rfl ?_))
theorem ok_Source_mulX (T : Tx K mg w) : FnG P w K mg base (L2.CX P w) (11 + 1) (He.ma K (He.ga K "Source") "__mul__") (spX (Cs K w) S_Source_mulX) := by
  obtain ⟨fd, Fd⟩ := T.e_Source_mul
  have b := Fd.bindsN (ps := ["self", "many"]) fun _ _ _ _ _ _ us hl => match us, hl with | [_, _], _ => rfl
  refine fn_DX [] Fd sc_Source_mul b .nil (fun _ _ => .nil) (fun ds M Φ Ξ h => by obtain ⟨v, r, d, rfl, hd, h⟩ := h <;> rfl) ?_
  rintro cdv A outer s H as M Φ Ξ E hr ⟨v, r, d, rfl, hd, h⟩ tk
  (apply run_of; (· exact (sss_cons (ss_if (st_not (st_val (se_call (ok_is_integerN T).may (hr.mono (by decide)) rfl T.g_is_integer.1 T.g_is_integer.2 (sa_cons (se_var 1 rfl (by first | exact .inl rfl | exact .inr (.inl rfl) | exact .inr (.inr rfl))) (sa_cons se_int sa_nil))))) (sss_one (ss_raise (n := 33) (k := 0) tk rfl (T.er "BadMany" (by decide)) T.si T.f_super top_super (hr.mono (by decide)) rfl T.g_BadMany.1 (se_var 1 rfl (by first | exact .inl rfl | exact .inr (.inl rfl) | exact .inr (.inr rfl))))) sss_nil) (sss_one (ss_ret (se_call (ok_source_of T).may (hr.mono (by decide)) rfl T.g_source_of.1 T.g_source_of.2 (sa_cons (se_bin (se_attr (se_var 0 rfl (by first | exact .inl rfl | exact .inr (.inl rfl) | exact .inr (.inr rfl))) (sat _ (.cons (n := 4) (S := .slot 1) ⟨T.c_Source, _, T.sl_Source_own_volts⟩ .nil))) (se_make (n := 0) T.mk_Amount (ok_Amount_init1 T).may mk_Amount1 (hr.mono (by decide)) rfl T.g_Amount.1 (sa_cons (se_var 1 rfl (by first | exact .inl rfl | exact .inr (.inl rfl) | exact .inr (.inr rfl))) sa_nil)) (so_mul (.cons (n := 0) (S := S_Amount_mul) ⟨_, _, T.sf_Amount, T.o_Amount_mul.1, T.o_Amount_mul.2, (ok_Amount_mul T).may, (hr.mono (by decide))⟩ (.cons (n := 4) (S := S_Source_mul) ⟨_, _, T.sf_Source, T.o_Source_mul.1, T.o_Source_mul.2, (ok_Source_mul T).may, (hr.mono (by decide))⟩ .nil)))) (sa_cons (se_attr (se_var 0 rfl (by first | exact .inl rfl | exact .inr (.inl rfl) | exact .inr (.inr rfl))) (sat _ (.cons (n := 4) (S := .slot 0) ⟨T.c_Source, _, T.sl_Source_own_ohms⟩ .nil))) sa_nil))))))))
  fail "n"
  refine ⟨d, 0, rfl, hd, ?_⟩
  fail "n"
  exact h
end
def S_Source_rmulX : FX := fun ds M Φ Ξ => ∃ (v r : Rat) (d : D), ds = [so v r, d] ∧ (d.tn.isSome = true ∧ isInt 0 d = false) ∧ Ξ 33 d M
section
local macro_rules | `(tactic| fail "v") => `(tactic| first
  | ((with_reducible refine at_name "self" ?_); refine we_var 0 rfl (by fail "vis") rfl ?_)
  | ((with_reducible refine at_name "many" ?_); refine we_var 1 rfl (by fail "vis") rfl ?_))
theorem ok_Source_rmulX (T : Tx K mg w) : FnG P w K mg base (L2.CX P w) (12 + 1) (He.ma K (He.ga K "Source") "__rmul__") (spX (Cs K w) S_Source_rmulX) := by
  obtain ⟨fd, Fd⟩ := T.e_Source_rmul
  have b := Fd.bindsN (ps := ["self", "many"]) fun _ _ _ _ _ _ us hl => match us, hl with | [_, _], _ => rfl
  refine fn_DX [] Fd sc_Source_rmul b .nil (fun _ _ => .nil) (fun ds M Φ Ξ h => by obtain ⟨v, r, d, rfl, hd, h⟩ := h <;> rfl) ?_
  rintro cdv A outer s H as M Φ Ξ E hr ⟨v, r, d, rfl, hd, h⟩ tk
  (apply run_of; (· exact (sss_one (ss_ret (se_bin (se_var 0 rfl (by first | exact .inl rfl | exact .inr (.inl rfl) | exact .inr (.inr rfl))) (se_var 1 rfl (by first | exact .inl rfl | exact .inr (.inl rfl) | exact .inr (.inr rfl))) (so_mulXL (n := 4) tk T.sf_Source T.o_Source_mul.1 T.o_Source_mul.2 T.o_Source_rmul.1 (ok_Source_mulX T) (hr.mono (by decide))))))))
  have h1 := hd.1
  cases d <;> first | (exfalso; simp [D.tn] at h1; done) | skip
  all_goals (fail "n"; exact ⟨rfl, rfl, v, r, _, rfl, .inl hd, h⟩)
end
end Lw
namespace Lw
open PySem PySem.Spec PyProof.Rows L2 DL
variable {w : World} {K : PySem.W.Frag} {mg : Str → Option Value} {base : Heap}
open SX (S)
local macro_rules | `(tactic| fail "n") => `(tactic| conv => whnf)
local macro_rules | `(tactic| fail "d") => `(tactic| first | assumption | (apply Ne.symm; assumption))
local macro_rules | `(tactic| fail "m") => `(tactic| first | exact put_same | assumption | exact (put_ne (by fail "d")).trans (by fail "m") | exact put_get (by assumption) (by fail "m"))
local macro_rules | `(tactic| fail "sl") => `(tactic| (simp only [SX.S_cat, SX.S_len, List.length_append, List.length_cons, List.length_nil]; omega))
local macro_rules | `(tactic| fail "l") => `(tactic| (fail "n"; first | refine ⟨by (simp only [List.length_cons, List.length_nil]; decide), ?_⟩ | fail "stop"))
/-! ### told -/
theorem tb_law_told (T : Tx K mg w) : ∃ fd, FunD K "_law_told" "_law_told" (defArgs s_law_told) (defBody s_law_told) (defScope s_law_told) [] [] (He.ga K "_law_told") fd ∧ Binds K fd ["_law_look"] [] := by
  obtain ⟨fd, Fd⟩ := T.e_law_told
  exact ⟨fd, Fd, Fd.bindsN (ps := ["_law_look"]) fun _ _ _ _ _ _ us hl => match us, hl with | [_], _ => rfl⟩
theorem told_law_told (T : Tx K mg w) : ToldOk true P w K mg base "_law_told" ["_law_look", "_law_caught", "_law_back", "error"] "_law_look" (defScope s_law_told) (He.ga K "_law_told") (He.ga K "MeterError") (defBody s_law_told) := by
  intro cdv A outer s H f Y gd bd Q act hY mono hg hb
  refine ⟨_, pss_cons (ps_asg (pe_tup (pa_cons pe_non (pa_cons pe_non pa_nil))) (pg_tup rfl (pgs_cons (pg_name (i := 1) sc_law_told.nd rfl (.inl rfl)) (pgs_cons (pg_name (i := 2) sc_law_told.nd rfl (.inl rfl)) pgs_nil)))) (pss_cons (ps_try_hold (i := 3) (j := 1) rfl rfl sc_law_told.nd rfl rfl rfl (.inl rfl) (.inl rfl) ⟨rfl, by decide, .inl T.g_MeterError.1⟩ (.inl rfl) (by decide) (by decide) (fun _ _ => rfl) (fun W pn xe tk => pss_one (ps_set (i := 2) sc_law_told.nd rfl (.inl rfl) (act W pn xe _ _ tk)))) (pss_one (ps_ret (pe_tup (pa_cons (pe_var (i := 1) rfl (.inl rfl)) (pa_cons (pe_var (i := 2) rfl (.inl rfl)) pa_nil)))))), ?_⟩
  refine ⟨(by show 2 ≤ sizeLine; decide), fun t0 ht0 => ⟨t0, _, rfl, .inl (.inl upd_same), rfl, ⟨_, _, rfl, _, _, rfl, rfl, ?_⟩⟩⟩
  refine ⟨rfl, mono _ gd _ _ (fun v H' hv => ?_) (hY _ _ (.inr ⟨t0, _, ht0, rfl⟩) fun c0 dd H' z => ⟨(hb c0 dd H' z).1, c0, dd, rfl, rfl, fun a na => ?_⟩)⟩
  · exact ⟨.non, rfl, v, rfl, (by show 2 ≤ sizeLine; decide), fun p hp => hg v H' hv p hp⟩
  · exact ⟨.ref a, rfl, .non, rfl, (by show 2 ≤ sizeLine; decide), fun p hp => (hb c0 dd H' z).2 a na p hp⟩
theorem ten8 : (10 : Int) ^ (8 : Int).toNat = 100000000 := by decide +kernel
def S_law_ratio : FS := fun ds M Φ => ∃ (p : Addr) (c : Nat), ds = [.ref p] ∧ c + 5 ≤ 1000000 ∧ Pot M p c ∧ ∀ (q : Rat) M', 0 ≤ q → Bz 28 q → PotTo M p M' (c + 5) → Φ (rt q) M'
section
local macro_rules | `(tactic| fail "v") => `(tactic| first
  | ((with_reducible refine at_name "_law_pot_here" ?_); refine we_var 0 rfl (by fail "vis") rfl ?_)
  | ((with_reducible refine at_name "_law_above" ?_); refine we_var 1 rfl (by fail "vis") rfl ?_))
theorem ok_law_ratio (T : Tx K mg w) : FnG P w K mg base CX0 (5 + 1) (He.ga K "_law_ratio") (spD (Cs K w) S_law_ratio) := by
  obtain ⟨fd, Fd⟩ := T.e_law_ratio
  have b := Fd.bindsN (ps := ["_law_pot_here"]) fun _ _ _ _ _ _ us hl => match us, hl with | [_], _ => rfl
  refine fn_D [] Fd sc_law_ratio b .nil (fun _ _ => .nil) (fun ds M Φ h => by obtain ⟨p, c, rfl, hc, hp, h⟩ := h <;> rfl) ?_
  rintro cdv A outer s H as M Φ hr ⟨p, c, rfl, hc, hp, h⟩
  (apply run_of; (· exact (sss_cons (ss_set 1 sc_law_ratio.nd rfl (by first | exact .inl rfl | exact .inr rfl) (se_call (ok_law_of T) (hr.mono (by decide)) rfl T.g_law_of.1 T.g_law_of.2 (sa_cons (se_var 0 rfl (by first | exact .inl rfl | exact .inr (.inl rfl) | exact .inr (.inr rfl))) (sa_cons (se_lst (sa_cons (se_call (ok_law_take T) (hr.mono (by decide)) rfl T.g_law_take.1 T.g_law_take.2 (sa_cons (se_var 0 rfl (by first | exact .inl rfl | exact .inr (.inl rfl) | exact .inr (.inr rfl))) (sa_cons se_int sa_nil))) (sa_cons (se_call (ok_law_take T) (hr.mono (by decide)) rfl T.g_law_take.1 T.g_law_take.2 (sa_cons (se_var 0 rfl (by first | exact .inl rfl | exact .inr (.inl rfl) | exact .inr (.inr rfl))) (sa_cons se_int sa_nil))) (sa_cons se_int (sa_cons (se_bin (se_bin se_int se_int so_pow) (se_call (ok_law_take T) (hr.mono (by decide)) rfl T.g_law_take.1 T.g_law_take.2 (sa_cons (se_var 0 rfl (by first | exact .inl rfl | exact .inr (.inl rfl) | exact .inr (.inr rfl))) (sa_cons se_int sa_nil))) (so_add .nil)) sa_nil))))) sa_nil)))) (sss_one (ss_ret (se_call (ok_law_pair T) (hr.mono (by decide)) rfl T.g_law_pair.1 T.g_law_pair.2 (sa_cons (se_var 1 rfl (by first | exact .inl rfl | exact .inr (.inl rfl) | exact .inr (.inr rfl))) (sa_cons (se_bin se_int (se_call (ok_law_take T) (hr.mono (by decide)) rfl T.g_law_take.1 T.g_law_take.2 (sa_cons (se_var 0 rfl (by first | exact .inl rfl | exact .inr (.inl rfl) | exact .inr (.inr rfl))) (sa_cons se_int sa_nil))) (so_add .nil)) sa_nil))))))))
  fail "n"
  refine ⟨p, 9, c, rfl, by decide, by decide, by omega, hp, fun r1 M1 a0 a1 t1 => ?_⟩
  fail "n"
  refine ⟨p, 60, c + 1, rfl, by decide, by decide, by omega, t1.pot, fun r2 M2 b0 b1 t2 => ?_⟩
  fail "n"
  refine ⟨by decide +kernel, ?_⟩
  rw [ten8]
  fail "n"
  refine ⟨p, 9, c + 2, rfl, by decide, by decide, by omega, t2.pot, fun r3 M3 d0 d1 t3 => ?_⟩
  fail "n"
  refine ⟨by simp, ?_⟩
  fail "n"
  refine ⟨p, _, c + 3, rfl, by simp, by simp, by omega, t3.pot, fun d M4 hd t4 => ?_⟩
  have t : PotTo M p M4 (c + 4) := ((t1.trans t2).trans t3).trans t4
  have key : ∃ a : Int, d = .int a ∧ 0 ≤ a ∧ a < 100000010 := by
    simp only [List.mem_cons, List.not_mem_nil, or_false] at hd
    rcases hd with rfl | rfl | rfl | rfl
    · exact ⟨_, rfl, a0, by omega⟩
    · exact ⟨_, rfl, b0, by omega⟩
    · exact ⟨_, rfl, by decide, by decide⟩
    · exact ⟨_, rfl, by omega, by omega⟩
  obtain ⟨a, rfl, ha0, ha1⟩ := key
  fail "n"
  refine ⟨p, 12, c + 4, rfl, by decide, by decide, by omega, t.pot, fun r5 M5 e0 e1 t5 => ?_⟩
  fail "n"
  refine ⟨a, 1 + r5, rfl, by omega, Nat.lt_of_lt_of_le (show (1 + r5).natAbs < 2 ^ 14 by omega) (Nat.pow_le_pow_right (by decide) (by decide)), ?_⟩
  refine h _ M5 ((Rat.divInt_nonneg_iff_of_pos_right (by omega)).mpr ha0) (Bz.div (by omega) (by omega) (by omega)) (t.trans t5)
end
/-- flat data, and at most two deep -/
def fl0 : D → Bool
  | .non => true
  | .bl _ => true
  | .int i => decide (i.natAbs < 2 ^ 100)
  | .str x => decide ((reprText x).length ≤ 100)
  | _ => false
def fl1 : D → Bool
  | .tup ds => ds.all fl0 && decide (ds.length ≤ 4)
  | .lst ds => ds.all fl0 && decide (ds.length ≤ 4)
  | .dct ks ds => ks.isEmpty && ds.isEmpty
  | d => fl0 d
def fl2 : D → Bool
  | .tup ds => ds.all fl1 && decide (ds.length ≤ 4)
  | .lst ds => ds.all fl1 && decide (ds.length ≤ 4)
  | d => fl1 d
theorem fl0_shz {d : D} (h : fl0 d = true) : Shz 0 2000 d := by
  cases d <;> first | (exfalso; simp [fl0] at h; done) | skip
  · exact .non (by decide)
  · exact .bl _ (by decide)
  · exact .int _ (Nat.lt_trans (of_decide_eq_true h) (Nat.pow_lt_pow_right (by decide) (by decide))) (by decide)
  · exact .str _ (Nat.le_trans (of_decide_eq_true h) (by decide))
theorem fl0_1 {d : D} (h : fl0 d = true) : Shz 1 10000 d := (fl0_shz h).mono (by decide) (by decide)
theorem fl1_shz {d : D} (h : fl1 d = true) : Shz 1 10000 d := by
  cases d <;> first | exact fl0_1 h | skip
  · obtain ⟨h1, h2⟩ := Bool.and_eq_true_iff.mp h
    have := of_decide_eq_true h2
    exact .tup (k := 2000) (fun d hd => fl0_shz (List.all_eq_true.mp h1 d hd)) (by omega)
  · obtain ⟨h1, h2⟩ := Bool.and_eq_true_iff.mp h
    have := of_decide_eq_true h2
    exact .lst (k := 2000) (fun d hd => fl0_shz (List.all_eq_true.mp h1 d hd)) (by omega)
  · obtain ⟨h1, h2⟩ := Bool.and_eq_true_iff.mp h
    obtain rfl := List.isEmpty_iff.mp h1
    obtain rfl := List.isEmpty_iff.mp h2
    exact .dct (k := 0) (fun d hd => nomatch hd) (fun q hq => nomatch hq) rfl (by decide)
theorem fl1_2 {d : D} (h : fl1 d = true) : Shz 2 50000 d := (fl1_shz h).mono (by decide) (by decide)
theorem fl2_shz {d : D} (h : fl2 d = true) : Shz 2 50000 d := by
  cases d <;> first | exact fl1_2 h | skip
  · obtain ⟨h1, h2⟩ := Bool.and_eq_true_iff.mp h
    have := of_decide_eq_true h2
    exact .tup (k := 10000) (fun d hd => fl1_shz (List.all_eq_true.mp h1 d hd)) (by omega)
  · obtain ⟨h1, h2⟩ := Bool.and_eq_true_iff.mp h
    have := of_decide_eq_true h2
    exact .lst (k := 10000) (fun d hd => fl1_shz (List.all_eq_true.mp h1 d hd)) (by omega)
theorem shw_rts {a b : Rat} (ha : Bz 1900 a) (hb : Bz 1900 b) : Shw 2 9000 (.tup [rt a, rt b]) := (Shw.tup2 (Shw.rt ha) (Shw.rt hb)).mono (by decide) (by decide)
def S_law_is_so : FS := fun ds M Φ => ∃ (v r : Rat), ds = [so v r, .tup [rt v, rt r]] ∧ Bz 1900 v ∧ Bz 1900 r ∧ Φ (.bl true) M
section
local macro_rules | `(tactic| fail "v") => `(tactic| first
  | ((with_reducible refine at_name "_law_told_here" ?_); refine we_var 0 rfl (by fail "vis") rfl ?_)
  | ((with_reducible refine at_name "_law_due" ?_); refine we_var 1 rfl (by fail "vis") rfl ?_))
theorem ok_law_is_so (T : Tx K mg w) : FnG P w K mg base CX0 (11 + 1) (He.ga K "_law_is_so") (spD (Cs K w) S_law_is_so) := by
  obtain ⟨fd, Fd⟩ := T.e_law_is_so
  have b := Fd.bindsN (ps := ["_law_told_here", "_law_due"]) fun _ _ _ _ _ _ us hl => match us, hl with | [_, _], _ => rfl
  refine fn_D [] Fd sc_law_is_so b .nil (fun _ _ => .nil) (fun ds M Φ h => by obtain ⟨v, r, rfl, bv, br, h⟩ := h <;> rfl) ?_
  rintro cdv A outer s H as M Φ hr ⟨v, r, rfl, bv, br, h⟩
  (apply run_of; (· exact (sss_one (ss_ret (se_and (se_isiC 4 (isc_Source T) (isk_Source T) rfl T.f_isinstance (se_var 0 rfl (by first | exact .inl rfl | exact .inr (.inl rfl) | exact .inr (.inr rfl))) (se_gref rfl T.g_Source.1)) (se_one (se_cmp (se_callB rfl T.f_repr bb_repr (sa_cons (se_tup (sa_cons (se_attr (se_var 0 rfl (by first | exact .inl rfl | exact .inr (.inl rfl) | exact .inr (.inr rfl))) (sat _ (.cons (n := 4) (S := .prop S_Source_volts) ⟨T.c_Source, _, _, _, T.p_Source_volts, ok_Source_volts T, (hr.mono (by decide))⟩ .nil))) (sa_cons (se_attr (se_var 0 rfl (by first | exact .inl rfl | exact .inr (.inl rfl) | exact .inr (.inr rfl))) (sat _ (.cons (n := 4) (S := .prop S_Source_ohms) ⟨T.c_Source, _, _, _, T.p_Source_ohms, ok_Source_ohms T, (hr.mono (by decide))⟩ .nil))) sa_nil))) sa_nil) (sc_reprI hr)) (se_callB rfl T.f_repr bb_repr (sa_cons (se_var 1 rfl (by first | exact .inl rfl | exact .inr (.inl rfl) | exact .inr (.inr rfl))) sa_nil) (sc_reprI hr)) (so_eq hr (.cons (n := 4) (S := S_Source_eq) ⟨_, _, T.nf_Source, T.o_Source_eq.1, T.o_Source_eq.2, ok_Source_eq T, (hr.mono (by decide))⟩ .nil) .nil))))))))
  fail "n"
  refine ⟨rfl, ?_⟩
  fail "n"
  refine ⟨v, r, rfl, ?_⟩
  fail "n"
  refine ⟨v, r, rfl, ?_⟩
  repeat fail "l"
  fail "n"
  have w2 := shw_rts bv br
  refine ⟨_, _, w2, by decide, by decide, ?_⟩
  fail "n"
  refine ⟨_, _, w2, by decide, by decide, ?_⟩
  fail "n"
  rw [decide_eq_true rfl]
  exact h
end
def S_law_is_side_by_side (K : PySem.W.Frag) : FS := fun ds M Φ => ∃ (v r x t : Rat), ds = [so v r, so x t, .tup [rt v, rt r], .tup [rt x, rt t]] ∧ Nn 28 v r ∧ Nn 28 x t ∧ Tabs K M ∧ Φ (.bl true) M
section
local macro_rules | `(tactic| fail "v") => `(tactic| first
  | ((with_reducible refine at_name "_law_one" ?_); refine we_var 0 rfl (by fail "vis") rfl ?_)
  | ((with_reducible refine at_name "_law_other" ?_); refine we_var 1 rfl (by fail "vis") rfl ?_)
  | ((with_reducible refine at_name "_law_first" ?_); refine we_var 2 rfl (by fail "vis") rfl ?_)
  | ((with_reducible refine at_name "_law_second" ?_); refine we_var 3 rfl (by fail "vis") rfl ?_)
  | ((with_reducible refine at_name "_law_caught" ?_); refine we_var 4 rfl (by fail "vis") rfl ?_)
  | ((with_reducible refine at_name "_law_told_here" ?_); refine we_var 5 rfl (by fail "vis") rfl ?_)
  | ((with_reducible refine at_name "_law_ohms" ?_); refine we_var 6 rfl (by fail "vis") rfl ?_)
  | ((with_reducible refine at_name "_law_volts" ?_); refine we_var 7 rfl (by fail "vis") rfl ?_)
  | ((with_reducible refine at_name "_law_shared" ?_); refine we_var 8 rfl (by fail "vis") rfl ?_))
theorem ok_law_is_side_by_side (T : Tx K mg w) (B : TbC K mg base) : FnG P w K mg base CX0 (17 + 1) (He.ga K "_law_is_side_by_side") (spD (Cs K w) (S_law_is_side_by_side K)) := by
  obtain ⟨fd, Fd⟩ := T.e_law_is_side_by_side
  have b := Fd.bindsN (ps := ["_law_one", "_law_other", "_law_first", "_law_second"]) fun _ _ _ _ _ _ us hl => match us, hl with | [_, _, _, _], _ => rfl
  refine fn_DL (dn := ("_law_is_side_by_side", none)) [] Fd sc_law_is_side_by_side b .nil (fun _ _ => .nil) (fun ds M Φ h => by obtain ⟨v, r, x, t, rfl, h1, h2, ht, h⟩ := h <;> rfl) ?_
  rintro cdv A outer s H as M Φ ec hr ⟨v, r, x, t, rfl, h1, h2, ht, h⟩
  (apply run_of; (· exact (sss_cons (ss_asg (se_told (ta := true) (isE := fun n => errB n = true) (k := 15) (params := (lamP (defBody s_law_is_side_by_side) [] 0 [1]).1) (lb := (lamP (defBody s_law_is_side_by_side) [] 0 [1]).2.1) (scope := (lamP (defBody s_law_is_side_by_side) [] 0 [1]).2.2) (tb_law_told T) sc_law_told (told_law_told T) rfl (.inl rfl) (by decide) (by decide) rfl T.g_law_told.1 T.g_law_told.2 (LamX.lamS_by (sc := defScope s_law_is_side_by_side) (by decide +kernel)) (fun _ _ _ _ _ => rfl) (hr.mono (by decide)) (fun n h => exm_err (er_ok T n h) (T.er "MeterError" (by decide)) T.si.cl) (se_lam (P := tabA K (("_law_is_side_by_side", none), lamQ "_law_is_side_by_side")) (B.ok (("_law_is_side_by_side", none), lamQ "_law_is_side_by_side") (by simp [tf])) ec rfl (LamX.lamS_by (sc := defScope s_law_is_side_by_side) (by decide +kernel))) (fun A outer s H E f c Ξ hr tk => (se_bin (se_var 0 rfl (by first | exact .inl rfl | exact .inr (.inl rfl) | exact .inr (.inr rfl))) (se_var 1 rfl (by first | exact .inl rfl | exact .inr (.inl rfl) | exact .inr (.inr rfl))) (so_ownX (op := .BitAnd) (n := 4) tk T.sf_Source T.o_Source_and.1 T.o_Source_and.2 (ok_Source_andX T) (hr.mono (by decide)))))) (sg_tup rfl (sgs_n (sg_name 4 sc_law_is_side_by_side.nd rfl (by first | exact .inl rfl | exact .inr rfl)) (sgs_n (sg_name 5 sc_law_is_side_by_side.nd rfl (by first | exact .inl rfl | exact .inr rfl)) sgs_nil)))) (sss_cons (ss_set 6 sc_law_is_side_by_side.nd rfl (by first | exact .inl rfl | exact .inr rfl) (se_call (ok_law_plus T) (hr.mono (by decide)) rfl T.g_law_plus.1 T.g_law_plus.2 (sa_cons (se_ix (se_var 2 rfl (by first | exact .inl rfl | exact .inr (.inl rfl) | exact .inr (.inr rfl))) se_int (six hr rfl)) (sa_cons (se_ix (se_var 3 rfl (by first | exact .inl rfl | exact .inr (.inl rfl) | exact .inr (.inr rfl))) se_int (six hr rfl)) sa_nil)))) (sss_cons (ss_if (st_cmp (se_var 6 rfl (by first | exact .inl rfl | exact .inr (.inl rfl) | exact .inr (.inr rfl))) (se_tup (sa_cons se_int (sa_cons se_int sa_nil))) (so_eq hr (.cons (n := 4) (S := S_Source_eq) ⟨_, _, T.nf_Source, T.o_Source_eq.1, T.o_Source_eq.2, ok_Source_eq T, (hr.mono (by decide))⟩ .nil) .nil)) (sss_one (ss_ret (se_and (se_isiErr (eB := errB) 32 30 (ie_Short T) T.kt_NoneType_Short rfl T.f_isinstance (se_var 4 rfl (by first | exact .inl rfl | exact .inr (.inl rfl) | exact .inr (.inr rfl))) (se_gref rfl T.g_Short.1)) (se_one (se_cmp (se_attr (se_var 4 rfl (by first | exact .inl rfl | exact .inr (.inl rfl) | exact .inr (.inr rfl))) (sat_val (er_ok T))) (se_var 1 rfl (by first | exact .inl rfl | exact .inr (.inl rfl) | exact .inr (.inr rfl))) (so_eq hr (.cons (n := 4) (S := S_Source_eq) ⟨_, _, T.nf_Source, T.o_Source_eq.1, T.o_Source_eq.2, ok_Source_eq T, (hr.mono (by decide))⟩ .nil) .nil)))))) sss_nil) (sss_cons (ss_set 7 sc_law_is_side_by_side.nd rfl (by first | exact .inl rfl | exact .inr rfl) (se_call (ok_law_plus T) (hr.mono (by decide)) rfl T.g_law_plus.1 T.g_law_plus.2 (sa_cons (se_call (ok_law_times T) (hr.mono (by decide)) rfl T.g_law_times.1 T.g_law_times.2 (sa_cons (se_ix (se_var 2 rfl (by first | exact .inl rfl | exact .inr (.inl rfl) | exact .inr (.inr rfl))) se_int (six hr rfl)) (sa_cons (se_ix (se_var 3 rfl (by first | exact .inl rfl | exact .inr (.inl rfl) | exact .inr (.inr rfl))) se_int (six hr rfl)) sa_nil))) (sa_cons (se_call (ok_law_times T) (hr.mono (by decide)) rfl T.g_law_times.1 T.g_law_times.2 (sa_cons (se_ix (se_var 3 rfl (by first | exact .inl rfl | exact .inr (.inl rfl) | exact .inr (.inr rfl))) se_int (six hr rfl)) (sa_cons (se_ix (se_var 2 rfl (by first | exact .inl rfl | exact .inr (.inl rfl) | exact .inr (.inr rfl))) se_int (six hr rfl)) sa_nil))) sa_nil)))) (sss_cons (ss_set 8 sc_law_is_side_by_side.nd rfl (by first | exact .inl rfl | exact .inr rfl) (se_call (ok_law_over T) (hr.mono (by decide)) rfl T.g_law_over.1 T.g_law_over.2 (sa_cons (se_call (ok_law_times T) (hr.mono (by decide)) rfl T.g_law_times.1 T.g_law_times.2 (sa_cons (se_ix (se_var 2 rfl (by first | exact .inl rfl | exact .inr (.inl rfl) | exact .inr (.inr rfl))) se_int (six hr rfl)) (sa_cons (se_ix (se_var 3 rfl (by first | exact .inl rfl | exact .inr (.inl rfl) | exact .inr (.inr rfl))) se_int (six hr rfl)) sa_nil))) (sa_cons (se_var 6 rfl (by first | exact .inl rfl | exact .inr (.inl rfl) | exact .inr (.inr rfl))) sa_nil)))) (sss_one (ss_ret (se_and (se_cmp (se_var 4 rfl (by first | exact .inl rfl | exact .inr (.inl rfl) | exact .inr (.inr rfl))) se_non so_is) (se_one (se_call (ok_law_is_so T) (hr.mono (by decide)) rfl T.g_law_is_so.1 T.g_law_is_so.2 (sa_cons (se_var 5 rfl (by first | exact .inl rfl | exact .inr (.inl rfl) | exact .inr (.inr rfl))) (sa_cons (se_tup (sa_cons (se_call (ok_law_over T) (hr.mono (by decide)) rfl T.g_law_over.1 T.g_law_over.2 (sa_cons (se_var 7 rfl (by first | exact .inl rfl | exact .inr (.inl rfl) | exact .inr (.inr rfl))) (sa_cons (se_var 6 rfl (by first | exact .inl rfl | exact .inr (.inl rfl) | exact .inr (.inr rfl))) sa_nil))) (sa_cons (se_var 8 rfl (by first | exact .inl rfl | exact .inr (.inl rfl) | exact .inr (.inr rfl))) sa_nil))) sa_nil))))))))))))))
  fail "n"
  refine ⟨ht.t_law_is_side_by_side, fun o1 c1 l1 => ?_⟩
  fail "n"
  refine ⟨l1, ?_⟩
  fail "n"
  refine ⟨v, r, x, t, 28, rfl, by decide, h1, h2, fun hp => ?_, fun e0 => ?_⟩
  · have b2 := h1.br.add h2.br
    have b1 := (h1.bv.mul h2.br).add (h2.bv.mul h1.br)
    have b3 := h1.br.mul h2.br
    fail "n"
    refine ⟨r, t, 28, rfl, by decide, h1.br, h2.br, ?_⟩
    repeat fail "l"
    fail "n"
    refine ⟨rt_isPy _, rt_isPy 0, rt_shaped _, rt_shaped 0, ?_⟩
    rw [show (D.tup [D.int 0, D.int 1]) = rt 0 from rfl, rt_eqv, decide_eq_false (Rat.ne_of_gt hp)]
    fail "n"
    refine ⟨v, t, 28, rfl, by decide, h1.bv, h2.br, ?_⟩
    fail "n"
    refine ⟨x, r, 28, rfl, by decide, h2.bv, h1.br, ?_⟩
    fail "n"
    refine ⟨v * t, x * r, 56, rfl, by decide, h1.bv.mul h2.br, h2.bv.mul h1.br, ?_⟩
    fail "n"
    refine ⟨r, t, 28, rfl, by decide, h1.br, h2.br, ?_⟩
    fail "n"
    refine ⟨_, _, 113, rfl, hp, by decide, b3.mono (by decide), b2.mono (by decide), ?_⟩
    fail "n"
    refine ⟨_, _, 113, rfl, hp, by decide, b1.mono (by decide), b2.mono (by decide), ?_⟩
    fail "n"
    repeat fail "l"
    fail "n"
    refine ⟨_, _, rfl, (Bz.over (B := 113) (Rat.ne_of_gt hp) (b1.mono (by decide)) (b2.mono (by decide))).mono (by decide), (Bz.over (B := 113) (Rat.ne_of_gt hp) (b3.mono (by decide)) (b2.mono (by decide))).mono (by decide), ?_⟩
    exact h
  · fail "n"
    refine ⟨rfl, ?_⟩
    fail "n"
    refine ⟨r, t, 28, rfl, by decide, h1.br, h2.br, ?_⟩
    repeat fail "l"
    fail "n"
    refine ⟨rt_isPy _, rt_isPy 0, rt_shaped _, rt_shaped 0, ?_⟩
    rw [show (D.tup [D.int 0, D.int 1]) = rt 0 from rfl, rt_eqv, decide_eq_true e0]
    fail "n"
    refine ⟨rfl, ?_⟩
    fail "n"
    refine ⟨rfl, ?_⟩
    fail "n"
    refine ⟨x, t, x, t, rfl, ?_⟩
    rw [decide_eq_true rfl, decide_eq_true rfl]
    exact h
end
theorem Tabs.to {K : PySem.W.Frag} {M M' : Mem} {p : Addr} {ds : List D} (t : Tabs K M) (hp : M p = some (.lst ds)) (h : ∀ a, a ≠ p → M' a = M a) : Tabs K M' :=
  ⟨by rw [h _ (fun z => by rw [← z, t.t_law_is_side_by_side] at hp; cases hp)]; exact t.t_law_is_side_by_side, by rw [h _ (fun z => by rw [← z, t.t_law_are_refused] at hp; cases hp)]; exact t.t_law_are_refused⟩
theorem Tabs.pot {K : PySem.W.Frag} {M M' : Mem} {p : Addr} {c d : Nat} (t : Tabs K M) (hp : Pot M p c) (h : PotTo M p M' d) : Tabs K M' := by
  obtain ⟨o, sd, n, e, _⟩ := hp
  exact t.to e h.old
/-- what is drawn as no number of times -/
structure OddM (d : D) : Prop where
  tn : d.tn.isSome = true
  no : isInt 0 d = false
  sz : Shz 2 50000 d
def oddMB (d : D) : Bool := d.tn.isSome && (!isInt 0 d && fl2 d)
theorem oddM_of {L : List D} (h : L.all oddMB = true) {d : D} (hd : d ∈ L) : OddM d := by
  obtain ⟨h1, h2⟩ := Bool.and_eq_true_iff.mp (List.all_eq_true.mp h d hd)
  obtain ⟨h2, h3⟩ := Bool.and_eq_true_iff.mp h2
  exact ⟨h1, by simpa using h2, fl2_shz h3⟩
def S_law_are_refused (K : PySem.W.Frag) : FS := fun ds M Φ => ∃ (p : Addr) (c : Nat) (v r x t : Rat), ds = [.ref p, so v r, so x t] ∧ c + 1 ≤ 1000000 ∧ Pot M p c ∧ Tabs K M ∧ ∀ M', PotTo M p M' (c + 1) → Φ (.bl true) M'
section
local macro_rules | `(tactic| fail "v") => `(tactic| first
  | ((with_reducible refine at_name "_law_pot_here" ?_); refine we_var 0 rfl (by fail "vis") rfl ?_)
  | ((with_reducible refine at_name "_law_one" ?_); refine we_var 1 rfl (by fail "vis") rfl ?_)
  | ((with_reducible refine at_name "_law_other" ?_); refine we_var 2 rfl (by fail "vis") rfl ?_)
  | ((with_reducible refine at_name "_law_value" ?_); refine we_var 3 rfl (by fail "vis") rfl ?_)
  | ((with_reducible refine at_name "_law_looks" ?_); refine we_var 4 rfl (by fail "vis") rfl ?_)
  | ((with_reducible refine at_name "_law_look" ?_); refine we_var 5 rfl (by fail "vis") rfl ?_)
  | ((with_reducible refine at_name "_law_due" ?_); refine we_var 6 rfl (by fail "vis") rfl ?_)
  | ((with_reducible refine at_name "_law_caught" ?_); refine we_var 7 rfl (by fail "vis") rfl ?_))
theorem ok_law_are_refused (T : Tx K mg w) (B : TbC K mg base) : FnG P w K mg base CX0 (17 + 1) (He.ga K "_law_are_refused") (spD (Cs K w) (S_law_are_refused K)) := by
  obtain ⟨fd, Fd⟩ := T.e_law_are_refused
  have b := Fd.bindsN (ps := ["_law_pot_here", "_law_one", "_law_other"]) fun _ _ _ _ _ _ us hl => match us, hl with | [_, _, _], _ => rfl
  refine fn_DL (dn := ("_law_are_refused", none)) [] Fd sc_law_are_refused b .nil (fun _ _ => .nil) (fun ds M Φ h => by obtain ⟨p, c, v, r, x, t, rfl, hc, hp, ht, h⟩ := h <;> rfl) ?_
  rintro cdv A outer s H as M Φ ec hr ⟨p, c, v, r, x, t, rfl, hc, hp, ht, h⟩
  (apply run_of; (· exact (sss_cons (ss_set 3 sc_law_are_refused.nd rfl (by first | exact .inl rfl | exact .inr rfl) (se_call (ok_law_of T) (hr.mono (by decide)) rfl T.g_law_of.1 T.g_law_of.2 (sa_cons (se_var 0 rfl (by first | exact .inl rfl | exact .inr (.inl rfl) | exact .inr (.inr rfl))) (sa_cons (se_lst (sa_cons se_non (sa_cons se_bl (sa_cons se_bl (sa_cons (se_un se_int su_neg) (sa_cons (se_un se_int su_neg) (sa_cons se_str (sa_cons se_str (sa_cons (se_tup (sa_cons se_int sa_nil)) (sa_cons (se_lst sa_nil) (sa_cons (se_lst (sa_cons se_int sa_nil)) (sa_cons se_dnew (sa_cons (se_tup (sa_cons se_int (sa_cons se_int sa_nil))) (sa_cons (se_tup sa_nil) sa_nil)))))))))))))) sa_nil)))) (sss_cons (ss_set 4 sc_law_are_refused.nd rfl (by first | exact .inl rfl | exact .inr rfl) (se_lstO (sa_cons (se_tup (sa_cons (se_lam (P := tabA K (("_law_are_refused", none), lamQ "_law_are_refused")) (B.ok (("_law_are_refused", none), lamQ "_law_are_refused") (by simp [tf])) ec rfl (LamX.lamS_by (sc := defScope s_law_are_refused) (by decide +kernel))) (sa_cons (se_var 3 rfl (by first | exact .inl rfl | exact .inr (.inl rfl) | exact .inr (.inr rfl))) sa_nil))) sa_nil))) (sss_cons (ss_expr (se_append (se_var 4 rfl (by first | exact .inl rfl | exact .inr (.inl rfl) | exact .inr (.inr rfl))) (se_tup (sa_cons (se_lam (P := tabA K (("_law_are_refused", none), lamQ "_law_are_refused")) (B.ok (("_law_are_refused", none), lamQ "_law_are_refused") (by simp [tf])) ec rfl (LamX.lamS_by (sc := defScope s_law_are_refused) (by decide +kernel))) (sa_cons (se_var 3 rfl (by first | exact .inl rfl | exact .inr (.inl rfl) | exact .inr (.inr rfl))) sa_nil))))) (sss_frz 4 (sss_cons (ss_for PassesOwn.never rfl (si_lst (se_var 4 rfl (by first | exact .inl rfl | exact .inr (.inl rfl) | exact .inr (.inr rfl)))) (sg_tup rfl (sgs_n (sg_name 5 sc_law_are_refused.nd rfl (by first | exact .inl rfl | exact .inr rfl)) (sgs_n (sg_name 6 sc_law_are_refused.nd rfl (by first | exact .inl rfl | exact .inr rfl)) sgs_nil))) (sss_cons (ss_set 7 sc_law_are_refused.nd rfl (by first | exact .inl rfl | exact .inr rfl) (se_ix (se_alt (se_told (ta := true) (isE := fun n => errB n = true) (k := 15) (params := (lamP (defBody s_law_are_refused) [] 1 [0, 0]).1) (lb := (lamP (defBody s_law_are_refused) [] 1 [0, 0]).2.1) (scope := (lamP (defBody s_law_are_refused) [] 1 [0, 0]).2.2) (tb_law_told T) sc_law_told (told_law_told T) rfl (.inl rfl) (by decide) (by decide) rfl T.g_law_told.1 T.g_law_told.2 (LamX.lamS_by (sc := defScope s_law_are_refused) (by decide +kernel)) (fun _ _ _ _ _ => rfl) (hr.mono (by decide)) (fun n h => exm_err (er_ok T n h) (T.er "MeterError" (by decide)) T.si.cl) (se_var 5 rfl (by first | exact .inl rfl | exact .inr (.inl rfl) | exact .inr (.inr rfl))) (fun A outer s H E f c Ξ hr tk => (se_bin (se_var 1 rfl (by first | exact .inl rfl | exact .inr (.inl rfl) | exact .inr (.inr rfl))) (se_var 3 rfl (by first | exact .inl rfl | exact .inr (.inl rfl) | exact .inr (.inr rfl))) (so_mulX (n := 4) tk T.sf_Source T.o_Source_mul.1 T.o_Source_mul.2 T.o_Source_rmul.1 T.o_Source_rmul.2 T.kt_Source_int T.kt_Source_bool (ok_Source_mulX T) (hr.mono (by decide)) (ok_Source_rmulX T) (hr.mono (by decide)))))) (se_told (ta := true) (isE := fun n => errB n = true) (k := 15) (params := (lamP (defBody s_law_are_refused) [] 2 [1, 0]).1) (lb := (lamP (defBody s_law_are_refused) [] 2 [1, 0]).2.1) (scope := (lamP (defBody s_law_are_refused) [] 2 [1, 0]).2.2) (tb_law_told T) sc_law_told (told_law_told T) rfl (.inl rfl) (by decide) (by decide) rfl T.g_law_told.1 T.g_law_told.2 (LamX.lamS_by (sc := defScope s_law_are_refused) (by decide +kernel)) (fun _ _ _ _ _ => rfl) (hr.mono (by decide)) (fun n h => exm_err (er_ok T n h) (T.er "MeterError" (by decide)) T.si.cl) (se_var 5 rfl (by first | exact .inl rfl | exact .inr (.inl rfl) | exact .inr (.inr rfl))) (fun A outer s H E f c Ξ hr tk => (se_bin (se_var 3 rfl (by first | exact .inl rfl | exact .inr (.inl rfl) | exact .inr (.inr rfl))) (se_var 1 rfl (by first | exact .inl rfl | exact .inr (.inl rfl) | exact .inr (.inr rfl))) (so_mulX (n := 4) tk T.sf_Source T.o_Source_mul.1 T.o_Source_mul.2 T.o_Source_rmul.1 T.o_Source_rmul.2 T.kt_Source_int T.kt_Source_bool (ok_Source_mulX T) (hr.mono (by decide)) (ok_Source_rmulX T) (hr.mono (by decide))))))) se_int (six hr rfl))) (sss_cons (ss_if (st_w (sw_or (st_not (st_val (se_isiErr (eB := errB) 33 30 (ie_BadMany T) T.kt_NoneType_BadMany rfl T.f_isinstance (se_var 7 rfl (by first | exact .inl rfl | exact .inr (.inl rfl) | exact .inr (.inr rfl))) (se_gref rfl T.g_BadMany.1)))) (sw_or1 (st_cmp (se_callB rfl T.f_repr bb_repr (sa_cons (se_attr (se_var 7 rfl (by first | exact .inl rfl | exact .inr (.inl rfl) | exact .inr (.inr rfl))) (sat_val (er_ok T))) sa_nil) (sc_reprZ T.sm hr)) (se_callB rfl T.f_repr bb_repr (sa_cons (se_var 6 rfl (by first | exact .inl rfl | exact .inr (.inl rfl) | exact .inr (.inr rfl))) sa_nil) (sc_reprZ T.sm hr)) (so_ne hr (.cons (n := 4) (S := S_Source_eq) ⟨_, _, T.ne_Source.ne, T.ne_Source.ob, T.o_Source_eq.1, T.o_Source_eq.2, ok_Source_eq T, (hr.mono (by decide))⟩ .nil)))))) (sss_cons (ss_ret se_bl) sss_nil) sss_nil) sss_nil))) (sss_cons (ss_set 7 sc_law_are_refused.nd rfl (by first | exact .inl rfl | exact .inr rfl) (se_ix (se_told (ta := true) (isE := fun n => errB n = true) (k := 15) (params := (lamP (defBody s_law_are_refused) [] 4 [0, 1]).1) (lb := (lamP (defBody s_law_are_refused) [] 4 [0, 1]).2.1) (scope := (lamP (defBody s_law_are_refused) [] 4 [0, 1]).2.2) (tb_law_told T) sc_law_told (told_law_told T) rfl (.inl rfl) (by decide) (by decide) rfl T.g_law_told.1 T.g_law_told.2 (LamX.lamS_by (sc := defScope s_law_are_refused) (by decide +kernel)) (fun _ _ _ _ _ => rfl) (hr.mono (by decide)) (fun n h => exm_err (er_ok T n h) (T.er "MeterError" (by decide)) T.si.cl) (se_lam (P := tabA K (("_law_are_refused", none), lamQ "_law_are_refused")) (B.ok (("_law_are_refused", none), lamQ "_law_are_refused") (by simp [tf])) ec rfl (LamX.lamS_by (sc := defScope s_law_are_refused) (by decide +kernel))) (fun A outer s H E f c Ξ hr tk => (se_bin (se_var 1 rfl (by first | exact .inl rfl | exact .inr (.inl rfl) | exact .inr (.inr rfl))) (se_var 2 rfl (by first | exact .inl rfl | exact .inr (.inl rfl) | exact .inr (.inr rfl))) (so_mulX (n := 4) tk T.sf_Source T.o_Source_mul.1 T.o_Source_mul.2 T.o_Source_rmul.1 T.o_Source_rmul.2 T.kt_Source_int T.kt_Source_bool (ok_Source_mulX T) (hr.mono (by decide)) (ok_Source_rmulX T) (hr.mono (by decide)))))) se_int (six hr rfl))) (sss_cons (ss_ret (se_and (se_isiErr (eB := errB) 33 30 (ie_BadMany T) T.kt_NoneType_BadMany rfl T.f_isinstance (se_var 7 rfl (by first | exact .inl rfl | exact .inr (.inl rfl) | exact .inr (.inr rfl))) (se_gref rfl T.g_BadMany.1)) (se_one (se_cmp (se_attr (se_var 7 rfl (by first | exact .inl rfl | exact .inr (.inl rfl) | exact .inr (.inr rfl))) (sat_val (er_ok T))) (se_var 2 rfl (by first | exact .inl rfl | exact .inr (.inl rfl) | exact .inr (.inr rfl))) (so_eq hr (.cons (n := 4) (S := S_Source_eq) ⟨_, _, T.nf_Source, T.o_Source_eq.1, T.o_Source_eq.2, ok_Source_eq T, (hr.mono (by decide))⟩ .nil) .nil))))) sss_nil)))))))))
  fail "n"
  repeat fail "l"
  fail "n"
  refine ⟨p, _, c, rfl, by simp, by simp, by omega, hp, fun d M1 hd t1 => ?_⟩
  have o := oddM_of (by decide +kernel) hd
  clear hd
  have ht1 := ht.pot hp t1
  fail "n"
  refine ⟨ht1.t_law_are_refused, fun o1 c1 l1 => ?_⟩
  repeat fail "l"
  fail "n"
  intro q hq
  fail "n"
  refine ⟨_, put_same, ?_⟩
  fail "n"
  refine ⟨(ht1.put hq).t_law_are_refused, fun o2 c2 l2 => ?_⟩
  repeat fail "l"
  fail "n"
  refine ⟨_, put_same, by simp, ?_⟩
  rw [put_put]
  obtain ⟨L, hL⟩ : ∃ L : List D, L = [.tup [.fn o1 c1 (lamQ "_law_are_refused"), d], .tup [.fn o2 c2 (lamQ "_law_are_refused"), d]] := ⟨_, rfl⟩
  refine ⟨L, by rw [put_same, hL]; rfl, ?_⟩
  rw [era_put hq]
  fail "n"
  refine Lp_inv (fun rest ρ M' => (∀ x ∈ rest, x ∈ L) ∧ M' = M1 ∧ ∃ x5 x6 x7, ρ = [some (.ref p), some (so v r), some (so x t), some d, some (.lst L), x5, x6, x7]) (fun _ _ _ _ => trivial) ?_ ?_ _ _ _ ⟨fun x hx => hx, rfl, none, none, none, rfl⟩
  rotate_left
  · rintro ρ M' ⟨_, rfl, x5, x6, x7, rfl⟩
    fail "n"
    refine ⟨ht1.t_law_are_refused, fun o3 c3 l3 => ?_⟩
    fail "n"
    refine ⟨l3, ?_⟩
    fail "n"
    refine ⟨rfl, rfl, v, r, _, rfl, .inr ⟨x, t, rfl⟩, ?_⟩
    refine ⟨rfl, ?_⟩
    fail "n"
    refine ⟨rfl, ?_⟩
    fail "n"
    refine ⟨rfl, ?_⟩
    fail "n"
    refine ⟨x, t, x, t, rfl, ?_⟩
    rw [decide_eq_true rfl, decide_eq_true rfl]
    exact h _ t1
  rintro d0 rest ρ M' Kc ⟨hI, rfl, x5, x6, x7, rfl⟩ hK
  have hd := hI d0 List.mem_cons_self
  rw [hL] at hd
  simp only [List.mem_cons, List.not_mem_nil, or_false] at hd
  rcases hd with rfl | rfl
  · fail "n"
    refine Or.inl ?_
    fail "n"
    refine ⟨l1, ?_⟩
    have hx := o.tn
    cases d <;> first | (exfalso; simp [D.tn] at hx; done) | skip
    all_goals (
      fail "n"
      first | refine ⟨rfl, rfl, v, r, _, rfl, .inl ⟨rfl, o.no⟩, ?_⟩ | refine ⟨rfl, rfl, v, r, _, rfl, ⟨rfl, o.no⟩, ?_⟩ | refine ⟨rfl, v, r, _, rfl, ⟨rfl, o.no⟩, ?_⟩
      refine ⟨rfl, ?_⟩
      fail "n"
      refine ⟨rfl, ?_⟩
      fail "n"
      refine ⟨rfl, ?_⟩
      fail "n"
      refine ⟨_, _, o.sz, by decide, by decide, ?_⟩
      fail "n"
      refine ⟨_, _, o.sz, by decide, by decide, ?_⟩
      fail "n"
      first | (rw [decide_eq_true rfl]; fail "n") | skip
      exact hK _ _ ⟨fun x hx => hI x (List.mem_cons_of_mem _ hx), rfl, _, _, _, rfl⟩)
  · fail "n"
    refine Or.inr ?_
    fail "n"
    refine ⟨l2, ?_⟩
    have hx := o.tn
    cases d <;> first | (exfalso; simp [D.tn] at hx; done) | skip
    all_goals (
      fail "n"
      first | refine ⟨rfl, rfl, v, r, _, rfl, .inl ⟨rfl, o.no⟩, ?_⟩ | refine ⟨rfl, rfl, v, r, _, rfl, ⟨rfl, o.no⟩, ?_⟩ | refine ⟨rfl, v, r, _, rfl, ⟨rfl, o.no⟩, ?_⟩
      refine ⟨rfl, ?_⟩
      fail "n"
      refine ⟨rfl, ?_⟩
      fail "n"
      refine ⟨rfl, ?_⟩
      fail "n"
      refine ⟨_, _, o.sz, by decide, by decide, ?_⟩
      fail "n"
      refine ⟨_, _, o.sz, by decide, by decide, ?_⟩
      fail "n"
      first | (rw [decide_eq_true rfl]; fail "n") | skip
      exact hK _ _ ⟨fun x hx => hI x (List.mem_cons_of_mem _ hx), rfl, _, _, _, rfl⟩)
end
end Lw
namespace Lw
open PySem PySem.Spec PyProof.Rows L2 DL
variable {w : World} {K : PySem.W.Frag} {mg : Str → Option Value} {base : Heap}
open SX (S)
local macro_rules | `(tactic| fail "n") => `(tactic| conv => whnf)
local macro_rules | `(tactic| fail "d") => `(tactic| first | assumption | (apply Ne.symm; assumption))
local macro_rules | `(tactic| fail "m") => `(tactic| first | exact put_same | assumption | exact (put_ne (by fail "d")).trans (by fail "m") | exact put_get (by assumption) (by fail "m"))
local macro_rules | `(tactic| fail "sl") => `(tactic| (simp only [SX.S_cat, SX.S_len, List.length_append, List.length_cons, List.length_nil]; omega))
local macro_rules | `(tactic| fail "l") => `(tactic| (fail "n"; first | refine ⟨by (simp only [List.length_cons, List.length_nil]; decide), ?_⟩ | fail "stop"))
theorem nn0 {B : Nat} {v r : Rat} (h1 : 1 ≤ B) (h : Nn B v r) : Nn B v 0 := ⟨h.v0, Rat.le_refl, h.bv, ⟨Nat.two_pow_pos B, Nat.one_lt_two_pow (by omega)⟩⟩
theorem prs2 {qs : List (Rat × Rat)} (h : qs.length = 2) : ∃ a b, qs = [a, b] := by
  match qs, h with
  | [a, b], _ => exact ⟨a, b, rfl⟩
def prD (q : Rat × Rat) : D := .tup [rt q.1, rt q.2]
def S_law_pair_right (K : PySem.W.Frag) : FS := fun ds M Φ => ∃ (p : Addr) (c : Nat), ds = [.ref p] ∧ c + 30 ≤ 1000000 ∧ Pot M p c ∧ Tabs K M ∧ ∀ M', PotTo M p M' (c + 30) → Φ (.bl true) M'
section
local macro_rules | `(tactic| fail "v") => `(tactic| first
  | ((with_reducible refine at_name "_law_pot_here" ?_); refine we_var 0 rfl (by fail "vis") rfl ?_)
  | ((with_reducible refine at_name "_law_first" ?_); refine we_var 1 rfl (by fail "vis") rfl ?_)
  | ((with_reducible refine at_name "_law_second" ?_); refine we_var 2 rfl (by fail "vis") rfl ?_)
  | ((with_reducible refine at_name "_law_lap" ?_); refine we_var 3 rfl (by fail "vis") rfl ?_)
  | ((with_reducible refine at_name "_law_way" ?_); refine we_var 4 rfl (by fail "vis") rfl ?_)
  | ((with_reducible refine at_name "_law_many" ?_); refine we_var 5 rfl (by fail "vis") rfl ?_)
  | ((with_reducible refine at_name "_law_one" ?_); refine we_var 6 rfl (by fail "vis") rfl ?_)
  | ((with_reducible refine at_name "_law_other" ?_); refine we_var 7 rfl (by fail "vis") rfl ?_)
  | ((with_reducible refine at_name "_law_due" ?_); refine we_var 8 rfl (by fail "vis") rfl ?_))
def n_law_pair_right : List Str := ["_law_pot_here", "_law_first", "_law_second", "_law_lap", "_law_way", "_law_many", "_law_one", "_law_other", "_law_due"]
theorem ok_law_pair_right (T : Tx K mg w) (B : TbC K mg base) : FnG P w K mg base CX0 (19 + 1) (He.ga K "_law_pair_right") (spD (Cs K w) (S_law_pair_right K)) := by
  obtain ⟨fd, Fd⟩ := T.e_law_pair_right
  have b := Fd.bindsN (ps := ["_law_pot_here"]) fun _ _ _ _ _ _ us hl => match us, hl with | [_], _ => rfl
  refine fn_D [] Fd sc_law_pair_right b .nil (fun _ _ => .nil) (fun ds M Φ h => by obtain ⟨p, c, rfl, hc, hp, ht, h⟩ := h <;> rfl) ?_
  rintro cdv A outer s H as M Φ hr ⟨p, c, rfl, hc, hp, ht, h⟩
  (apply run_of; (· exact (sss_cons (ss_asg (se_lc rfl sc_law_pair_right.nd (blkOk_by (N := n_law_pair_right) (sc := defScope s_law_pair_right) (own := [("_law_lap", 3)]) (by decide +kernel)) (fun _ _ _ _ _ => pg_name (i := 3) sc_law_pair_right.nd rfl (by first | exact .inl rfl | exact .inr rfl)) (tg_name (j := 3) (by decide)) (mono_N 3) (si_range rfl T.f_range se_int) (fun _ _ _ _ _ => (se_tup (sa_cons (se_call (ok_law_ratio T) (hr.mono (by decide)) rfl T.g_law_ratio.1 T.g_law_ratio.2 (sa_cons (se_var 0 rfl (by first | exact .inl rfl | exact .inr (.inl rfl) | exact .inr (.inr rfl))) sa_nil)) (sa_cons (se_call (ok_law_ratio T) (hr.mono (by decide)) rfl T.g_law_ratio.1 T.g_law_ratio.2 (sa_cons (se_var 0 rfl (by first | exact .inl rfl | exact .inr (.inl rfl) | exact .inr (.inr rfl))) sa_nil)) sa_nil))))) (sg_tup rfl (sgs_n (sg_name 1 sc_law_pair_right.nd rfl (by first | exact .inl rfl | exact .inr rfl)) (sgs_n (sg_name 2 sc_law_pair_right.nd rfl (by first | exact .inl rfl | exact .inr rfl)) sgs_nil)))) (sss_cons (ss_par 4 5 rfl sc_law_pair_right.nd (sa_cons (se_call (ok_law_take T) (hr.mono (by decide)) rfl T.g_law_take.1 T.g_law_take.2 (sa_cons (se_var 0 rfl (by first | exact .inl rfl | exact .inr (.inl rfl) | exact .inr (.inr rfl))) (sa_cons se_int sa_nil))) (sa_cons (se_call (ok_law_of T) (hr.mono (by decide)) rfl T.g_law_of.1 T.g_law_of.2 (sa_cons (se_var 0 rfl (by first | exact .inl rfl | exact .inr (.inl rfl) | exact .inr (.inr rfl))) (sa_cons (se_lst (sa_cons se_int (sa_cons se_int (sa_cons se_int (sa_cons (se_call (ok_law_take T) (hr.mono (by decide)) rfl T.g_law_take.1 T.g_law_take.2 (sa_cons (se_var 0 rfl (by first | exact .inl rfl | exact .inr (.inl rfl) | exact .inr (.inr rfl))) (sa_cons se_int sa_nil))) (sa_cons (se_bin se_int se_int so_pow) sa_nil)))))) sa_nil))) sa_nil))) (sss_cons (ss_set 1 sc_law_pair_right.nd rfl (by first | exact .inl rfl | exact .inr rfl) (se_if (st_cmp (se_var 4 rfl (by first | exact .inl rfl | exact .inr (.inl rfl) | exact .inr (.inr rfl))) se_int (so_lt .nil)) (se_tup (sa_cons (se_ix (se_var 1 rfl (by first | exact .inl rfl | exact .inr (.inl rfl) | exact .inr (.inr rfl))) se_int (six hr rfl)) (sa_cons (se_tup (sa_cons se_int (sa_cons se_int sa_nil))) sa_nil))) (se_var 1 rfl (by first | exact .inl rfl | exact .inr (.inl rfl) | exact .inr (.inr rfl))))) (sss_cons (ss_set 2 sc_law_pair_right.nd rfl (by first | exact .inl rfl | exact .inr rfl) (se_if (st_cmp (se_var 4 rfl (by first | exact .inl rfl | exact .inr (.inl rfl) | exact .inr (.inr rfl))) se_int (so_eq hr (.cons (n := 4) (S := S_Source_eq) ⟨_, _, T.nf_Source, T.o_Source_eq.1, T.o_Source_eq.2, ok_Source_eq T, (hr.mono (by decide))⟩ .nil) .nil)) (se_tup (sa_cons (se_ix (se_var 2 rfl (by first | exact .inl rfl | exact .inr (.inl rfl) | exact .inr (.inr rfl))) se_int (six hr rfl)) (sa_cons (se_tup (sa_cons se_int (sa_cons se_int sa_nil))) sa_nil))) (se_var 2 rfl (by first | exact .inl rfl | exact .inr (.inl rfl) | exact .inr (.inr rfl))))) (sss_cons (ss_par 6 7 rfl sc_law_pair_right.nd (sa_cons (se_make (n := 4) T.mk_Source (ok_Source_init T) mk_Source (hr.mono (by decide)) rfl T.g_Source.1 (sa_cons (se_ix (se_var 1 rfl (by first | exact .inl rfl | exact .inr (.inl rfl) | exact .inr (.inr rfl))) se_int (six hr rfl)) (sa_cons (se_ix (se_var 1 rfl (by first | exact .inl rfl | exact .inr (.inl rfl) | exact .inr (.inr rfl))) se_int (six hr rfl)) sa_nil))) (sa_cons (se_make (n := 4) T.mk_Source (ok_Source_init T) mk_Source (hr.mono (by decide)) rfl T.g_Source.1 (sa_cons (se_ix (se_var 2 rfl (by first | exact .inl rfl | exact .inr (.inl rfl) | exact .inr (.inr rfl))) se_int (six hr rfl)) (sa_cons (se_ix (se_var 2 rfl (by first | exact .inl rfl | exact .inr (.inl rfl) | exact .inr (.inr rfl))) se_int (six hr rfl)) sa_nil))) sa_nil))) (sss_cons (ss_if (st_not (st_val (se_call (ok_law_is_so T) (hr.mono (by decide)) rfl T.g_law_is_so.1 T.g_law_is_so.2 (sa_cons (se_bin (se_var 6 rfl (by first | exact .inl rfl | exact .inr (.inl rfl) | exact .inr (.inr rfl))) (se_var 7 rfl (by first | exact .inl rfl | exact .inr (.inl rfl) | exact .inr (.inr rfl))) (so_add (.cons (n := 4) (S := S_Source_add) ⟨_, _, T.sf_Source, T.o_Source_add.1, T.o_Source_add.2, ok_Source_add T, (hr.mono (by decide))⟩ .nil))) (sa_cons (se_tup (sa_cons (se_call (ok_law_plus T) (hr.mono (by decide)) rfl T.g_law_plus.1 T.g_law_plus.2 (sa_cons (se_ix (se_var 1 rfl (by first | exact .inl rfl | exact .inr (.inl rfl) | exact .inr (.inr rfl))) se_int (six hr rfl)) (sa_cons (se_ix (se_var 2 rfl (by first | exact .inl rfl | exact .inr (.inl rfl) | exact .inr (.inr rfl))) se_int (six hr rfl)) sa_nil))) (sa_cons (se_call (ok_law_plus T) (hr.mono (by decide)) rfl T.g_law_plus.1 T.g_law_plus.2 (sa_cons (se_ix (se_var 1 rfl (by first | exact .inl rfl | exact .inr (.inl rfl) | exact .inr (.inr rfl))) se_int (six hr rfl)) (sa_cons (se_ix (se_var 2 rfl (by first | exact .inl rfl | exact .inr (.inl rfl) | exact .inr (.inr rfl))) se_int (six hr rfl)) sa_nil))) sa_nil))) sa_nil))))) (sss_one (ss_ret se_bl)) sss_nil) (sss_cons (ss_if (st_w (sw_or (st_not (st_val (se_call (ok_law_is_side_by_side T B) (hr.mono (by decide)) rfl T.g_law_is_side_by_side.1 T.g_law_is_side_by_side.2 (sa_cons (se_var 6 rfl (by first | exact .inl rfl | exact .inr (.inl rfl) | exact .inr (.inr rfl))) (sa_cons (se_var 7 rfl (by first | exact .inl rfl | exact .inr (.inl rfl) | exact .inr (.inr rfl))) (sa_cons (se_var 1 rfl (by first | exact .inl rfl | exact .inr (.inl rfl) | exact .inr (.inr rfl))) (sa_cons (se_var 2 rfl (by first | exact .inl rfl | exact .inr (.inl rfl) | exact .inr (.inr rfl))) sa_nil))))))) (sw_or1 (st_not (st_val (se_call (ok_law_is_side_by_side T B) (hr.mono (by decide)) rfl T.g_law_is_side_by_side.1 T.g_law_is_side_by_side.2 (sa_cons (se_var 7 rfl (by first | exact .inl rfl | exact .inr (.inl rfl) | exact .inr (.inr rfl))) (sa_cons (se_var 6 rfl (by first | exact .inl rfl | exact .inr (.inl rfl) | exact .inr (.inr rfl))) (sa_cons (se_var 2 rfl (by first | exact .inl rfl | exact .inr (.inl rfl) | exact .inr (.inr rfl))) (sa_cons (se_var 1 rfl (by first | exact .inl rfl | exact .inr (.inl rfl) | exact .inr (.inr rfl))) sa_nil)))))))))) (sss_one (ss_ret se_bl)) sss_nil) (sss_cons (ss_set 8 sc_law_pair_right.nd rfl (by first | exact .inl rfl | exact .inr rfl) (se_tup (sa_cons (se_call (ok_law_times T) (hr.mono (by decide)) rfl T.g_law_times.1 T.g_law_times.2 (sa_cons (se_tup (sa_cons (se_var 5 rfl (by first | exact .inl rfl | exact .inr (.inl rfl) | exact .inr (.inr rfl))) (sa_cons se_int sa_nil))) (sa_cons (se_ix (se_var 1 rfl (by first | exact .inl rfl | exact .inr (.inl rfl) | exact .inr (.inr rfl))) se_int (six hr rfl)) sa_nil))) (sa_cons (se_ix (se_var 1 rfl (by first | exact .inl rfl | exact .inr (.inl rfl) | exact .inr (.inr rfl))) se_int (six hr rfl)) sa_nil)))) (sss_cons (ss_if (st_w (sw_or (st_not (st_val (se_call (ok_law_is_so T) (hr.mono (by decide)) rfl T.g_law_is_so.1 T.g_law_is_so.2 (sa_cons (se_bin (se_var 6 rfl (by first | exact .inl rfl | exact .inr (.inl rfl) | exact .inr (.inr rfl))) (se_var 5 rfl (by first | exact .inl rfl | exact .inr (.inl rfl) | exact .inr (.inr rfl))) (so_mulN (n := 4) T.sf_Source T.o_Source_mul.1 T.o_Source_mul.2 T.o_Source_rmul.1 T.o_Source_rmul.2 T.ne_Source.no (ok_Source_mul T) (hr.mono (by decide)) (ok_Source_rmul T) (hr.mono (by decide)))) (sa_cons (se_var 8 rfl (by first | exact .inl rfl | exact .inr (.inl rfl) | exact .inr (.inr rfl))) sa_nil))))) (sw_or (st_not (st_val (se_call (ok_law_is_so T) (hr.mono (by decide)) rfl T.g_law_is_so.1 T.g_law_is_so.2 (sa_cons (se_bin (se_var 5 rfl (by first | exact .inl rfl | exact .inr (.inl rfl) | exact .inr (.inr rfl))) (se_var 6 rfl (by first | exact .inl rfl | exact .inr (.inl rfl) | exact .inr (.inr rfl))) (so_mulN (n := 4) T.sf_Source T.o_Source_mul.1 T.o_Source_mul.2 T.o_Source_rmul.1 T.o_Source_rmul.2 T.ne_Source.no (ok_Source_mul T) (hr.mono (by decide)) (ok_Source_rmul T) (hr.mono (by decide)))) (sa_cons (se_var 8 rfl (by first | exact .inl rfl | exact .inr (.inl rfl) | exact .inr (.inr rfl))) sa_nil))))) (sw_or1 (st_not (st_val (se_call (ok_law_are_refused T B) (hr.mono (by decide)) rfl T.g_law_are_refused.1 T.g_law_are_refused.2 (sa_cons (se_var 0 rfl (by first | exact .inl rfl | exact .inr (.inl rfl) | exact .inr (.inr rfl))) (sa_cons (se_var 6 rfl (by first | exact .inl rfl | exact .inr (.inl rfl) | exact .inr (.inr rfl))) (sa_cons (se_var 7 rfl (by first | exact .inl rfl | exact .inr (.inl rfl) | exact .inr (.inr rfl))) sa_nil)))))))))) (sss_one (ss_ret se_bl)) sss_nil) (sss_one (ss_ret (se_and (se_call (ok_law_is_so T) (hr.mono (by decide)) rfl T.g_law_is_so.1 T.g_law_is_so.2 (sa_cons (se_var 6 rfl (by first | exact .inl rfl | exact .inr (.inl rfl) | exact .inr (.inr rfl))) (sa_cons (se_var 1 rfl (by first | exact .inl rfl | exact .inr (.inl rfl) | exact .inr (.inr rfl))) sa_nil))) (se_one (se_call (ok_law_is_so T) (hr.mono (by decide)) rfl T.g_law_is_so.1 T.g_law_is_so.2 (sa_cons (se_var 7 rfl (by first | exact .inl rfl | exact .inr (.inl rfl) | exact .inr (.inr rfl))) (sa_cons (se_var 2 rfl (by first | exact .inl rfl | exact .inr (.inl rfl) | exact .inr (.inr rfl))) sa_nil))))))))))))))))))
  fail "n"
  refine ⟨by decide, by decide, by decide, ?_⟩
  refine Cp_inv (fun rest acc M' => ∃ qs : List (Rat × Rat), acc = qs.map prD ∧ (∀ q ∈ qs, Nn 28 q.1 q.2) ∧ qs.length + rest.length = 2 ∧ PotTo M p M' (c + 10 * qs.length)) (fun _ _ _ _ => trivial) ?_ ?_ _ _ _ ⟨[], rfl, (fun _ z => nomatch z), rfl, .refl hp⟩
  · rintro d rest acc M2 Ψ ⟨qs, rfl, e1, e2, e3⟩ hΨ
    rw [List.length_cons] at e2
    fail "n"
    refine ⟨p, _, rfl, by omega, e3.pot, fun q1 M3 a0 b1 t1 => ?_⟩
    fail "n"
    refine ⟨p, _, rfl, by omega, t1.pot, fun q2 M4 a1 b2 t2 => ?_⟩
    repeat fail "l"
    fail "n"
    refine hΨ _ _ ⟨qs ++ [(q1, q2)], by rw [List.map_append]; rfl, fun x hx => ?_, by rw [List.length_append]; simp; omega, ((e3.trans t1).trans t2).mono (by rw [List.length_append]; simp; omega)⟩
    rcases List.mem_append.mp hx with z | z
    · exact e1 x z
    · rw [List.mem_singleton.mp z]; exact ⟨a0, a1, b1, b2⟩
  rintro acc M1 ⟨qs, rfl, e1, e2, t1⟩
  obtain ⟨⟨v, r⟩, ⟨x, t⟩, rfl⟩ := prs2 (show qs.length = 2 from e2)
  have n1 : Nn 28 v r := e1 (v, r) (by simp)
  have n2 : Nn 28 x t := e1 (x, t) (by simp)
  clear e1 e2
  have t1 : PotTo M p M1 (c + 20) := t1.mono (by simp)
  have n10 := nn0 (by decide) n1
  have n20 := nn0 (by decide) n2
  fail "n"
  refine ⟨p, 4, _, rfl, by decide, by decide, by omega, t1.pot, fun wy M2 w0 w1 t2 => ?_⟩
  fail "n"
  refine ⟨p, 50, _, rfl, by decide, by decide, by omega, t2.pot, fun k M3 k0 k1 t3 => ?_⟩
  fail "n"
  refine ⟨by decide +kernel, ?_⟩
  rw [ten8]
  fail "n"
  refine ⟨by simp, ?_⟩
  fail "n"
  refine ⟨p, _, _, rfl, by simp, by simp, by omega, t3.pot, fun d M4 hd t4 => ?_⟩
  have t12 : PotTo M p M4 (c + 23) := (((t1.trans t2).trans t3).trans t4).mono (by simp)
  have key : ∃ a : Int, d = .int a ∧ 0 ≤ a ∧ a.natAbs < 2 ^ 28 := by
    simp only [List.mem_cons, List.not_mem_nil, or_false] at hd
    rcases hd with rfl | rfl | rfl | rfl | rfl
    · exact ⟨_, rfl, by decide, by decide⟩
    · exact ⟨_, rfl, by decide, by decide⟩
    · exact ⟨_, rfl, by decide, by decide⟩
    · exact ⟨_, rfl, k0, Nat.lt_of_lt_of_le (show k.natAbs < 2 ^ 6 by omega) (Nat.pow_le_pow_right (by decide) (by decide))⟩
    · exact ⟨_, rfl, by decide, by decide⟩
  obtain ⟨m, rfl, m0, mn⟩ := key
  have bm : Bz 28 (m : Rat) := Bz.ofI mn (by decide)
  clear hd
  fail "n"
  cases ew : decide (wy < 2)
  · fail "n"
    cases ez : decide (wy = 0)
    · fail "n"
      repeat fail "l"
      fail "n"
      refine ⟨v, r, rfl, n1.v0, n1.r0, n1.bv.mono (by decide), n1.br.mono (by decide), ?_⟩
      fail "n"
      refine ⟨x, t, rfl, n2.v0, n2.r0, n2.bv.mono (by decide), n2.br.mono (by decide), ?_⟩
      repeat fail "l"
      fail "n"
      refine ⟨v, r, x, t, 28, rfl, by decide, n1, n2, ?_⟩
      fail "n"
      refine ⟨v, x, 28, rfl, by decide, n1.bv, n2.bv, ?_⟩
      fail "n"
      refine ⟨r, t, 28, rfl, by decide, n1.br, n2.br, ?_⟩
      repeat fail "l"
      fail "n"
      refine ⟨_, _, rfl, (n1.bv.add n2.bv).mono (by decide), (n1.br.add n2.br).mono (by decide), ?_⟩
      fail "n"
      refine ⟨v, r, x, t, rfl, n1, n2, ht.pot hp t12, ?_⟩
      fail "n"
      refine ⟨x, t, v, r, rfl, n2, n1, ht.pot hp t12, ?_⟩
      repeat fail "l"
      fail "n"
      refine ⟨(m : Rat), v, 28, rfl, by decide, bm, n1.bv, ?_⟩
      rw [Rat.mul_comm (m : Rat) v]
      repeat fail "l"
      fail "n"
      refine ⟨rfl, v, r, m, 28, rfl, by decide, by decide, n1, m0, mn, ?_⟩
      fail "n"
      refine ⟨_, _, rfl, (n1.bv.mul bm).mono (by decide), n1.br.mono (by decide), ?_⟩
      fail "n"
      refine ⟨rfl, v, r, m, 28, rfl, by decide, by decide, n1, m0, mn, ?_⟩
      fail "n"
      refine ⟨_, _, rfl, (n1.bv.mul bm).mono (by decide), n1.br.mono (by decide), ?_⟩
      fail "n"
      refine ⟨p, c + 23, v, r, x, t, rfl, by omega, t12.pot, ht.pot hp t12, fun M5 t5 => ?_⟩
      fail "n"
      refine ⟨v, r, rfl, n1.bv.mono (by decide), n1.br.mono (by decide), ?_⟩
      fail "n"
      refine ⟨x, t, rfl, n2.bv.mono (by decide), n2.br.mono (by decide), ?_⟩
      exact h M5 ((t12.trans t5).mono (by omega))
    · fail "n"
      repeat fail "l"
      fail "n"
      refine ⟨v, r, rfl, n1.v0, n1.r0, n1.bv.mono (by decide), n1.br.mono (by decide), ?_⟩
      fail "n"
      refine ⟨x, 0, rfl, n20.v0, n20.r0, n20.bv.mono (by decide), n20.br.mono (by decide), ?_⟩
      repeat fail "l"
      fail "n"
      refine ⟨v, r, x, 0, 28, rfl, by decide, n1, n20, ?_⟩
      fail "n"
      refine ⟨v, x, 28, rfl, by decide, n1.bv, n20.bv, ?_⟩
      fail "n"
      refine ⟨r, 0, 28, rfl, by decide, n1.br, n20.br, ?_⟩
      repeat fail "l"
      fail "n"
      refine ⟨_, _, rfl, (n1.bv.add n20.bv).mono (by decide), (n1.br.add n20.br).mono (by decide), ?_⟩
      fail "n"
      refine ⟨v, r, x, 0, rfl, n1, n20, ht.pot hp t12, ?_⟩
      fail "n"
      refine ⟨x, 0, v, r, rfl, n20, n1, ht.pot hp t12, ?_⟩
      repeat fail "l"
      fail "n"
      refine ⟨(m : Rat), v, 28, rfl, by decide, bm, n1.bv, ?_⟩
      rw [Rat.mul_comm (m : Rat) v]
      repeat fail "l"
      fail "n"
      refine ⟨rfl, v, r, m, 28, rfl, by decide, by decide, n1, m0, mn, ?_⟩
      fail "n"
      refine ⟨_, _, rfl, (n1.bv.mul bm).mono (by decide), n1.br.mono (by decide), ?_⟩
      fail "n"
      refine ⟨rfl, v, r, m, 28, rfl, by decide, by decide, n1, m0, mn, ?_⟩
      fail "n"
      refine ⟨_, _, rfl, (n1.bv.mul bm).mono (by decide), n1.br.mono (by decide), ?_⟩
      fail "n"
      refine ⟨p, c + 23, v, r, x, 0, rfl, by omega, t12.pot, ht.pot hp t12, fun M5 t5 => ?_⟩
      fail "n"
      refine ⟨v, r, rfl, n1.bv.mono (by decide), n1.br.mono (by decide), ?_⟩
      fail "n"
      refine ⟨x, 0, rfl, n20.bv.mono (by decide), n20.br.mono (by decide), ?_⟩
      exact h M5 ((t12.trans t5).mono (by omega))
  · repeat fail "l"
    fail "n"
    cases ez : decide (wy = 0)
    · fail "n"
      repeat fail "l"
      fail "n"
      refine ⟨v, 0, rfl, n10.v0, n10.r0, n10.bv.mono (by decide), n10.br.mono (by decide), ?_⟩
      fail "n"
      refine ⟨x, t, rfl, n2.v0, n2.r0, n2.bv.mono (by decide), n2.br.mono (by decide), ?_⟩
      repeat fail "l"
      fail "n"
      refine ⟨v, 0, x, t, 28, rfl, by decide, n10, n2, ?_⟩
      fail "n"
      refine ⟨v, x, 28, rfl, by decide, n10.bv, n2.bv, ?_⟩
      fail "n"
      refine ⟨0, t, 28, rfl, by decide, n10.br, n2.br, ?_⟩
      repeat fail "l"
      fail "n"
      refine ⟨_, _, rfl, (n10.bv.add n2.bv).mono (by decide), (n10.br.add n2.br).mono (by decide), ?_⟩
      fail "n"
      refine ⟨v, 0, x, t, rfl, n10, n2, ht.pot hp t12, ?_⟩
      fail "n"
      refine ⟨x, t, v, 0, rfl, n2, n10, ht.pot hp t12, ?_⟩
      repeat fail "l"
      fail "n"
      refine ⟨(m : Rat), v, 28, rfl, by decide, bm, n10.bv, ?_⟩
      rw [Rat.mul_comm (m : Rat) v]
      repeat fail "l"
      fail "n"
      refine ⟨rfl, v, 0, m, 28, rfl, by decide, by decide, n10, m0, mn, ?_⟩
      fail "n"
      refine ⟨_, _, rfl, (n10.bv.mul bm).mono (by decide), n10.br.mono (by decide), ?_⟩
      fail "n"
      refine ⟨rfl, v, 0, m, 28, rfl, by decide, by decide, n10, m0, mn, ?_⟩
      fail "n"
      refine ⟨_, _, rfl, (n10.bv.mul bm).mono (by decide), n10.br.mono (by decide), ?_⟩
      fail "n"
      refine ⟨p, c + 23, v, 0, x, t, rfl, by omega, t12.pot, ht.pot hp t12, fun M5 t5 => ?_⟩
      fail "n"
      refine ⟨v, 0, rfl, n10.bv.mono (by decide), n10.br.mono (by decide), ?_⟩
      fail "n"
      refine ⟨x, t, rfl, n2.bv.mono (by decide), n2.br.mono (by decide), ?_⟩
      exact h M5 ((t12.trans t5).mono (by omega))
    · fail "n"
      repeat fail "l"
      fail "n"
      refine ⟨v, 0, rfl, n10.v0, n10.r0, n10.bv.mono (by decide), n10.br.mono (by decide), ?_⟩
      fail "n"
      refine ⟨x, 0, rfl, n20.v0, n20.r0, n20.bv.mono (by decide), n20.br.mono (by decide), ?_⟩
      repeat fail "l"
      fail "n"
      refine ⟨v, 0, x, 0, 28, rfl, by decide, n10, n20, ?_⟩
      fail "n"
      refine ⟨v, x, 28, rfl, by decide, n10.bv, n20.bv, ?_⟩
      fail "n"
      refine ⟨0, 0, 28, rfl, by decide, n10.br, n20.br, ?_⟩
      repeat fail "l"
      fail "n"
      refine ⟨_, _, rfl, (n10.bv.add n20.bv).mono (by decide), (n10.br.add n20.br).mono (by decide), ?_⟩
      fail "n"
      refine ⟨v, 0, x, 0, rfl, n10, n20, ht.pot hp t12, ?_⟩
      fail "n"
      refine ⟨x, 0, v, 0, rfl, n20, n10, ht.pot hp t12, ?_⟩
      repeat fail "l"
      fail "n"
      refine ⟨(m : Rat), v, 28, rfl, by decide, bm, n10.bv, ?_⟩
      rw [Rat.mul_comm (m : Rat) v]
      repeat fail "l"
      fail "n"
      refine ⟨rfl, v, 0, m, 28, rfl, by decide, by decide, n10, m0, mn, ?_⟩
      fail "n"
      refine ⟨_, _, rfl, (n10.bv.mul bm).mono (by decide), n10.br.mono (by decide), ?_⟩
      fail "n"
      refine ⟨rfl, v, 0, m, 28, rfl, by decide, by decide, n10, m0, mn, ?_⟩
      fail "n"
      refine ⟨_, _, rfl, (n10.bv.mul bm).mono (by decide), n10.br.mono (by decide), ?_⟩
      fail "n"
      refine ⟨p, c + 23, v, 0, x, 0, rfl, by omega, t12.pot, ht.pot hp t12, fun M5 t5 => ?_⟩
      fail "n"
      refine ⟨v, 0, rfl, n10.bv.mono (by decide), n10.br.mono (by decide), ?_⟩
      fail "n"
      refine ⟨x, 0, rfl, n20.bv.mono (by decide), n20.br.mono (by decide), ?_⟩
      exact h M5 ((t12.trans t5).mono (by omega))
end
def S_law (K : PySem.W.Frag) : FS := fun ds M Φ => ∃ ns : List Int, ds = [.lst (ns.map D.int)] ∧ ns.length ≤ 100 ∧ Tabs K M ∧ ∀ M', Φ (.bl true) M'
section
local macro_rules | `(tactic| fail "v") => `(tactic| first
  | ((with_reducible refine at_name "_law_script" ?_); refine we_var 0 rfl (by fail "vis") rfl ?_)
  | ((with_reducible refine at_name "_law_place" ?_); refine we_var 1 rfl (by fail "vis") rfl ?_)
  | ((with_reducible refine at_name "_law_pot_here" ?_); refine we_var 2 rfl (by fail "vis") rfl ?_)
  | ((with_reducible refine at_name "_law_lap" ?_); refine we_var 3 rfl (by fail "vis") rfl ?_))
def n_law : List Str := ["_law_script", "_law_place", "_law_pot_here", "_law_lap"]
theorem ok_law (T : Tx K mg w) (B : TbC K mg base) : FnG P w K mg base CX0 (21 + 1) (He.ga K "law") (spD (Cs K w) (S_law K)) := by
  obtain ⟨fd, Fd⟩ := T.e_law
  have b := Fd.bindsN (ps := ["_law_script"]) fun _ _ _ _ _ _ us hl => match us, hl with | [_], _ => rfl
  refine fn_D [] Fd sc_law b .nil (fun _ _ => .nil) (fun ds M Φ h => by obtain ⟨ns, rfl, hl, ht, h⟩ := h <;> rfl) ?_
  rintro cdv A outer s H as M Φ hr ⟨ns, rfl, hl, ht, h⟩
  (apply run_of; (· exact (sss_cons (ss_for PassesOwn.never rfl (si_lst (se_call (ok_law_cells T) (hr.mono (by decide)) rfl T.g_law_cells.1 T.g_law_cells.2 (sa_cons (se_var 0 rfl (by first | exact .inl rfl | exact .inr (.inl rfl) | exact .inr (.inr rfl))) (sa_cons se_int sa_nil)))) (sg_name 1 sc_law.nd rfl (by first | exact .inl rfl | exact .inr rfl)) (sss_cons (ss_set 2 sc_law.nd rfl (by first | exact .inl rfl | exact .inr rfl) (se_call (ok_law_pot T) (hr.mono (by decide)) rfl T.g_law_pot.1 T.g_law_pot.2 (sa_cons (se_var 0 rfl (by first | exact .inl rfl | exact .inr (.inl rfl) | exact .inr (.inr rfl))) (sa_cons (se_var 1 rfl (by first | exact .inl rfl | exact .inr (.inl rfl) | exact .inr (.inr rfl))) sa_nil)))) (sss_one (ss_if (st_not (st_val (se_callB rfl T.f_all bb_all (sa_cons (se_lc rfl sc_law.nd (blkOk_by (N := n_law) (sc := defScope s_law) (own := [("_law_lap", 3)]) (by decide +kernel)) (fun _ _ _ _ _ => pg_name (i := 3) sc_law.nd rfl (by first | exact .inl rfl | exact .inr rfl)) (tg_name (j := 3) (by decide)) (mono_N 3) (si_range rfl T.f_range se_int) (fun _ _ _ _ _ => (se_call (ok_law_pair_right T B) (hr.mono (by decide)) rfl T.g_law_pair_right.1 T.g_law_pair_right.2 (sa_cons (se_var 2 rfl (by first | exact .inl rfl | exact .inr (.inl rfl) | exact .inr (.inr rfl))) sa_nil)))) sa_nil) (sc_all rfl)))) (sss_one (ss_ret se_bl)) sss_nil)))) (sss_one (ss_ret se_bl)))))
  fail "n"
  refine ⟨ns, _, rfl, by decide, fun k hk => ?_⟩
  fail "n"
  refine Lp_mapA (fun i : Nat => D.int (i : Nat)) (fun rest ρ M' => (∀ i ∈ rest, i < k) ∧ Tabs K M' ∧ ∃ x y, ρ = [some (.lst (ns.map D.int)), x, y, none]) (fun _ _ _ _ => trivial) ?_ ?_ _ _ _ ⟨fun i hi => List.mem_range.mp hi, ht, none, none, rfl⟩
  · rintro i rest ρ M' Kc ⟨hi, ht, x, y, rfl⟩ hK
    have hik := hi i List.mem_cons_self
    fail "n"
    refine ⟨ns, i, rfl, by omega, by omega, fun p o sd hp v => ?_⟩
    fail "n"
    refine ⟨by decide, by decide, ?_⟩
    have pot : Pot (put M' p (.lst [.int o, .int sd, .int 0])) p 0 := ⟨o, sd, 0, put_same, v⟩
    have ht2 := ht.put (n := .lst [.int o, .int sd, .int 0]) hp
    refine ⟨by decide, ?_⟩
    refine Cp_inv (fun rest acc M2 => ∃ bs : List Bool, acc = bs.map D.bl ∧ (∀ b ∈ bs, b = true) ∧ bs.length + rest.length = 6 ∧ Pot M2 p (30 * bs.length) ∧ Tabs K M2) (fun _ _ _ _ => trivial) ?_ ?_ _ _ _ ⟨[], rfl, (fun _ z => nomatch z), rfl, pot, ht2⟩
    · rintro d rest acc M2 Ψ ⟨bs, rfl, e1, e2, e3, e4⟩ hΨ
      rw [List.length_cons] at e2
      fail "n"
      refine ⟨p, _, rfl, by omega, e3, e4, fun M3 t => ?_⟩
      refine hΨ _ _ ⟨bs ++ [true], by rw [List.map_append]; rfl, fun b hb => ?_, by rw [List.length_append]; simp; omega, ?_, e4.pot e3 t⟩
      · rcases List.mem_append.mp hb with hb | hb
        · exact e1 b hb
        · exact List.mem_singleton.mp hb
      · exact t.pot.mono (by rw [List.length_append]; simp; omega)
    · rintro acc M2 ⟨bs, rfl, e1, e2, e3, e4⟩
      fail "n"
      refine ⟨bs, rfl, ?_⟩
      rw [show bs.all id = true from List.all_eq_true.mpr e1]
      fail "n"
      exact hK _ _ ⟨fun j hj => hi j (List.mem_cons_of_mem _ hj), e4, _, _, rfl⟩
  · rintro ρ M' ⟨_, _, x, y, rfl⟩
    exact h M'
end
end Lw
open PySem PySem.W PySem.Calls PyProof.Rows
theorem PySem.Challenge.cw_rangehunt_k02_sources_put_together_holds : PySem.Challenge.rw_rangehunt_k02_sources_put_together.Holds := by
  w_on; o_law
  refine HandSHeadRun.head_any (r := Lw.R) (q := view Lw.R.prog [Lw.lawAt]) (H := Lw.hkN) (ob := Lw.obN) (M := 12000) (loose := Lw.loose) (d := HandSHeadRun.topDef Lw.R.prog Lw.lawAt) (kwd := []) Lw.obN_eq
    (by kernel_rfl) (fun s => by kernel_rfl) Lw.run (by kernel_rfl) (by kernel_rfl) (by kernel_rfl) (by rfl) (by first | assumption | decide +kernel) (by decide +kernel) ⟨rfl, rfl, rfl, rfl, rfl, by decide +kernel⟩ ?hw ?hc
  case hw => w_witness2
  case hc =>
    refine DL.walk_T (tf := Lw.tf) (l := PySem.Challenge.rw_rangehunt_k02_sources_put_together) (n := 63) (k := 22) (S := Lw.S_law) (Cs := Lw.Cs) rfl (by decide) (by kernel_rfl) (by kernel_rfl) (DL.room0.mono (by decide)) ?F (fun K ns h ht => ⟨ns, rfl, by omega, Lw.Tabs.of ht, fun _ => rfl⟩) (fun _ _ _ _ _ => trivial)
    intro w K mg h base KX G c TB
    exact Lw.ok_law (Lw.tx_mk KX G c) ⟨TB⟩
