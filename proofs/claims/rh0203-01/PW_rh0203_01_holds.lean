import PyProof.Rows.All
import Wide.All
import OpenK.AllK
import Wide.FinOn
import PySem.Challenge.RW_rh0203_01
open PySem PySem.W PyProof.Rows
set_option Elab.async false
set_option autoImplicit false
set_option linter.unusedVariables false
set_option linter.unusedSimpArgs false
set_option maxRecDepth 100000
namespace Mine
set_option maxHeartbeats 8000000
open_top hd for PySem.Challenge.rw_rh0203_01
end Mine
namespace Mine

/-- pure data -/
inductive D where
  | none
  | bool (b : Bool)
  | int (i : Int)
  | str (x : Str)
  | tup (ds : List D)
  | ref (a : Addr)
  | rng (i j k : Int)

mutual
inductive RV (h : Heap) : Value → D → Prop
  | none : RV h Value.none D.none
  | bool (b : Bool) : RV h (Value.bool b) (D.bool b)
  | int (i : Int) (t : Tok) : RV h (Value.int i t) (D.int i)
  | str (x : Str) (t : Tok) : RV h (Value.str x t) (D.str x)
  | ref (a : Addr) : RV h (Value.ref a) (D.ref a)
  | rng {a : Addr} {i j k : Int} {t u v : Tok} : IsRange h a i j k t u v → RV h (Value.ref a) (D.rng i j k)
  | tup {a : Addr} {o : Obj} {vs : Array Value} {n : Nat} {ds : List D} : h.get? a = some o → o.cls = .type "tuple" → o.data = .seq vs n → RVs h vs.toList ds → RV h (Value.ref a) (D.tup ds)
inductive RVs (h : Heap) : List Value → List D → Prop
  | nil : RVs h [] []
  | cons {v : Value} {vs : List Value} {d : D} {ds : List D} : RV h v d → RVs h vs ds → RVs h (v :: vs) (d :: ds)
end

/-- a heap keeps what no owned object is -/
noncomputable def Kp (X : Addr → Prop) (h h' : Heap) : Prop := ∀ b o, h.get? b = some o → ¬ X b → h'.get? b = some o
/-- an object that holds no plain data -/
noncomputable def SoftO (o : Obj) : Prop := (∀ vs n, o.cls = .type "tuple" → o.data ≠ .seq vs n) ∧ ∀ vs, o.cls = .type "range" → o.data ≠ .fields vs
theorem SoftO.cls {o : Obj} {n : String} (h : o.cls = .type n) (h1 : n ≠ "tuple") (h2 : n ≠ "range") : SoftO o :=
  ⟨fun _ _ e => absurd (Value.type.inj (h.symm.trans e)) h1, fun _ e => absurd (Value.type.inj (h.symm.trans e)) h2⟩
theorem SoftO.dict {o : Obj} {es : Array DictEntry} {ep : Nat} (h : o.data = .dict es ep) : SoftO o :=
  ⟨fun _ _ _ e => Data.noConfusion (h.symm.trans e), fun _ _ e => Data.noConfusion (h.symm.trans e)⟩
theorem SoftO.cell {o : Obj} {v : Option Value} (h : o.data = .cell v) : SoftO o :=
  ⟨fun _ _ _ e => Data.noConfusion (h.symm.trans e), fun _ _ e => Data.noConfusion (h.symm.trans e)⟩
/-- owned objects are lists or dicts -/
noncomputable def Soft (X : Addr → Prop) (h : Heap) : Prop := ∀ b o, X b → h.get? b = some o → SoftO o

theorem RV.kp {X : Addr → Prop} {h h' : Heap} (hk : Kp X h h') (hs : Soft X h) {v : Value} {d : D} (x : RV h v d) : RV h' v d :=
  RV.rec (motive_1 := fun v d _ => RV h' v d) (motive_2 := fun vs ds _ => RVs h' vs ds) .none .bool .int .str .ref (fun hr => .rng (hk _ _ hr fun hx => (hs _ _ hx hr).2 _ rfl rfl))
    (fun ho hc hd _ r => .tup (hk _ _ ho fun hx => (hs _ _ hx ho).1 _ _ hc hd) hc hd r) .nil (fun _ _ a r => .cons a r) x
theorem RVs.kp {X : Addr → Prop} {h h' : Heap} (hk : Kp X h h') (hs : Soft X h) {vs : List Value} {ds : List D} (x : RVs h vs ds) : RVs h' vs ds :=
  RVs.rec (motive_1 := fun v d _ => RV h' v d) (motive_2 := fun vs ds _ => RVs h' vs ds) .none .bool .int .str .ref (fun hr => .rng (hk _ _ hr fun hx => (hs _ _ hx hr).2 _ rfl rfl))
    (fun ho hc hd _ r => .tup (hk _ _ ho fun hx => (hs _ _ hx ho).1 _ _ hc hd) hc hd r) .nil (fun _ _ a r => .cons a r) x

section
variable {h : Heap} {v : Value} {vs ws : List Value} {d : D} {ds es : List D}
/-- what a value of plain data is -/
noncomputable def RV.Inv (h : Heap) (v : Value) (d : D) : Prop :=
  D.casesOn (motive_1 := fun _ => Prop) d (v = .none) (fun b => v = .bool b) (fun i => ∃ t, v = .int i t) (fun x => ∃ t, v = .str x t)
    (fun ds => ∃ a o vs n, v = .ref a ∧ h.get? a = some o ∧ o.cls = .type "tuple" ∧ o.data = .seq vs n ∧ RVs h vs.toList ds) (fun a => v = .ref a) (fun i j k => ∃ a t u w, v = .ref a ∧ IsRange h a i j k t u w)
theorem RV.inv (x : RV h v d) : RV.Inv h v d :=
  RV.rec (motive_1 := fun v d _ => RV.Inv h v d) (motive_2 := fun _ _ _ => True) rfl (fun _ => rfl) (fun _ t => ⟨t, rfl⟩) (fun _ t => ⟨t, rfl⟩) (fun _ => rfl) (fun hr => ⟨_, _, _, _, rfl, hr⟩)
    (fun ho hc hd r _ => ⟨_, _, _, _, rfl, ho, hc, hd, r⟩) trivial (fun _ _ _ _ => trivial) x
theorem RV.n (x : RV h v .none) : v = .none := x.inv
theorem RV.b {b : Bool} (x : RV h v (.bool b)) : v = .bool b := x.inv
theorem RV.i {i : Int} (x : RV h v (.int i)) : ∃ t, v = .int i t := x.inv
theorem RV.s {y : Str} (x : RV h v (.str y)) : ∃ t, v = .str y t := x.inv
theorem RV.r {a : Addr} (x : RV h v (.ref a)) : v = .ref a := x.inv
theorem RV.t (x : RV h v (.tup ds)) : ∃ a o vs n, v = .ref a ∧ h.get? a = some o ∧ o.cls = .type "tuple" ∧ o.data = .seq vs n ∧ RVs h vs.toList ds := x.inv
theorem RV.g {i j k : Int} (x : RV h v (.rng i j k)) : ∃ a t u w, v = .ref a ∧ IsRange h a i j k t u w := x.inv
noncomputable def RVs.Inv (h : Heap) (vs : List Value) (ds : List D) : Prop := List.casesOn ds (vs = []) fun d ds => ∃ v ws, vs = v :: ws ∧ RV h v d ∧ RVs h ws ds
theorem RVs.inv (x : RVs h vs ds) : RVs.Inv h vs ds :=
  RVs.rec (motive_1 := fun _ _ _ => True) (motive_2 := fun vs ds _ => RVs.Inv h vs ds) trivial (fun _ => trivial) (fun _ _ => trivial) (fun _ _ => trivial) (fun _ => trivial) (fun _ => trivial)
    (fun _ _ _ _ _ => trivial) rfl (fun a r _ _ => ⟨_, _, rfl, a, r⟩) x
theorem RVs.nl (x : RVs h vs []) : vs = [] := x.inv
theorem RVs.cs (x : RVs h vs (d :: ds)) : ∃ v ws, vs = v :: ws ∧ RV h v d ∧ RVs h ws ds := x.inv
theorem RVs.single (r : RVs h vs [d]) : ∃ v, vs = [v] ∧ RV h v d :=
  let ⟨v, _, e, a, r⟩ := r.cs; ⟨v, by rw [e, r.nl], a⟩
theorem RVs.two {x y : D} (r : RVs h vs [x, y]) : ∃ u v, vs = [u, v] ∧ RV h u x ∧ RV h v y :=
  let ⟨u, _, e, a, r⟩ := r.cs; let ⟨v, f, b⟩ := r.single; ⟨u, v, by rw [e, f], a, b⟩
theorem RVs.three {x y z : D} (r : RVs h vs [x, y, z]) : ∃ u v t, vs = [u, v, t] ∧ RV h u x ∧ RV h v y ∧ RV h t z :=
  let ⟨u, _, e, a, r⟩ := r.cs; let ⟨v, t, f, b, c⟩ := r.two; ⟨u, v, t, by rw [e, f], a, b, c⟩
theorem RVs.length (x : RVs h vs ds) : vs.length = ds.length := by
  induction ds generalizing vs with
  | nil => rw [x.nl]; rfl
  | cons d ds ih =>
    obtain ⟨_, _, rfl, _, r⟩ := x.cs
    exact congrArg (· + 1) (ih r)
theorem RVs.size {xs : Array Value} (x : RVs h xs.toList ds) : xs.size = ds.length := x.length
theorem RVs.append (x : RVs h vs ds) (y : RVs h ws es) : RVs h (vs ++ ws) (ds ++ es) := by
  induction ds generalizing vs with
  | nil => rw [x.nl]; exact y
  | cons d ds ih =>
    obtain ⟨_, _, rfl, a, r⟩ := x.cs
    exact .cons a (ih r)
theorem RVs.one (x : RV h v d) : RVs h [v] [d] := .cons x .nil
theorem RVs.get (x : RVs h vs ds) {i : Nat} {d : D} (hi : ds[i]? = some d) : ∃ v, vs[i]? = some v ∧ RV h v d := by
  induction ds generalizing vs i with
  | nil => exact absurd hi.symm (Option.some_ne_none d)
  | cons e ds ih =>
    obtain ⟨v, ws, rfl, a, r⟩ := x.cs
    cases i with
    | zero => exact ⟨v, rfl, Option.some.inj hi ▸ a⟩
    | succ i => exact ih r hi
theorem RVs.take (x : RVs h vs ds) (n : Nat) : RVs h (vs.take n) (ds.take n) := by
  induction ds generalizing vs n with
  | nil => rw [x.nl, List.take_nil, List.take_nil]; exact .nil
  | cons d ds ih =>
    obtain ⟨_, _, rfl, a, r⟩ := x.cs
    cases n with
    | zero => exact .nil
    | succ n => exact .cons a (ih r n)
theorem RVs.map {α : Type} {l : List α} {f : α → Value} {g : α → D} (x : ∀ a ∈ l, RV h (f a) (g a)) : RVs h (l.map f) (l.map g) := by
  induction l with
  | nil => exact .nil
  | cons a l ih => exact .cons (x a (.head _)) (ih fun b hb => x b (.tail _ hb))
end

/-- owned objects -/
inductive MO where
  | lst (ds : List D)
  | arr (ds : List D)
  | dct (es : List (List Int × D))
  | dci (es : List (Int × D))

abbrev Sto := List (Addr × MO)
abbrev Rho := List (Str × D)

section
variable (prog : Program) (w : World)

noncomputable def RO (h : Heap) (a : Addr) : MO → Prop
  | .lst ds => ∃ vs, h.PlainList a vs ∧ RVs h vs.toList ds
  | .arr ds => ∃ vs, h.IsList a vs ∧ RVs h vs.toList ds
  | .dct es => (a == sysModules) = false ∧ ∃ xs : List (List Int × Addr × Value), h.DictOfH (tupleKind (intKind prog w)) a xs ∧ xs.map (·.1) = es.map (·.1) ∧ RVs h (xs.map (·.2.2)) (es.map (·.2))
  | .dci es => (a == sysModules) = false ∧ ∃ xs : List (Int × Value), h.DictOf (intKind prog w) a xs ∧ xs.map (·.1) = es.map (·.1) ∧ RVs h (xs.map (·.2)) (es.map (·.2))
end

noncomputable abbrev dom (σ : Sto) : Addr → Prop := fun b => b ∈ σ.map (·.1)

structure Own (prog : Program) (w : World) (h₀ : Heap) (σ : Sto) (h : Heap) : Prop where
  keep : ∀ b o, h₀.get? b = some o → h.get? b = some o
  objs : ∀ p ∈ σ, RO prog w h p.1 p.2
  nodup : (σ.map (·.1)).Nodup
  off : ∀ p ∈ σ, h₀.get? p.1 = none

structure Grow (σ : Sto) (h : Heap) (σ' : Sto) (h' : Heap) : Prop where
  keep : Kp (dom σ) h h'
  new : ∀ b, dom σ' b → dom σ b ∨ h.get? b = none

section
variable {prog : Program} {w : World} {h₀ h h' h'' : Heap} {σ σ' σ'' : Sto}

theorem RO.obj {a : Addr} {mo : MO} (x : RO prog w h a mo) : ∃ o, h.get? a = some o ∧ (o.cls = .type "list" ∨ o.cls = .type "dict") := by
  cases mo with
  | lst ds => obtain ⟨vs, ⟨n, hv⟩, _⟩ := x; exact ⟨_, hv, .inl rfl⟩
  | arr ds => obtain ⟨vs, ⟨o, ho, hc, _⟩, _⟩ := x; exact ⟨o, ho, .inl hc⟩
  | dct es => obtain ⟨_, xs, ⟨o, _, _, ho, hc, _⟩, _⟩ := x; exact ⟨o, ho, .inr hc.1⟩
  | dci es => obtain ⟨_, xs, ⟨o, _, _, ho, hc, _⟩, _⟩ := x; exact ⟨o, ho, .inr hc.1⟩

theorem Own.soft (x : Own prog w h₀ σ h) : Soft (dom σ) h := by
  intro b o hb ho
  obtain ⟨p, hp, rfl⟩ := List.mem_map.mp hb
  obtain ⟨o', ho', hc⟩ := (x.objs p hp).obj
  obtain rfl : o = o' := Option.some.inj (ho.symm.trans ho')
  exact hc.elim (SoftO.cls · (by decide) (by decide)) (SoftO.cls · (by decide) (by decide))

theorem isTupleKey_kp {X : Addr → Prop} {ks : List Int} {a : Addr} (hk : Kp X h h') (hs : Soft X h) (x : IsTupleKey (intKind prog w) h ks a) : IsTupleKey (intKind prog w) h' ks a := by
  obtain ⟨o, items, n, ho, hc, hd, hi⟩ := x
  exact ⟨o, items, n, hk _ _ ho (fun hx => (hs _ _ hx ho).1 _ _ hc hd), hc, hd, hi⟩

theorem RO.kp {X : Addr → Prop} {a : Addr} {mo : MO} (hk : Kp X h h') (hs : Soft X h) (ha : ¬ X a) (x : RO prog w h a mo) : RO prog w h' a mo := by
  cases mo with
  | lst ds => obtain ⟨vs, ⟨n, hv⟩, r⟩ := x; exact ⟨vs, ⟨n, hk _ _ hv ha⟩, r.kp hk hs⟩
  | arr ds => obtain ⟨vs, ⟨o, ho, hc⟩, r⟩ := x; exact ⟨vs, ⟨o, hk _ _ ho ha, hc⟩, r.kp hk hs⟩
  | dct es =>
    obtain ⟨lo, xs, ⟨o, es', ep, ho, hc, hd, he, hi, hn⟩, h1, r⟩ := x
    exact ⟨lo, xs, ⟨o, es', ep, hk _ _ ho ha, hc, hd, he, fun y hy => isTupleKey_kp hk hs (hi y hy), hn⟩, h1, r.kp hk hs⟩
  | dci es =>
    obtain ⟨lo, xs, ⟨o, es', ep, ho, hc⟩, h1, r⟩ := x
    exact ⟨lo, xs, ⟨o, es', ep, hk _ _ ho ha, hc⟩, h1, r.kp hk hs⟩

theorem Grow.refl : Grow σ h σ h := ⟨fun _ _ e _ => e, fun _ hb => .inl hb⟩
theorem Grow.trans (x : Grow σ h σ' h') (y : Grow σ' h' σ'' h'') : Grow σ h σ'' h'' := by
  refine ⟨fun b o e hb => y.keep b o (x.keep b o e hb) fun hb' => ?_, fun b hb => ?_⟩
  · rcases x.new b hb' with h1 | h1
    · exact hb h1
    · rw [h1] at e; cases e
  · rcases y.new b hb with h1 | h1
    · exact x.new b h1
    · by_cases hd : dom σ b
      · exact .inl hd
      · right
        cases e : h.get? b with
        | none => rfl
        | some o => rw [x.keep b o e hd] at h1; cases h1
theorem RV.grow {v : Value} {d : D} (O : Own prog w h₀ σ h) (g : Grow σ h σ' h') (x : RV h v d) : RV h' v d := x.kp g.keep O.soft
end

inductive Has : Rho → Str → D → Prop
  | here {x : Str} {d : D} {ρ : Rho} : Has ((x, d) :: ρ) x d
  | there {x y : Str} {d e : D} {ρ : Rho} : y ≠ x → Has ρ x d → Has ((y, e) :: ρ) x d

noncomputable def Has.Inv (x : Str) (d : D) (ρ : Rho) : Prop := List.casesOn ρ False fun p ρ => (p.1 = x ∧ p.2 = d) ∨ (p.1 ≠ x ∧ Has ρ x d)
theorem Has.inv {ρ : Rho} {x : Str} {d : D} (h : Has ρ x d) : Has.Inv x d ρ :=
  Has.rec (motive := fun ρ x d _ => Has.Inv x d ρ) (.inl ⟨rfl, rfl⟩) (fun hn h _ => .inr ⟨hn, h⟩) h
theorem Has.nl {x : Str} {d : D} (h : Has [] x d) : False := h.inv
theorem Has.cs {ρ : Rho} {x y : Str} {d e : D} (h : Has ((y, e) :: ρ) x d) : (y = x ∧ e = d) ∨ (y ≠ x ∧ Has ρ x d) := h.inv
structure Loc (h₀ : Heap) (env : Env) (ρ : Rho) (σ : Sto) (h : Heap) : Prop where
  fn : env.scope.kind = .function
  glob : env.globals = mainGlobals
  bui : env.builtins = builtinsNs
  ns : ∃ m, h.Ns env.locals m ∧ ∀ x d, Has ρ x d → env.kindOf x = some .local → ∃ v, m x = some v ∧ RV h v d
  cell : ∀ x c, env.cells.lookup x = some c → ∃ vo, h.IsCell c vo
  cells : ∀ x d, Has ρ x d → env.kindOf x = some .cell ∨ env.kindOf x = some .free → ∃ c v, env.cells.lookup x = some c ∧ h.IsCell c (some v) ∧ RV h v d
  offL : ¬ dom σ env.locals
  offC : ∀ x c, env.cells.lookup x = some c → ¬ dom σ c
  apart : ∀ x y c, env.cells.lookup x = some c → env.cells.lookup y = some c → x = y
  newL : h₀.get? env.locals = Option.none
  newC : ∀ x c, env.cells.lookup x = some c → h₀.get? c = Option.none

section
variable {prog : Program} {w : World} {h₀ h h' h'' : Heap} {σ σ' σ'' : Sto} {env : Env} {ρ ρ' : Rho}

theorem Grow.off {b : Addr} (g : Grow σ h σ' h') (hb : ¬ dom σ b) (hs : ∃ o, h.get? b = some o) : ¬ dom σ' b := fun hd => by
  rcases g.new b hd with h1 | h1
  · exact hb h1
  · obtain ⟨o, ho⟩ := hs; rw [ho] at h1; cases h1
theorem ns_obj {a : Addr} {m : Str → Option Value} (x : h.Ns a m) : ∃ o, h.get? a = some o := let ⟨o, _, _, ho, _⟩ := x; ⟨o, ho⟩
theorem ns_soft {a : Addr} {m : Str → Option Value} (x : h.Ns a m) : ∀ o, h.get? a = some o → SoftO o := fun o e => let ⟨_, _, _, ho, hd, _⟩ := x; Option.some.inj (ho.symm.trans e) ▸ .dict hd
theorem cell_soft {a : Addr} {vo : Option Value} (x : h.IsCell a vo) : ∀ o, h.get? a = some o → SoftO o := fun o e => let ⟨_, ho, hd⟩ := x; Option.some.inj (ho.symm.trans e) ▸ .cell hd
theorem ns_cell {a : Addr} {m : Str → Option Value} {vo : Option Value} (x : h.Ns a m) (y : h.IsCell a vo) : False :=
  let ⟨_, _, _, ho, hd, _⟩ := x; let ⟨_, ho', hd'⟩ := y; Data.noConfusion (hd'.symm.trans (Option.some.inj (ho.symm.trans ho') ▸ hd))
theorem cell_obj {a : Addr} {vo : Option Value} (x : h.IsCell a vo) : ∃ o, h.get? a = some o := let ⟨o, ho, _⟩ := x; ⟨o, ho⟩
theorem cell_kp {X : Addr → Prop} {a : Addr} {vo : Option Value} (hk : Kp X h h') (ha : ¬ X a) (x : h.IsCell a vo) : h'.IsCell a vo := let ⟨o, ho, hd⟩ := x; ⟨o, hk _ _ ho ha, hd⟩
theorem ns_kp {X : Addr → Prop} {a : Addr} {m : Str → Option Value} (hk : Kp X h h') (ha : ¬ X a) (x : h.Ns a m) : h'.Ns a m := let ⟨o, es, ep, ho, r⟩ := x; ⟨o, es, ep, hk _ _ ho ha, r⟩

theorem Loc.grow (O : Own prog w h₀ σ h) (x : Loc h₀ env ρ σ h) (g : Grow σ h σ' h') : Loc h₀ env ρ σ' h' where
  fn := x.fn
  glob := x.glob
  bui := x.bui
  ns := let ⟨m, hn, hm⟩ := x.ns; ⟨m, ns_kp g.keep x.offL hn, fun y d hy hk => let ⟨v, e, r⟩ := hm y d hy hk; ⟨v, e, r.grow O g⟩⟩
  cell := fun y c hc => let ⟨vo, hv⟩ := x.cell y c hc; ⟨vo, cell_kp g.keep (x.offC y c hc) hv⟩
  cells := fun y d hy hk => let ⟨c, v, e, hv, r⟩ := x.cells y d hy hk; ⟨c, v, e, cell_kp g.keep (x.offC y c e) hv, r.grow O g⟩
  offL := let ⟨_, hn, _⟩ := x.ns; g.off x.offL (ns_obj hn)
  offC := fun y c hc => let ⟨_, hv⟩ := x.cell y c hc; g.off (x.offC y c hc) (cell_obj hv)
  apart := x.apart
  newL := x.newL
  newC := x.newC
theorem Loc.weak (x : Loc h₀ env ρ σ h) (hw : ∀ y d, Has ρ' y d → Has ρ y d) : Loc h₀ env ρ' σ h where
  fn := x.fn
  glob := x.glob
  bui := x.bui
  ns := let ⟨m, hn, hm⟩ := x.ns; ⟨m, hn, fun y d hy hk => hm y d (hw y d hy) hk⟩
  cell := x.cell
  cells := fun y d hy hk => x.cells y d (hw y d hy) hk
  offL := x.offL
  offC := x.offC
  apart := x.apart
  newL := x.newL
  newC := x.newC
end

structure AOk (k : Nat) (A : Around) : Prop where
  handled : A.handled = none
  depth : A.depth + k + 1 < recursionLimit
  units : A.units + 40 * k + 40 < cLine

/-- a weakest precondition over abstract states -/
noncomputable def WP (prog : Program) (w : World) (h₀ : Heap) (k : Nat) (env : Env) (ρ : Rho) (H : List (Value × D)) (σ : Sto) {α β : Type} (R : Heap → α → β → Prop) (t : Sem α) (Post : β → Sto → Prop) : Prop :=
  ∀ (A : Around) (s : Shared) (E : Value → Shared → Prop) (Q : α → Shared → Prop), AOk k A → Own prog w h₀ σ s.heap → Loc h₀ env ρ σ s.heap → (∀ p ∈ H, RV s.heap p.1 p.2) →
    (∀ a b σ' h' tk, Post b σ' → Own prog w h₀ σ' h' → Grow σ s.heap σ' h' → R h' a b → Q a { s with heap := h', toks := tk }) → wpAny (model prog w) A t Q E s

abbrev REq {α : Type} : Heap → α → α → Prop := fun _ a b => a = b
abbrev RAny {α : Type} : Heap → α → Unit → Prop := fun _ _ _ => True

abbrev EW (prog : Program) (w : World) (h₀ : Heap) (k : Nat) (env : Env) (ρ : Rho) (σ : Sto) (e : Expr) (Post : D → Sto → Prop) : Prop :=
  WP prog w h₀ k env ρ [] σ RV (eval e env) Post

section
variable {prog : Program} {w : World} {h₀ : Heap} {k : Nat} {env : Env} {ρ ρ' : Rho} {H H' : List (Value × D)} {σ σ' : Sto} {α β γ δ : Type} {R : Heap → α → β → Prop} {R' : Heap → γ → δ → Prop}

theorem WP.mono {t : Sem α} {P P' : β → Sto → Prop} (x : WP prog w h₀ k env ρ H σ R t P) (hp : ∀ b σ', P b σ' → P' b σ') : WP prog w h₀ k env ρ H σ R t P' :=
  fun A s E Q hA O L hH q => x A s E Q hA O L hH fun a b σ' h' tk hP => q a b σ' h' tk (hp b σ' hP)
theorem WP.weakH {t : Sem α} {P : β → Sto → Prop} (x : WP prog w h₀ k env ρ H σ R t P) (hh : ∀ p ∈ H, p ∈ H') : WP prog w h₀ k env ρ H' σ R t P :=
  fun A s E Q hA O L hH q => x A s E Q hA O L (fun p hp => hH p (hh p hp)) q
theorem WP.noH {t : Sem α} {P : β → Sto → Prop} (x : WP prog w h₀ k env ρ [] σ R t P) : WP prog w h₀ k env ρ H σ R t P := x.weakH fun _ hp => absurd hp List.not_mem_nil
theorem WP.of_eq {t t' : Sem α} {P : β → Sto → Prop} (e : t = t') (x : WP prog w h₀ k env ρ H σ R t' P) : WP prog w h₀ k env ρ H σ R t P := e ▸ x
/-- bind, the first part's value held -/
theorem WP.bind {t : Sem Value} {f : Value → Sem γ} {P : δ → Sto → Prop} (x : WP prog w h₀ k env ρ H σ RV t fun d σ' => ∀ v, WP prog w h₀ k env ρ ((v, d) :: H) σ' R' (f v) P) : WP prog w h₀ k env ρ H σ R' (t >>= f) P :=
  fun A s E Q hA O L hH q => wpAny_bind (x A s E _ hA O L hH fun v d σ' h' tk hP O' g r => hP v A { s with heap := h', toks := tk } E Q hA O' (L.grow O g)
    (fun p hp => (List.mem_cons.mp hp).elim (fun e => e ▸ r) fun hp => (hH p hp).grow O g) fun a b σ'' h'' tk' hP' O'' g' r' => q a b σ'' h'' tk' hP' O'' (g.trans g') r')
/-- bind, for what holds no heap -/
theorem WP.bindE {t : Sem α} {f : α → Sem γ} {P : δ → Sto → Prop} (x : WP prog w h₀ k env ρ H σ REq t fun a σ' => WP prog w h₀ k env ρ H σ' R' (f a) P) : WP prog w h₀ k env ρ H σ R' (t >>= f) P :=
  fun A s E Q hA O L hH q => wpAny_bind (x A s E _ hA O L hH fun v d σ' h' tk hP O' g r => (r ▸ hP) A { s with heap := h', toks := tk } E Q hA O' (L.grow O g)
    (fun p hp => (hH p hp).grow O g) fun a b σ'' h'' tk' hP' O'' g' r' => q a b σ'' h'' tk' hP' O'' (g.trans g') r')
theorem WP.stand {pos : Pos} {f : Unit → Sem γ} {P : δ → Sto → Prop} (x : WP prog w h₀ k env ρ H σ R' (f ()) P) : WP prog w h₀ k env ρ H σ R' (standAt pos >>= f) P :=
  fun A s E Q hA O L hH q => wpAny_bind (wpAny_standAt (x A s E Q hA O L hH q))
theorem WP.holding {vs : List Value} {t : Sem α} {P : β → Sto → Prop} (x : WP prog w h₀ k env ρ H σ R t P) : WP prog w h₀ k env ρ H σ R (holding vs t) P :=
  fun A s E Q hA O L hH q => wpAny_holding (x A s E Q hA O L hH q)
theorem WP.pure {a : α} {b : β} {P : β → Sto → Prop} (hr : ∀ h, (∀ p ∈ H, RV h p.1 p.2) → R h a b) (hp : P b σ) : WP prog w h₀ k env ρ H σ R (pure a) P :=
  fun _ s _ _ _ O _ hH q => wpAny_pure (q a b σ s.heap s.toks hp O .refl (hr _ hH))
end
end Mine
namespace Mine

structure Wd (K : Frag) (mg mb : Str → Option Value) (h₀ : Heap) : Prop where
  K : K.In h₀
  g : h₀.Ns mainGlobals mg
  b : h₀.Ns builtinsNs mb
  nolimit : h₀.NoLimit
  boot : ∀ x : Str, x ≠ "__name__" → mb x = bootBuiltins x

section
variable {prog : Program} {w : World} {h₀ : Heap} {k : Nat} {env : Env} {ρ ρ' : Rho} {H H' : List (Value × D)} {σ σ' : Sto}

abbrev TW (prog : Program) (w : World) (h₀ : Heap) (k : Nat) (env : Env) (ρ : Rho) (σ : Sto) (e : Expr) (Post : Bool → Sto → Prop) : Prop :=
  WP prog w h₀ k env ρ [] σ REq (isTrue e env (eval e env)) Post
/-- a binary operation upon held values -/
noncomputable def OpW (prog : Program) (w : World) (h₀ : Heap) (k : Nat) (env : Env) (ρ : Rho) (σ : Sto) (t : Value → Value → Sem Value) (d1 d2 : D) (Post : D → Sto → Prop) : Prop :=
  ∀ v1 v2, WP prog w h₀ k env ρ [(v2, d2), (v1, d1)] σ RV (t v1 v2) Post

theorem WP.operate {vs : List Value} {t : Sem Value} {P : D → Sto → Prop} (x : WP prog w h₀ k env ρ H σ RV t P) : WP prog w h₀ k env ρ H σ RV (operate vs t) P :=
  fun A s E Q hA O L hH q => wpAny_operateT (x A s E Q hA O L hH q)

/-- from the plain facts: what changes no heap -/
theorem WP.still {α β : Type} {R : Heap → α → β → Prop} {t : Sem α} {P : β → Sto → Prop} (b : β)
    (x : ∀ (A : Around) (s : Shared) (E : Value → Shared → Prop) (Q : α → Shared → Prop), AOk k A → Own prog w h₀ σ s.heap → Loc h₀ env ρ σ s.heap → (∀ p ∈ H, RV s.heap p.1 p.2) →
      (∀ a tk, R s.heap a b → Q a { s with toks := tk }) → wpAny (model prog w) A t Q E s) (hp : P b σ) : WP prog w h₀ k env ρ H σ R t P :=
  fun A s E Q hA O L hH q => x A s E Q hA O L hH fun a tk r => q a b σ s.heap tk hp O .refl r

theorem EW.int {i : Int} {n : Nat} {pos : Pos} {P : D → Sto → Prop} (h : P (.int i) σ) : EW prog w h₀ k env ρ σ (.Constant (.int i) n pos) P :=
  WP.still (.int i) (fun A s E Q _ _ _ _ q => wpAny_Constant_int (q _ _ (.int _ _))) h
theorem EW.str {x : Str} {n : Nat} {pos : Pos} {P : D → Sto → Prop} (h : P (.str x) σ) : EW prog w h₀ k env ρ σ (.Constant (.str x) n pos) P :=
  WP.still (.str x) (fun A s E Q _ _ _ _ q => Calls.Constant_str (q _ _ (.str _ _))) h
theorem EW.bool {b : Bool} {n : Nat} {pos : Pos} {P : D → Sto → Prop} (h : P (.bool b) σ) : EW prog w h₀ k env ρ σ (.Constant (.bool b) n pos) P :=
  WP.still (.bool b) (fun A s E Q _ _ _ _ q => Constant_bool (q _ _ (.bool _))) h
theorem EW.none {n : Nat} {pos : Pos} {P : D → Sto → Prop} (h : P .none σ) : EW prog w h₀ k env ρ σ (.Constant .none n pos) P :=
  WP.still .none (fun A s E Q _ _ _ _ q => Constant_none (q _ _ .none)) h

theorem EW.loc {x : Str} {pos : Pos} {d : D} {P : D → Sto → Prop} (hk : env.kindOf x = some .local) (hx : Has ρ x d) (h : P d σ) (hd : (x == ("__debug__" : Str)) = false := by decide +kernel) : EW prog w h₀ k env ρ σ (.Name x pos) P :=
  WP.still d (fun A s E Q _ _ L _ q => by
    obtain ⟨m, hn, hm⟩ := L.ns
    obtain ⟨v, e, r⟩ := hm x d hx hk
    exact wpAny_Name (wpAny_loadName_local L.fn hk hn e (q v s.toks r)) hd) h
theorem EW.cell {x : Str} {pos : Pos} {d : D} {P : D → Sto → Prop} (hk : env.kindOf x = some .cell) (hx : Has ρ x d) (h : P d σ) (hd : (x == ("__debug__" : Str)) = false := by decide +kernel) : EW prog w h₀ k env ρ σ (.Name x pos) P :=
  WP.still d (fun A s E Q _ _ L _ q => by
    obtain ⟨c, v, e, hv, r⟩ := L.cells x d hx (.inl hk)
    exact wpAny_Name (wpAny_loadName_cell L.fn hk e hv (q v s.toks r)) hd) h
/-- a global of the text that holds data -/
theorem EW.glob {K : Frag} {mg mb : Str → Option Value} (W : Wd K mg mb h₀) {x : Str} {pos : Pos} {v : Value} {d : D} {P : D → Sto → Prop} (hk : env.kindOf x = some .globalImplicit) (e : nsIn K mainGlobals x = some (some v)) (r : RV h₀ v d) (h : P d σ)
    (hd : (x == ("__debug__" : Str)) = false := by decide +kernel) : EW prog w h₀ k env ρ σ (.Name x pos) P :=
  WP.still d (fun A s E Q _ O L _ q => Calls.Name_function_global L.fn hk (Calls.loadGlobal_global (mg := mg) (by rw [L.glob]; exact ns_kp (X := fun _ => False) (fun b o e _ => O.keep b o e) id W.g) (mg_of W.K W.g e)
    (q v s.toks (r.kp (X := fun _ => False) (fun b o e _ => O.keep b o e) (fun _ _ hx => hx.elim)))) hd) h

theorem EW.binop {l r : Expr} {op : Operator} {pos : Pos} {P : D → Sto → Prop} (h : EW prog w h₀ k env ρ σ l fun d1 σ1 => EW prog w h₀ k env ρ σ1 r fun d2 σ2 => OpW prog w h₀ k env ρ σ2 (binaryOp op) d1 d2 P) :
    EW prog w h₀ k env ρ σ (.BinOp l op r pos) P := by
  show WP prog w h₀ k env ρ [] σ RV (eval l env >>= fun a => holding [a] (eval r env) >>= fun b => standAt pos >>= fun _ => operate [a, b] (binaryOp op a b)) P
  exact WP.bind (h.mono fun d1 σ1 h1 v1 => WP.bind (WP.holding ((WP.noH h1).mono fun d2 σ2 h2 v2 => WP.stand (WP.operate (h2 v1 v2)))))
theorem EW.unop {x : Expr} {op : UnaryOp} {pos : Pos} {P : D → Sto → Prop} (h : EW prog w h₀ k env ρ σ x fun d1 σ1 => ∀ v, WP prog w h₀ k env ρ [(v, d1)] σ1 RV (unaryOp op v) P) :
    EW prog w h₀ k env ρ σ (.UnaryOp op x pos) P := by
  show WP prog w h₀ k env ρ [] σ RV (eval x env >>= fun v => standAt pos >>= fun _ => holding [v] (unaryOp op v)) P
  exact WP.bind (h.mono fun d1 σ1 h1 v1 => WP.stand (WP.holding (h1 v1)))

theorem held0 {h : Heap} : ∀ p ∈ ([] : List (Value × D)), RV h p.1 p.2 := fun _ hp => absurd hp List.not_mem_nil
theorem held1 {h : Heap} {v : Value} {d : D} (hH : ∀ p ∈ [(v, d)], RV h p.1 p.2) : RV h v d := hH (v, d) (.head _)
/-- from the held values -/
theorem OpW.mk {t : Value → Value → Sem Value} {d1 d2 : D} {P : D → Sto → Prop} (d : D)
    (x : ∀ (A : Around) (s : Shared) (E : Value → Shared → Prop) (Q : Value → Shared → Prop) (v1 v2 : Value), AOk k A → Own prog w h₀ σ s.heap → RV s.heap v1 d1 → RV s.heap v2 d2 → (∀ a tk, RV s.heap a d → Q a { s with toks := tk }) → wpAny (model prog w) A (t v1 v2) Q E s) (hp : P d σ) :
    OpW prog w h₀ k env ρ σ t d1 d2 P := fun v1 v2 => WP.still d (fun A s E Q hA O _ hH q => x A s E Q v1 v2 hA O (hH (v1, d1) (.tail _ (.head _))) (hH (v2, d2) (.head _)) q) hp
/-- two held ints -/
theorem OpW.ints {t : Value → Value → Sem Value} {i j : Int} {d : D} {P : D → Sto → Prop}
    (x : ∀ (A : Around) (s : Shared) (E : Value → Shared → Prop) (Q : Value → Shared → Prop) (u v : Tok), AOk k A → (∀ a tk, RV s.heap a d → Q a { s with toks := tk }) → wpAny (model prog w) A (t (.int i u) (.int j v)) Q E s) (hp : P d σ) :
    OpW prog w h₀ k env ρ σ t (.int i) (.int j) P := OpW.mk d (fun A s E Q v1 v2 hA _ r1 r2 q => by
  obtain ⟨u, rfl⟩ := r1.i
  obtain ⟨v, rfl⟩ := r2.i
  exact x A s E Q u v hA q) hp
theorem OpW.add {i j : Int} {P : D → Sto → Prop} (h : P (.int (i + j)) σ) : OpW prog w h₀ k env ρ σ (binaryOp .Add) (.int i) (.int j) P :=
  OpW.ints (fun A s E Q u v _ q => add_int (q _ _ (.int _ _))) h
theorem OpW.sub {i j : Int} {P : D → Sto → Prop} (h : P (.int (i - j)) σ) : OpW prog w h₀ k env ρ σ (binaryOp .Sub) (.int i) (.int j) P :=
  OpW.ints (fun A s E Q u v _ q => sub_int (q _ _ (.int _ _))) h
theorem bits_small {i : Int} (h : i.natAbs < 2 ^ 62) : Builtin.Int.intBits i ≤ 64 := by
  unfold Builtin.Int.intBits
  split
  · omega
  · rename_i hz
    have : i.natAbs.log2 < 62 := by
      apply (Nat.log2_lt (by intro h0; exact hz (by simpa using h0))).mpr h
    omega
theorem OpW.mul {i j : Int} {P : D → Sto → Prop} (hi : i.natAbs < 2 ^ 62 ∨ j.natAbs < 2 ^ 62) (h : P (.int (i * j)) σ) : OpW prog w h₀ k env ρ σ (binaryOp .Mult) (.int i) (.int j) P :=
  OpW.ints (fun A s E Q u v _ q => mul_int (q _ _ (.int _ _)) (hi.elim (fun h => IntMulOk.of_left (bits_small h)) fun h => IntMulOk.of_right (bits_small h))) h
theorem OpW.floordiv {i j : Int} {P : D → Sto → Prop} (hj : j ≠ 0) (hs : Builtin.divisionGoesByPylong i j = false) (h : P (.int (Int.fdiv i j)) σ) : OpW prog w h₀ k env ρ σ (binaryOp .FloorDiv) (.int i) (.int j) P :=
  OpW.ints (fun A s E Q u v _ q => floordiv_int hj (q _ _ (.int _ _)) (.inl hs)) h
theorem OpW.mod {i j : Int} {P : D → Sto → Prop} (hj : j ≠ 0) (h : P (.int (Int.fmod i j)) σ) : OpW prog w h₀ k env ρ σ (binaryOp .Mod) (.int i) (.int j) P :=
  OpW.ints (fun A s E Q u v _ q => mod_int' hj (q _ _ (.int _ _))) h
theorem OpW.and {i j : Int} {P : D → Sto → Prop} (h : P (.int (Builtin.bitAnd i j)) σ) : OpW prog w h₀ k env ρ σ (binaryOp .BitAnd) (.int i) (.int j) P :=
  OpW.ints (fun A s E Q u v _ q => and_int (q _ _ (.int _ _))) h
theorem OpW.lshift {i j : Int} {P : D → Sto → Prop} (h0 : 0 ≤ j) (h1 : j ≤ 1000000) (h2 : i.natAbs < 2 ^ 64) (h : P (.int (i * 2 ^ j.toNat)) σ) : OpW prog w h₀ k env ρ σ (binaryOp .LShift) (.int i) (.int j) P :=
  OpW.ints (fun A s E Q u v _ q => lshift_int_small h0 h1 h2 (q _ _ (.int _ _))) h
theorem OpW.pow {i j : Int} {P : D → Sto → Prop} (h0 : 0 ≤ j) (h1 : j ≤ 1000000) (h2 : i.natAbs < 2 ^ 64) (h : P (.int (i ^ j.toNat)) σ) : OpW prog w h₀ k env ρ σ (binaryOp .Pow) (.int i) (.int j) P :=
  OpW.ints (fun A s E Q u v _ q => pow_int_small h0 h1 h2 (q _ _ (.int _ _))) h
theorem OpW.lt {i j : Int} {P : D → Sto → Prop} (h : P (.bool (decide (i < j))) σ) : OpW prog w h₀ k env ρ σ (compareOp .Lt) (.int i) (.int j) P :=
  OpW.ints (fun A s E Q u v _ q => lt_int (q _ _ (.bool _))) h
theorem OpW.le {i j : Int} {P : D → Sto → Prop} (h : P (.bool (decide (i ≤ j))) σ) : OpW prog w h₀ k env ρ σ (compareOp .LtE) (.int i) (.int j) P :=
  OpW.ints (fun A s E Q u v _ q => le_int (q _ _ (.bool _))) h
theorem OpW.gt {i j : Int} {P : D → Sto → Prop} (h : P (.bool (decide (j < i))) σ) : OpW prog w h₀ k env ρ σ (compareOp .Gt) (.int i) (.int j) P :=
  OpW.ints (fun A s E Q u v _ q => gt_int (q _ _ (.bool _))) h
theorem OpW.ge {i j : Int} {P : D → Sto → Prop} (h : P (.bool (decide (j ≤ i))) σ) : OpW prog w h₀ k env ρ σ (compareOp .GtE) (.int i) (.int j) P :=
  OpW.ints (fun A s E Q u v _ q => ge_int (q _ _ (.bool _))) h
theorem OpW.eqi {i j : Int} {P : D → Sto → Prop} (h : P (.bool (decide (i = j))) σ) : OpW prog w h₀ k env ρ σ (compareOp .Eq) (.int i) (.int j) P :=
  OpW.ints (fun A s E Q u v _ q => eq_int (q _ _ (.bool _))) h
theorem OpW.nei {i j : Int} {P : D → Sto → Prop} (h : P (.bool (decide (i ≠ j))) σ) : OpW prog w h₀ k env ρ σ (compareOp .NotEq) (.int i) (.int j) P :=
  OpW.ints (fun A s E Q u v _ q => ne_int (by
    have e : (i != j) = decide (i ≠ j) := by
      by_cases hij : i = j <;> simp [hij]
    rw [e]; exact q _ _ (.bool _))) h

noncomputable def D.isNone (d : D) : Bool := D.casesOn (motive_1 := fun _ => Bool) d true (fun _ => false) (fun _ => false) (fun _ => false) (fun _ => false) (fun _ => false) (fun _ _ _ => false)
theorem RV.isNone {h : Heap} {v : Value} {d : D} (r : RV h v d) : (v == Value.none) = d.isNone :=
  RV.rec (motive_1 := fun v d _ => (v == Value.none) = d.isNone) (motive_2 := fun _ _ _ => True) rfl (fun _ => rfl) (fun _ _ => rfl) (fun _ _ => rfl) (fun _ => rfl) (fun _ => rfl) (fun _ _ _ _ _ => rfl) trivial (fun _ _ _ _ => trivial) r
theorem OpW.isNone {d : D} {P : D → Sto → Prop} (h : P (.bool d.isNone) σ) : OpW prog w h₀ k env ρ σ (compareOp .Is) d .none P := OpW.mk (.bool d.isNone) (fun A s E Q v1 v2 hA _ r1 r2 q => by
  rw [r2.n]
  exact is_none (r1.isNone ▸ q _ _ (.bool _))) h
theorem OpW.isNotNone {d : D} {P : D → Sto → Prop} (h : P (.bool (!d.isNone)) σ) : OpW prog w h₀ k env ρ σ (compareOp .IsNot) d .none P := OpW.mk (.bool (!d.isNone)) (fun A s E Q v1 v2 hA _ r1 r2 q => by
  rw [r2.n]
  exact isnot_none_gen (r1.isNone ▸ q _ _ (.bool _))) h
theorem unop_neg {i : Int} {P : D → Sto → Prop} (h : P (.int (-i)) σ) : ∀ v, WP prog w h₀ k env ρ [(v, .int i)] σ RV (unaryOp .USub v) P := fun v => WP.still (.int (-i)) (fun A s E Q hA _ _ hH q => by
  obtain ⟨u, e⟩ := (held1 hH).i
  exact e ▸ neg_int (q _ _ (.int _ _))) h

theorem eval_Compare1 {l r : Expr} {op : CmpOp} {pos : Pos} (hm : lastMarks [op] [r] = false) : eval (.Compare l [op] [r] pos) env = (eval l env >>= fun a => holding [a] (eval r env) >>= fun b => standAt pos >>= fun _ => PySem.operate [a, b] (compareOp op a b)) := by
  show (eval l env >>= fun a => compareChain pos a [op] (markedEach [op] [r] (evalEach [r] env))) = _
  rw [markedEach_of_false _ _ _ hm]
  rfl
theorem EW.cmp {l r : Expr} {op : CmpOp} {pos : Pos} {P : D → Sto → Prop} (h : EW prog w h₀ k env ρ σ l fun d1 σ1 => EW prog w h₀ k env ρ σ1 r fun d2 σ2 => OpW prog w h₀ k env ρ σ2 (compareOp op) d1 d2 P)
    (hm : lastMarks [op] [r] = false := by rfl) : EW prog w h₀ k env ρ σ (.Compare l [op] [r] pos) P := by
  refine WP.of_eq (eval_Compare1 hm) ?_
  exact WP.bind (h.mono fun d1 σ1 h1 v1 => WP.bind (WP.holding ((WP.noH h1).mono fun d2 σ2 h2 v2 => WP.stand (WP.operate (h2 v1 v2)))))

theorem truthyB {b : Bool} {v : Value} {P : Bool → Sto → Prop} (h : P b σ) : WP prog w h₀ k env ρ [(v, .bool b)] σ REq (truthy v) P := WP.still b (fun A s E Q hA _ _ hH q =>
  (held1 hH).b ▸ wpAny_truthy_bool (q _ _ rfl)) h
/-- what is only a bool goes on -/
noncomputable def BoolP (P : Bool → Sto → Prop) : D → Sto → Prop := fun d σ => ∃ b, d = .bool b ∧ P b σ
theorem boolP {b : Bool} {P : Bool → Sto → Prop} (h : P b σ) : BoolP P (.bool b) σ := ⟨b, rfl, h⟩
theorem isTrue_eval {e : Expr} (h : ∀ whole, isTrue e env whole = (whole >>= fun v => standAt e.pos >>= fun _ => holding [v] (truthy v))) {P : Bool → Sto → Prop} (x : EW prog w h₀ k env ρ σ e (BoolP P)) : TW prog w h₀ k env ρ σ e P := by
  refine WP.of_eq (h _) (WP.bind (x.mono ?_))
  rintro d σ1 ⟨b, rfl, hb⟩ v
  exact WP.stand (WP.holding (truthyB hb))
theorem TW.cmp {l r : Expr} {op : CmpOp} {pos : Pos} {P : Bool → Sto → Prop} (h : EW prog w h₀ k env ρ σ l fun d1 σ1 => EW prog w h₀ k env ρ σ1 r fun d2 σ2 => OpW prog w h₀ k env ρ σ2 (compareOp op) d1 d2 (BoolP P))
    (hm : lastMarks [op] [r] = false := by rfl) : TW prog w h₀ k env ρ σ (.Compare l [op] [r] pos) P := by
  have e : isTrue (.Compare l [op] [r] pos) env (eval (.Compare l [op] [r] pos) env) = (eval l env >>= fun a => holding [a] (eval r env) >>= fun b => standAt pos >>= fun _ => PySem.operate [a, b] (compareOp op a b) >>= fun c => holding [c] (truthy c)) := by
    show (eval l env >>= fun a => testChain pos a [op] (markedEach [op] [r] (evalEach [r] env))) = _
    rw [markedEach_of_false _ _ _ hm]
    rfl
  refine WP.of_eq e ?_
  refine WP.bind (h.mono fun d1 σ1 h1 v1 => WP.bind (WP.holding ((WP.noH h1).mono fun d2 σ2 h2 v2 => WP.stand (WP.bind (WP.operate ((h2 v1 v2).mono ?_))))))
  rintro d σ3 ⟨b, rfl, hb⟩ v
  exact WP.holding (WP.weakH (truthyB hb) fun p hp => List.mem_singleton.mp hp ▸ .head _)
theorem TW.name {x : Str} {pos : Pos} {P : Bool → Sto → Prop} (h : EW prog w h₀ k env ρ σ (.Name x pos) (BoolP P)) : TW prog w h₀ k env ρ σ (.Name x pos) P := isTrue_eval (fun _ => rfl) h
theorem TW.call {f : Expr} {as : List Expr} {ks : List Keyword} {pos : Pos} {P : Bool → Sto → Prop} (h : EW prog w h₀ k env ρ σ (.Call f as ks pos) (BoolP P)) : TW prog w h₀ k env ρ σ (.Call f as ks pos) P := isTrue_eval (fun _ => rfl) h
theorem TW.sub {f g : Expr} {pos : Pos} {P : Bool → Sto → Prop} (h : EW prog w h₀ k env ρ σ (.Subscript f g pos) (BoolP P)) : TW prog w h₀ k env ρ σ (.Subscript f g pos) P := isTrue_eval (fun _ => rfl) h

/-- all of some tests -/
noncomputable def AllW (prog : Program) (w : World) (h₀ : Heap) (k : Nat) (env : Env) (ρ : Rho) (σ : Sto) (op : BoolOp) (es : List Expr) (P : Bool → Sto → Prop) : Prop := WP prog w h₀ k env ρ [] σ REq (allTrue op es env) P
theorem TW.boolop {op : BoolOp} {es : List Expr} {pos : Pos} {P : Bool → Sto → Prop} (h : AllW prog w h₀ k env ρ σ op es P) : TW prog w h₀ k env ρ σ (.BoolOp op es pos) P := h
theorem AllW.nil {op : BoolOp} {P : Bool → Sto → Prop} (h : P (op == .And) σ) : AllW prog w h₀ k env ρ σ op [] P := WP.pure (fun _ _ => rfl) h
theorem AllW.and {x : Expr} {es : List Expr} {P : Bool → Sto → Prop} (h : TW prog w h₀ k env ρ σ x fun b σ1 => (b = false → P false σ1) ∧ (b = true → AllW prog w h₀ k env ρ σ1 .And es P)) : AllW prog w h₀ k env ρ σ .And (x :: es) P :=
  WP.of_eq (arm_allTrue_cons ..) (WP.bindE (h.mono fun b σ1 hb => Bool.casesOn (motive := fun b => (b = false → _) ∧ (b = true → _) → WP prog w h₀ k env ρ [] σ1 REq (match BoolOp.And, b with
    | .And, false => pure false
    | .Or, true => pure true
    | _, _ => allTrue .And es env) P) b (fun hb => WP.pure (fun _ _ => rfl) (hb.1 rfl)) (fun hb => hb.2 rfl) hb))
theorem AllW.or {x : Expr} {es : List Expr} {P : Bool → Sto → Prop} (h : TW prog w h₀ k env ρ σ x fun b σ1 => (b = true → P true σ1) ∧ (b = false → AllW prog w h₀ k env ρ σ1 .Or es P)) : AllW prog w h₀ k env ρ σ .Or (x :: es) P :=
  WP.of_eq (arm_allTrue_cons ..) (WP.bindE (h.mono fun b σ1 hb => Bool.casesOn (motive := fun b => (b = true → _) ∧ (b = false → _) → WP prog w h₀ k env ρ [] σ1 REq (match BoolOp.Or, b with
    | .And, false => pure false
    | .Or, true => pure true
    | _, _ => allTrue .Or es env) P) b (fun hb => hb.2 rfl) (fun hb => WP.pure (fun _ _ => rfl) (hb.1 rfl)) hb))
theorem EW.ifexp {t b o : Expr} {pos : Pos} {P : D → Sto → Prop} (h : TW prog w h₀ k env ρ σ t fun c σ1 => (c = true → EW prog w h₀ k env ρ σ1 b P) ∧ (c = false → EW prog w h₀ k env ρ σ1 o P)) : EW prog w h₀ k env ρ σ (.IfExp t b o pos) P := by
  show WP prog w h₀ k env ρ [] σ RV (isTrue t env (eval t env) >>= fun c => if c = true then eval b env else eval o env) P
  refine WP.bindE (h.mono fun c σ1 hc => ?_)
  cases c with
  | false => exact hc.2 rfl
  | true => exact hc.1 rfl
/-- a and b, both bools, as a value -/
theorem EW.and2 {x y : Expr} {pos : Pos} {P : D → Sto → Prop} (h : EW prog w h₀ k env ρ σ x (BoolP fun b σ1 => (b = false → P (.bool false) σ1) ∧ (b = true → EW prog w h₀ k env ρ σ1 y P))) : EW prog w h₀ k env ρ σ (.BoolOp .And [x, y] pos) P := by
  show WP prog w h₀ k env ρ [] σ RV (eval x env >>= fun v => standAt pos >>= fun _ => holding [v] (truthy v) >>= fun t => match BoolOp.And, t with
    | .And, false | .Or, true => pure v
    | _, _ => boolOp pos .And (evalEach [y] env)) P
  refine WP.bind (h.mono ?_)
  rintro d σ1 ⟨b, rfl, hb⟩ v
  refine WP.stand (WP.bindE (WP.holding ?_))
  refine truthyB ?_
  cases b with
  | false => exact WP.pure (fun h hH => hH (v, .bool false) (.head _)) (hb.1 rfl)
  | true => exact WP.noH (hb.2 rfl)

/-- some expressions in order -/
noncomputable def EWs (prog : Program) (w : World) (h₀ : Heap) (k : Nat) (env : Env) (ρ : Rho) (σ : Sto) (es : List Expr) (P : List D → Sto → Prop) : Prop :=
  ∀ H, WP prog w h₀ k env ρ H σ RVs (spliced (es.map fun e => (false, eval e env))) P
theorem WP.bindV {γ δ : Type} {R' : Heap → γ → δ → Prop} {t : Sem Value} {f : Value → Sem γ} {P : δ → Sto → Prop} (x : WP prog w h₀ k env ρ H σ RV t fun d σ' => ∀ v, WP prog w h₀ k env ρ ((v, d) :: H) σ' R' (f v) P) : WP prog w h₀ k env ρ H σ R' (t >>= f) P := WP.bind x
theorem EWs.nil {P : List D → Sto → Prop} (h : P [] σ) : EWs prog w h₀ k env ρ σ [] P := fun H => WP.pure (fun _ _ => .nil) h
theorem EWs.cons {e : Expr} {es : List Expr} {P : List D → Sto → Prop} (h : EW prog w h₀ k env ρ σ e fun d σ1 => EWs prog w h₀ k env ρ σ1 es fun ds σ2 => P (d :: ds) σ2) : EWs prog w h₀ k env ρ σ (e :: es) P := fun H => by
  intro A s E Q hA O L hH q
  refine Calls.spliced_cons (h A s E _ hA O L held0 fun v d σ1 h1 tk1 hP O1 g1 r1 => ?_)
  refine hP [] A { s with heap := h1, toks := tk1 } E _ hA O1 (L.grow O g1) held0 fun vs ds σ2 h2 tk2 hP2 O2 g2 r2 => ?_
  exact q (v :: vs) (d :: ds) σ2 h2 tk2 hP2 O2 (g1.trans g2) (.cons (r1.grow O1 g2) r2)
theorem backTo_plain {pos : Pos} (l : List (Sem Value)) : backTo pos (l.map fun t => (false, t)) = l.map fun t => (false, t) := by
  unfold backTo
  rw [List.map_map]
  apply List.map_congr_left
  intro t _
  rfl
theorem splice_eq {pos : Pos} {es : List Expr} (h : starEach es env = es.map fun e => (false, eval e env)) : backTo pos (starEach es env) = es.map fun e => (false, eval e env) := by
  have := backTo_plain (pos := pos) (es.map fun e => eval e env)
  rw [List.map_map] at this
  exact h ▸ this
theorem fits {m n : Nat} (h : n ≤ 1000000) (e : m = n) : m ≤ sizeLine := e ▸ Nat.le_trans h (Nat.le_of_ble_eq_true rfl)
theorem fitsK {m n : Nat} (h : n ≤ 1000) (e : m = n) : m ≤ sizeLine := e ▸ Nat.le_trans h (Nat.le_of_ble_eq_true rfl)

theorem Kp.push {X : Addr → Prop} {h : Heap} (o : Obj) : Kp X h (h.push o) := fun b o' e _ => Heap.get?_push_of_some _ e
theorem soft_none {h : Heap} : Soft (fun _ => False) h := fun _ _ hx => hx.elim
theorem Own.up {h h' : Heap} (O : Own prog w h₀ σ h) (hk : ∀ b o, h.get? b = some o → h'.get? b = some o) : Own prog w h₀ σ h' where
  keep := fun b o e => hk b o (O.keep b o e)
  objs := fun p hp => (O.objs p hp).kp (X := fun _ => False) (fun b o e _ => hk b o e) soft_none id
  nodup := O.nodup
  off := O.off
theorem Grow.up {h h' : Heap} (hk : ∀ b o, h.get? b = some o → h'.get? b = some o) : Grow σ h σ h' := ⟨fun b o e _ => hk b o e, fun _ hb => .inl hb⟩
theorem push_up {h : Heap} (o : Obj) : ∀ b o', h.get? b = some o' → (h.push o).get? b = some o' := fun _ _ e => Heap.get?_push_of_some _ e
theorem RV.up {h h' : Heap} {v : Value} {d : D} (r : RV h v d) (hk : ∀ b o, h.get? b = some o → h'.get? b = some o) : RV h' v d := r.kp (X := fun _ => False) (fun b o e _ => hk b o e) soft_none
theorem RVs.up {h h' : Heap} {v : List Value} {d : List D} (r : RVs h v d) (hk : ∀ b o, h.get? b = some o → h'.get? b = some o) : RVs h' v d := r.kp (X := fun _ => False) (fun b o e _ => hk b o e) soft_none
theorem get_size {h : Heap} : h.get? h.objs.size = none := Heap.get?_none_of_le (Nat.le_refl _)
theorem gone_of {h h' : Heap} {b : Addr} (hk : ∀ o, h.get? b = some o → h'.get? b = some o) (hb : h'.get? b = none) : h.get? b = none :=
  Option.eq_none_iff_forall_ne_some.mpr fun o e => absurd ((hk o e).symm.trans hb) (Option.some_ne_none o)
theorem Own.gone {h : Heap} {b : Addr} (O : Own prog w h₀ σ h) (hb : h.get? b = none) : h₀.get? b = none := gone_of (O.keep b) hb
/-- what is not there is not owned -/
theorem Own.away {h : Heap} {b : Addr} (O : Own prog w h₀ σ h) (hb : h.get? b = none) : ¬ dom σ b := fun hd => by
  obtain ⟨p, hp, rfl⟩ := List.mem_map.mp hd
  obtain ⟨o, ho, _⟩ := (O.objs p hp).obj
  exact absurd (ho.symm.trans hb) (Option.some_ne_none o)
/-- a fresh owned object -/
theorem Own.new {h : Heap} (O : Own prog w h₀ σ h) {o : Obj} {mo : MO} (ho : RO prog w (h.push o) h.objs.size mo) : Own prog w h₀ ((h.objs.size, mo) :: σ) (h.push o) where
  keep := fun b o' e => push_up o b o' (O.keep b o' e)
  objs := fun p hp => by
    rcases List.mem_cons.mp hp with rfl | hp
    · exact ho
    · exact (O.up (push_up o)).objs p hp
  nodup := List.nodup_cons.mpr ⟨O.away get_size, O.nodup⟩
  off := fun p hp => by
    rcases List.mem_cons.mp hp with rfl | hp
    · exact O.gone get_size
    · exact O.off p hp
theorem Grow.one {h : Heap} {o : Obj} {mo : MO} : Grow σ h ((h.objs.size, mo) :: σ) (h.push o) :=
  ⟨fun b o' e _ => push_up o b o' e, fun b hb => by
    rcases List.mem_cons.mp hb with rfl | hb
    · exact .inr get_size
    · exact .inl hb⟩
theorem Own.fresh {h : Heap} (O : Own prog w h₀ σ h) : ¬ dom σ h.objs.size := O.away get_size

theorem EW.tuple {es : List Expr} {n : Nat} {pos : Pos} {P : D → Sto → Prop} (h : EWs prog w h₀ k env ρ σ es fun ds σ1 => ds.length ≤ 1000 ∧ P (.tup ds) σ1) (hs : starEach es env = es.map fun e => (false, eval e env) := by kernel_rfl) :
    EW prog w h₀ k env ρ σ (.Tuple es n pos) P := by
  intro A s E Q hA O L hH q
  refine Tuple_ ?_
  rw [splice_eq hs]
  refine h [] A s E _ hA O L held0 fun vs ds σ1 h1 tk1 hP O1 g1 r1 => ?_
  refine wpAny_newTuple ?_ (fitsK hP.1 r1.length)
  refine q _ (.tup ds) σ1 _ tk1 hP.2 (O1.up (push_up _)) (g1.trans (Grow.up (push_up _))) ?_
  exact .tup (Heap.get?_push_size _ rfl) rfl rfl (by simpa using r1.up (push_up _))
theorem EW.list {es : List Expr} {pos : Pos} {P : D → Sto → Prop} (h : EWs prog w h₀ k env ρ σ es fun ds σ1 => ds.length ≤ 1000 ∧ ∀ a, ¬ dom σ1 a → P (.ref a) ((a, .lst ds) :: σ1)) (hs : starEach es env = es.map fun e => (false, eval e env) := by kernel_rfl) :
    EW prog w h₀ k env ρ σ (.List es pos) P := by
  intro A s E Q hA O L hH q
  refine List_ ?_
  rw [splice_eq hs]
  refine h [] A s E _ hA O L held0 fun vs ds σ1 h1 tk1 hP O1 g1 r1 => ?_
  refine wpAny_newList ?_ (fitsK hP.1 r1.length)
  refine q _ (.ref h1.objs.size) ((h1.objs.size, .lst ds) :: σ1) _ tk1 (hP.2 _ O1.fresh) (O1.new ?_) (g1.trans Grow.one) (.ref _)
  exact ⟨vs.toArray, ⟨0, Heap.get?_push_size _ rfl⟩, by simpa using r1.up (push_up _)⟩
end
end Mine
namespace Mine

section
variable {prog : Program} {w : World} {h₀ : Heap} {k : Nat} {env : Env} {ρ ρ' : Rho} {H H' : List (Value × D)} {σ σ' : Sto}

theorem Own.get {h : Heap} {a : Addr} {mo : MO} (O : Own prog w h₀ σ h) (hm : (a, mo) ∈ σ) : RO prog w h a mo := O.objs _ hm
theorem RO.list {h : Heap} {a : Addr} {ds : List D} (x : RO prog w h a (.lst ds)) : ∃ vs, h.IsList a vs ∧ RVs h vs.toList ds := by
  obtain ⟨vs, ⟨n, hv⟩, r⟩ := x
  exact ⟨vs, ⟨_, hv, rfl, n, rfl⟩, r⟩

/-! subscripts -/
noncomputable def SubW (prog : Program) (w : World) (h₀ : Heap) (k : Nat) (env : Env) (ρ : Rho) (σ : Sto) (value slice : Expr) (d1 d2 : D) (P : D → Sto → Prop) : Prop :=
  OpW prog w h₀ k env ρ σ (subscriptTail value slice) d1 d2 P
theorem EW.sub {value slice : Expr} {pos : Pos} {P : D → Sto → Prop} (h : EW prog w h₀ k env ρ σ value fun d1 σ1 => EW prog w h₀ k env ρ σ1 slice fun d2 σ2 => SubW prog w h₀ k env ρ σ2 value slice d1 d2 P) :
    EW prog w h₀ k env ρ σ (.Subscript value slice pos) P := by
  have e : eval (.Subscript value slice pos) env = (eval value env >>= fun o => holding [o] (eval slice env) >>= fun i => standAt pos >>= fun _ => subscriptTail value slice o i) := by
    rw [eval_Subscript]; rfl
  refine WP.of_eq e ?_
  exact WP.bind (h.mono fun d1 σ1 h1 v1 => WP.bind (WP.holding ((WP.noH h1).mono fun d2 σ2 h2 v2 => WP.stand (h2 v1 v2))))
/-- no slice -/
noncomputable def NoSlice (slice : Expr) : Prop := ∀ o i, subscripted slice false o i = PySem.operate [o, i] (getItem o i)
theorem SubW.tup {value slice : Expr} {ds : List D} {i : Int} {j : Nat} {d : D} {P : D → Sto → Prop} (hj : seqIndex? i ds.length = some j) (hd : ds[j]? = some d) (h : P d σ) (hs : NoSlice slice := by intro _ _; rfl) (hlo : -(2 ^ 63) ≤ i := by decide) (hhi : i < 2 ^ 63 := by decide) :
    SubW prog w h₀ k env ρ σ value slice (.tup ds) (.int i) P := OpW.mk d (fun A s E Q v1 v2 hA _ r1 r2 q => by
  obtain ⟨u, rfl⟩ := r2.i
  obtain ⟨a, o, vs, n, rfl, ho, hc, hdd, r⟩ := r1.t
  have ht : IsTup s.heap a vs := ⟨o, ho, hc, n, hdd⟩
  obtain ⟨v, hv, rv⟩ := r.get hd
  exact tail_any ht.typeIs slot_tuple_getitem.lookup (getItem_tuple ht hlo hhi (j := j) (x := v) (r.size.symm ▸ hj) (Array.getElem?_toList.symm.trans hv) (q v s.toks rv)) (hs _ _)) h
theorem sub_list {value slice : Expr} {a : Addr} {ds : List D} {i : Int} {d : D} {P : D → Sto → Prop} (hm : ∀ h, Own prog w h₀ σ h → ∃ vs, h.IsList a vs ∧ RVs h vs.toList ds) (h0 : 0 ≤ i) (hd : ds[i.toNat]? = some d) (h : P d σ) (hs : NoSlice slice) (hhi : i < 2 ^ 63) :
    SubW prog w h₀ k env ρ σ value slice (.ref a) (.int i) P := OpW.mk d (fun A s E Q v1 v2 hA O r1 r2 q => by
  obtain ⟨u, rfl⟩ := r2.i
  obtain rfl := r1.r
  obtain ⟨vs, hl, r⟩ := hm _ O
  obtain ⟨v, hv, rv⟩ := r.get hd
  exact tail_any hl.typeIs slot_list_getitem.lookup (wpAny_getItem_list hl h0 hhi (Array.getElem?_toList.symm.trans hv) (q v s.toks rv)) (hs _ _)) h
theorem SubW.lst {value slice : Expr} {a : Addr} {ds : List D} {i : Int} {d : D} {P : D → Sto → Prop} (hm : (a, .lst ds) ∈ σ) (h0 : 0 ≤ i) (hd : ds[i.toNat]? = some d) (h : P d σ) (hs : NoSlice slice := by intro _ _; rfl) (hhi : i < 2 ^ 63 := by decide) :
    SubW prog w h₀ k env ρ σ value slice (.ref a) (.int i) P := sub_list (fun _ O => (O.get hm).list) h0 hd h hs hhi
theorem SubW.arr {value slice : Expr} {a : Addr} {ds : List D} {i : Int} {d : D} {P : D → Sto → Prop} (hm : (a, .arr ds) ∈ σ) (h0 : 0 ≤ i) (hd : ds[i.toNat]? = some d) (h : P d σ) (hs : NoSlice slice := by intro _ _; rfl) (hhi : i < 2 ^ 63 := by decide) :
    SubW prog w h₀ k env ρ σ value slice (.ref a) (.int i) P := sub_list (fun _ O => O.get hm) h0 hd h hs hhi
theorem SubW.last {value slice : Expr} {a : Addr} {ds : List D} {d : D} {P : D → Sto → Prop} (hm : (a, .lst ds) ∈ σ) (hd : ds.getLast? = some d) (h : P d σ) (hs : NoSlice slice := by intro _ _; rfl) :
    SubW prog w h₀ k env ρ σ value slice (.ref a) (.int (-1)) P := OpW.mk d (fun A s E Q v1 v2 hA O r1 r2 q => by
  obtain ⟨u, rfl⟩ := r2.i
  obtain rfl := r1.r
  obtain ⟨vs, hl, r⟩ := (O.get hm).list
  rw [List.getLast?_eq_getElem?] at hd
  obtain ⟨v, hv, rv⟩ := r.get hd
  have hlt : ds.length - 1 < ds.length := (List.getElem?_eq_some_iff.mp hd).1
  have e : -1 + (vs.size : Int) = (ds.length - 1 : Nat) := by rw [r.size]; omega
  exact tail_any hl.typeIs slot_list_getitem.lookup (wpAny_getItem_list_neg (x := v) hl (by decide) (Int.neg_le_neg (Int.ofNat_le.mpr (r.size ▸ Nat.zero_lt_of_lt hlt))) (by decide) (e.symm ▸ Array.getElem?_toList.symm.trans hv) (q v s.toks rv)) (hs _ _)) h

/-! slices with an upper bound alone -/
theorem eval_upto {n : Nat} {c : Nat} {p p' : Pos} {A : Around} {s : Shared} {E : Value → Shared → Prop} {Q : Value → Shared → Prop} {M : Model}
    (h : Q (.ref s.heap.objs.size) { s with heap := s.heap.push { cls := .type "slice", data := .fields #[.none, .int (n : Int) s.toks, .none] }, toks := s.toks + 1 }) :
    wpAny M A (eval (.Slice Option.none (some (.Constant (.int (n : Int)) c p)) Option.none p') env) Q E s := by
  show wpAny M A (mkInt (n : Int) >>= fun u => newFields "slice" [.none, u, .none]) Q E s
  exact wpAny_bind (wpAny_mkInt (wpAny_newObj_type h))
open Builtin.Slice in
theorem sliceApplied_upto {A : Around} {s : Shared} {E : Value → Shared → Prop} {sl : Addr} {n m : Nat} {u : Tok} {Q : Int × Int × Nat → Shared → Prop} (hs : s.heap.IsSliceOf sl .none (.int (n : Int) u) .none) (hn : n ≤ m) (h : Q (0, 1, n) s) :
    wpAny (model prog w) A (sliceApplied (.ref sl) (pure (m : Int))) Q E s := by
  obtain ⟨os, hos, hcs, hds⟩ := id hs
  unfold sliceApplied sliceFields
  refine wpAny_bind (wpAny_bind (wpAny_field hos hds (x := .none) rfl (wpAny_bind (wpAny_field hos hds (x := .int (n : Int) u) rfl (wpAny_bind (wpAny_field hos hds (x := .none) rfl (wpAny_pure ?_)))))))
  refine wpAny_bind (slicePart_none ?_)
  show wpAny _ _ (if ((1 : Int) == 0) = true then _ else _) _ _ s
  rw [if_neg (by decide)]
  refine wpAny_bind (slicePart_none (wpAny_bind (slicePart_int (wpAny_bind (wpAny_pure ?_)))))
  have e : sliceAdjust Option.none (some (n : Int)) 1 (m : Int) = (0, (n : Int)) := by
    unfold sliceAdjust
    show ((0 : Int), if (n : Int) < 0 then _ else min (n : Int) (m : Int)) = _
    rw [if_neg (Int.not_lt.mpr (Int.natCast_nonneg n)), Int.min_eq_left (Int.ofNat_le.mpr hn)]
  have e2 : slicePlaces 0 (n : Int) 1 = n := by
    unfold slicePlaces
    simp only [show (1 : Int) > 0 from Int.one_pos, if_true, Int.ediv_one]
    split <;> omega
  show wpAny _ _ (match sliceAdjust Option.none (some (n : Int)) 1 (m : Int) with | (lo, hi) => pure (lo, (1 : Int), slicePlaces lo hi 1)) _ _ s
  rw [e]
  show wpAny _ _ (pure ((0 : Int), (1 : Int), slicePlaces 0 (n : Int) 1)) _ _ s
  rw [e2]
  exact wpAny_pure h
theorem pick_upto (xs : Array Value) (n : Nat) (hn : n ≤ xs.size) : ((List.range n).filterMap fun (j : Nat) => xs[((0 : Int) + (j : Int) * 1).toNat]?) = xs.toList.take n := by
  have e : (fun (j : Nat) => xs[((0 : Int) + (j : Int) * 1).toNat]?) = fun j => xs[j]? := by
    funext j
    rw [show ((0 : Int) + (j : Int) * 1).toNat = j by omega]
  rw [e]
  obtain ⟨l⟩ := xs
  simp only [List.size_toArray] at hn
  simp only [List.getElem?_toArray]
  induction n with
  | zero => simp
  | succ n ih =>
    rw [List.range_succ, List.filterMap_append, ih (by omega), List.take_add_one]
    first | (congr 1; done) | (congr 1; simp [List.getElem?_eq_getElem (show n < l.length by omega)])

theorem getItem_tuple_upto {A : Around} {s : Shared} {E : Value → Shared → Prop} {t sl : Addr} {items : Array Value} {n : Nat} {u : Tok} {Q : Value → Shared → Prop} (ht : IsTup s.heap t items) (hs : s.heap.IsSliceOf sl .none (.int (n : Int) u) .none) (hn : n ≤ items.size)
    (h1 : n = items.size → Q (.ref t) s) (h2 : n ≠ items.size → Q (.ref s.heap.objs.size) { s with heap := s.heap.push { cls := .type "tuple", data := .seq (items.toList.take n).toArray } }) (hsz : items.size ≤ 1000000) :
    wpAny (model prog w) A (getItem (.ref t) (.ref sl)) Q E s := by
  have hT : s.TypeIs (.ref sl) "slice" := let ⟨o, ho, hc, _⟩ := hs; ⟨o, ho, hc⟩
  unfold getItem
  try with_reducible refine wpAny_holding ?_
  first | refine wpAny_bind (wpAny_pure ?_) | skip
  refine wpAny_bind (wpAny_sequenceKey ht.typeIs (by decide) ?_)
  refine wpAny_bind (wpAny_callSpecial?_slot (name := Str.ofString "__getitem__") ht.typeIs slot_tuple_getitem (wpAny_call_entry slot_tuple_getitem ht.typeIs entry_tuple_getitem ?_ (args_tuple_getitem _ _)))
  show wpAny _ _ (Builtin.Tuple.tupleItemsOf (.ref t) >>= _) _ _ s
  refine wpAny_bind (tupleItemsOf_ ht ?_)
  refine wpAny_bind (wpAny_typeOf hT ?_)
  rw [if_pos (by decide)]
  refine wpAny_bind (sliceApplied_upto hs hn ?_)
  dsimp only
  by_cases he : n = items.size
  · rw [if_pos (by rw [he]; simp)]
    refine wpAny_bind (m := Builtin.Tuple.tupleIsExact _) ?_
    unfold Builtin.Tuple.tupleIsExact
    refine wpAny_bind (wpAny_typeOf ht.typeIs (wpAny_pure ?_))
    rw [if_pos (by decide)]
    exact wpAny_bind (m := ret _) (wpAny_pure (wpAny_pure ⟨_, rfl, wpAny_pure (h1 he)⟩))
  · rw [if_neg (by simp; exact he), pick_upto items n hn]
    have hz : sizeOk (.seq (items.toList.take n).toArray) := by
      show (items.toList.take n).toArray.size ≤ sizeLine
      exact fits (Nat.le_trans (Nat.min_le_right ..) hsz) (by rw [List.size_toArray, List.length_take]; rfl)
    exact wpAny_bind (m := Builtin.Tuple.tupleExact _) (wpAny_newObj_type (wpAny_pure ⟨_, rfl, wpAny_pure (h2 he)⟩) hz)
theorem EW.sliceT {x : Str} {px : Pos} {n : Nat} {c : Nat} {p p' pos : Pos} {P : D → Sto → Prop}
    (h : EW prog w h₀ k env ρ σ (.Name x px) fun d1 σ1 => ∃ ds, d1 = .tup ds ∧ n ≤ ds.length ∧ ds.length ≤ 1000000 ∧ P (.tup (ds.take n)) σ1) :
    EW prog w h₀ k env ρ σ (.Subscript (.Name x px) (.Slice Option.none (some (.Constant (.int (n : Int)) c p)) Option.none p') pos) P := by
  intro A s E Q hA O L hH q
  refine Subscript_Slice (h A s E _ hA O L held0 fun v1 d1 σ1 h1 tk1 hP O1 g1 r1 => eval_upto ?_) (fun _ _ => rfl)
  obtain ⟨ds, rfl, hn, hlen, hP⟩ := hP
  obtain ⟨a, o, vs, n', rfl, ho, hc, hd, r⟩ := r1.t
  · have hsz : vs.size = ds.length := r.size
    have ht : IsTup (h1.push { cls := .type "slice", data := .fields #[.none, .int (n : Int) tk1, .none] }) a vs := ⟨o, push_up _ _ _ ho, hc, n', hd⟩
    refine ⟨_, _, slot_tuple_getitem.lookup, ht.typeIs, ?_⟩
    have O2 := O1.up (push_up ({ cls := .type "slice", data := .fields #[.none, .int (n : Int) tk1, .none] } : Obj))
    refine getItem_tuple_upto ht (Heap.IsSliceOf.new ..) (hsz ▸ hn) (fun he => ?_) (fun he => ?_) (hsz ▸ hlen)
    · refine q _ (.tup (ds.take n)) σ1 _ _ hP O2 (g1.trans (Grow.up (push_up _))) ?_
      rw [List.take_of_length_le (Nat.le_of_eq (hsz.symm.trans he.symm))]
      exact .tup (push_up _ _ _ ho) hc hd (r.up (push_up _))
    · refine q _ (.tup (ds.take n)) σ1 _ _ hP (O2.up (push_up _)) ((g1.trans (Grow.up (push_up _))).trans (Grow.up (push_up _))) ?_
      exact .tup (Heap.get?_push_size _ rfl) rfl rfl (by rw [List.toList_toArray]; exact (r.take n).up fun b o e => push_up _ b o (push_up _ b o e))

/-! dicts by int tuples -/
noncomputable def D.key (ks : List Int) : D := .tup (ks.map .int)
noncomputable def look {K : Type} [DecidableEq K] (es : List (K × D)) (q : K) : Option D := (es.find? fun e => decide (e.1 = q)).map (·.2)
noncomputable def put {K : Type} [DecidableEq K] (es : List (K × D)) (q : K) (d : D) : List (K × D) := if (look es q).isSome then es.map (fun e => if e.1 = q then (e.1, d) else e) else es ++ [(q, d)]

theorem isTupleKey_of {h : Heap} {v : Value} {ks : List Int} (r : RV h v (D.key ks)) : ∃ a, v = .ref a ∧ IsTupleKey (intKind prog w) h ks a := by
  replace r := RV.t (ds := ks.map .int) r
  obtain ⟨a, o, vs, n, rfl, ho, hc, hd, r⟩ := r
  refine ⟨a, rfl, o, vs, n, ho, hc, hd, ?_⟩
  generalize vs.toList = l at r
  clear hd
  induction ks generalizing l with
  | nil => rw [r.nl]; exact .nil
  | cons q ks ih =>
    obtain ⟨v, ws, rfl, a, b⟩ := r.cs
    obtain ⟨t, rfl⟩ := a.i
    exact .cons (intKind_is prog w _ _) (ih _ b)

theorem look_at {h : Heap} {xs : List (List Int × Addr × Value)} {es : List (List Int × D)} (h1 : xs.map (·.1) = es.map (·.1)) (r : RVs h (xs.map (·.2.2)) (es.map (·.2))) (q : List Int) :
    (atKey xs q = Option.none ∧ look es q = Option.none) ∨ ∃ p d, atKey xs q = some p ∧ look es q = some d ∧ RV h p.2 d := by
  induction xs generalizing es with
  | nil =>
    cases es with
    | nil => exact .inl ⟨rfl, rfl⟩
    | cons _ _ => simp at h1
  | cons x xs ih =>
    cases es with
    | nil => simp at h1
    | cons e es =>
      simp only [List.map_cons, List.cons.injEq] at h1 r
      cases r with
      | cons a b =>
        by_cases hq : x.1 = q
        · right
          refine ⟨x.2, e.2, ?_, ?_, a⟩
          · unfold atKey; rw [List.find?_cons_of_pos (by simpa using hq)]; rfl
          · unfold look; rw [List.find?_cons_of_pos (by simpa using (h1.1 ▸ hq))]; rfl
        · have e1 : atKey (x :: xs) q = atKey xs q := by unfold atKey; rw [List.find?_cons_of_neg (by simpa using hq)]
          have e2 : look (e :: es) q = look es q := by unfold look; rw [List.find?_cons_of_neg (by simpa using (h1.1 ▸ hq))]
          rw [e1, e2]
          exact ih h1.2 b
theorem put_at {h : Heap} {xs : List (List Int × Addr × Value)} {es : List (List Int × D)} (h1 : xs.map (·.1) = es.map (·.1)) (r : RVs h (xs.map (·.2.2)) (es.map (·.2))) {q : List Int} {a : Addr} {v : Value} {d : D} (rv : RV h v d) :
    (storedH xs q a v).map (·.1) = (put es q d).map (·.1) ∧ RVs h ((storedH xs q a v).map (·.2.2)) ((put es q d).map (·.2)) := by
  unfold storedH put
  rcases look_at h1 r q with ⟨e1, e2⟩ | ⟨p, d', e1, e2, _⟩
  · rw [e1, e2]
    simp only [Option.isSome_none, Bool.false_eq_true, if_false, List.map_append, List.map_cons, List.map_nil]
    exact ⟨by rw [h1], r.append (.one rv)⟩
  · rw [e1, e2]
    simp only [Option.isSome_some, if_true, List.map_map]
    clear e1 e2
    induction xs generalizing es with
    | nil =>
      cases es with
      | nil => exact ⟨rfl, .nil⟩
      | cons _ _ => simp at h1
    | cons x xs ih =>
      cases es with
      | nil => simp at h1
      | cons e es =>
        simp only [List.map_cons, List.cons.injEq] at h1 r ⊢
        cases r with
        | cons a b =>
          obtain ⟨i1, i2⟩ := ih h1.2 b
          simp only [Function.comp_apply, putAt]
          by_cases hq : x.1 = q
          · rw [if_pos hq, if_pos (h1.1 ▸ hq)]
            exact ⟨⟨h1.1, i1⟩, .cons rv i2⟩
          · rw [if_neg hq, if_neg (h1.1 ▸ hq)]
            exact ⟨⟨h1.1, i1⟩, .cons a i2⟩

theorem AOk.room {A : Around} (hA : AOk k A) : (tupleKind (intKind prog w)).room A.in1 := by
  have := hA.units
  show A.in1.units < cLine
  rw [Around.in1_units]; omega
theorem OpW.notinD {a : Addr} {es : List (List Int × D)} {q : List Int} {P : D → Sto → Prop} (hm : (a, .dct es) ∈ σ) (h : P (.bool (!(look es q).isSome)) σ) : OpW prog w h₀ k env ρ σ (compareOp .NotIn) (D.key q) (.ref a) P := OpW.mk _ (fun A s E Q v1 v2 hA O h1 h2 f => by
  obtain rfl := h2.r
  obtain ⟨b, rfl, hk⟩ := isTupleKey_of (prog := prog) (w := w) h1
  obtain ⟨lo, xs, hd, e1, r⟩ := O.get hm
  refine wpAny_notIn_heap hA.room hk lo hd ?_
  rcases look_at e1 r q with ⟨y1, y2⟩ | ⟨p, d', y1, y2, _⟩ <;> rw [y1] <;> rw [y2] at f <;> exact f _ _ (.bool _)) h
theorem SubW.dct {value slice : Expr} {a : Addr} {es : List (List Int × D)} {q : List Int} {d : D} {P : D → Sto → Prop} (hm : (a, .dct es) ∈ σ) (hd : look es q = some d) (h : P d σ) (hs : NoSlice slice := by intro _ _; rfl) :
    SubW prog w h₀ k env ρ σ value slice (.ref a) (D.key q) P := OpW.mk d (fun A s E Q v1 v2 hA O h1 h2 f => by
  obtain rfl := h1.r
  obtain ⟨b, rfl, hk⟩ := isTupleKey_of (prog := prog) (w := w) h2
  obtain ⟨lo, xs, hx, e1, r⟩ := O.get hm
  rcases look_at e1 r q with ⟨y1, y2⟩ | ⟨p, d', y1, y2, rv⟩
  · exact absurd (hd.symm.trans y2) (Option.some_ne_none d)
  · obtain rfl : d' = d := Option.some.inj (y2.symm.trans hd)
    exact tail_any hx.typeIs slot_dict_getitem.lookup (wpAny_getItem_heap hA.room hk hx y1 (f _ _ rv)) (hs _ _)) h
end
end Mine
namespace Mine

mutual
noncomputable def D.py : D → PyData
  | .none => .none
  | .bool b => .bool b
  | .int i => .int i
  | .str x => .str x
  | .tup ds => .tuple (D.pys ds)
  | .ref _ => .none
  | .rng _ _ _ => .none
noncomputable def D.pys : List D → List PyData
  | [] => []
  | d :: ds => D.py d :: D.pys ds
end
mutual
noncomputable def D.pure : D → Bool
  | .none => true
  | .bool _ => true
  | .int _ => true
  | .str x => PyData.strOk x
  | .tup ds => D.pures ds
  | .ref _ => false
  | .rng _ _ _ => false
noncomputable def D.pures : List D → Bool
  | [] => true
  | d :: ds => D.pure d && D.pures ds
end
theorem RV.reads {h : Heap} {v : Value} {d : D} (x : RV h v d) : d.pure = true → ∃ as, Reads h v d.py as :=
  RV.rec (motive_1 := fun v d _ => d.pure = true → ∃ as, Reads h v d.py as) (motive_2 := fun vs ds _ => D.pures ds = true → ∃ as, ReadsAll h vs (D.pys ds) as) (fun _ => ⟨[], .none⟩) (fun b _ => ⟨[], .bool b⟩) (fun i t _ => ⟨[], .int i t⟩) (fun x t _ => ⟨[], .str x t⟩)
    (fun _ hp => absurd hp Bool.false_ne_true) (fun _ hp => absurd hp Bool.false_ne_true) (fun ho hc hd _ ih hp => let ⟨as, ra⟩ := ih hp; ⟨as, .tuple ho hc hd ra⟩) (fun _ => ⟨[], .nil⟩)
    (fun _ _ ia ib hp => let hp' := (Bool.and_eq_true ..).mp hp; let ⟨as, ra⟩ := ia hp'.1; let ⟨bs, rb⟩ := ib hp'.2; ⟨as ++ bs, .cons ra rb⟩) x
theorem RVs.reads {h : Heap} {vs : List Value} {ds : List D} (x : RVs h vs ds) : D.pures ds = true → ∃ as, ReadsAll h vs (D.pys ds) as :=
  RVs.rec (motive_1 := fun v d _ => d.pure = true → ∃ as, Reads h v d.py as) (motive_2 := fun vs ds _ => D.pures ds = true → ∃ as, ReadsAll h vs (D.pys ds) as) (fun _ => ⟨[], .none⟩) (fun b _ => ⟨[], .bool b⟩) (fun i t _ => ⟨[], .int i t⟩) (fun x t _ => ⟨[], .str x t⟩)
    (fun _ hp => absurd hp Bool.false_ne_true) (fun _ hp => absurd hp Bool.false_ne_true) (fun ho hc hd _ ih hp => let ⟨as, ra⟩ := ih hp; ⟨as, .tuple ho hc hd ra⟩) (fun _ => ⟨[], .nil⟩)
    (fun _ _ ia ib hp => let hp' := (Bool.and_eq_true ..).mp hp; let ⟨as, ra⟩ := ia hp'.1; let ⟨bs, rb⟩ := ib hp'.2; ⟨as ++ bs, .cons ra rb⟩) x
theorem D.lay (d : D) : d.pure = true → d.py.canLay0 = true :=
  D.rec (motive_1 := fun d => d.pure = true → d.py.canLay0 = true) (motive_2 := fun ds => D.pures ds = true → PyData.canLayAll0 (D.pys ds) = true) (fun _ => rfl) (fun _ _ => rfl) (fun _ _ => rfl) (fun _ h => h) (fun _ ih h => ih h)
    (fun _ h => absurd h Bool.false_ne_true) (fun _ _ _ h => absurd h Bool.false_ne_true) (fun _ => rfl) (fun _ _ ia ib h => let h' := (Bool.and_eq_true ..).mp h; (Bool.and_eq_true ..).mpr ⟨ia h'.1, ib h'.2⟩) d
theorem D.lays (ds : List D) : D.pures ds = true → PyData.canLayAll0 (D.pys ds) = true := by
  induction ds with
  | nil => exact fun _ => rfl
  | cons d ds ih => exact fun h => let h' := (Bool.and_eq_true ..).mp h; (Bool.and_eq_true ..).mpr ⟨D.lay d h'.1, ih h'.2⟩
theorem D.eqv_self (d : D) : PyData.eqv d.py d.py = true :=
  D.rec (motive_1 := fun d => PyData.eqv d.py d.py = true) (motive_2 := fun ds => PyData.eqvAll (D.pys ds) (D.pys ds) = true) rfl (fun b => beq_self_eq_true b) (fun i => by simp [D.py, PyData.eqv]) (fun x => by simp [D.py, PyData.eqv]) (fun _ ih => ih)
    (fun _ => rfl) (fun _ _ _ => rfl) rfl (fun _ _ ia ib => (Bool.and_eq_true ..).mpr ⟨ia, ib⟩) d
theorem D.pys_map (a : List D) : D.pys a = a.map D.py := by
  induction a with
  | nil => rfl
  | cons x a ih => exact congrArg (D.py x :: ·) ih
theorem D.pures_all (a : List D) : D.pures a = a.all D.pure := by
  induction a with
  | nil => rfl
  | cons x a ih => exact congrArg (D.pure x && ·) ih
theorem key_pure (q : List Int) : (D.key q).pure = true := by
  show D.pures (q.map .int) = true
  induction q with
  | nil => rfl
  | cons x q ih => exact ih
theorem key_eqv (q q' : List Int) : PyData.eqv (D.key q).py (D.key q').py = decide (q = q') := by
  show PyData.eqvAll (D.pys (q.map .int)) (D.pys (q'.map .int)) = _
  induction q generalizing q' with
  | nil => cases q' <;> rfl
  | cons x q ih =>
    cases q' with
    | nil => rfl
    | cons y q' =>
      show ((x == y) && PyData.eqvAll (D.pys (q.map .int)) (D.pys (q'.map .int))) = _
      rw [ih, Bool.eq_iff_iff]
      simp
section
variable {prog : Program} {w : World} {h₀ : Heap} {k : Nat} {env : Env} {ρ ρ' : Rho} {H H' : List (Value × D)} {σ σ' : Sto}

theorem AOk.roomD {A : Around} (hA : AOk k A) {m n : Nat} (h : Nat.ble n 30 = true) : A.units + 1 + min m n < cLine := by
  have := hA.units
  have := Nat.le_of_ble_eq_true h
  omega
theorem AOk.roomE {A : Around} (hA : AOk k A) {m n : Nat} (h : Nat.ble n 30 = true) : A.units + min m n < cLine := Nat.lt_of_le_of_lt (Nat.add_le_add_right (Nat.le_succ _) _) (hA.roomD h)
theorem OpW.eqD {d1 d2 : D} {P : D → Sto → Prop} (h1 : d1.pure = true) (h2 : d2.pure = true) (hd : Nat.ble d2.py.depth 30 = true) (h : P (.bool (PyData.eqv d1.py d2.py)) σ) : OpW prog w h₀ k env ρ σ (compareOp .Eq) d1 d2 P := OpW.mk _ (fun A s E Q v1 v2 hA O r1 r2 f => by
  obtain ⟨bs, r2⟩ := r2.reads h2
  obtain ⟨as, r1⟩ := r1.reads h1
  exact SeqAt.eqOverData prog w A E s v1 v2 _ _ as bs Q r1 r2 (D.lay _ h1) (D.lay _ h2) (hA.roomE hd) (f _ _ (.bool _))) h
theorem OpW.neD {d1 d2 : D} {P : D → Sto → Prop} (h1 : d1.pure = true) (h2 : d2.pure = true) (hd : Nat.ble d2.py.depth 30 = true) (h : P (.bool (!PyData.eqv d1.py d2.py)) σ) : OpW prog w h₀ k env ρ σ (compareOp .NotEq) d1 d2 P := OpW.mk _ (fun A s E Q v1 v2 hA O r1 r2 f => by
  obtain ⟨bs, r2⟩ := r2.reads h2
  obtain ⟨as, r1⟩ := r1.reads h1
  exact SeqAt.neOverData prog w A E s v1 v2 _ _ as bs Q r1 r2 (D.lay _ h1) (D.lay _ h2) (hA.roomE hd) (f _ _ (.bool _))) h
theorem RO.readsL {h : Heap} {a : Addr} {ds : List D} (x : RO prog w h a (.lst ds)) (hp : D.pures ds = true) : ∃ as, Reads h (.ref a) (.list (D.pys ds)) as := by
  obtain ⟨vs, ⟨o, ho, hc, n, hd⟩, r⟩ := x.list
  obtain ⟨as, ra⟩ := r.reads hp
  exact ⟨_, .list ho hc hd ra⟩
theorem OpW.neL {a b : Addr} {ds es : List D} {P : D → Sto → Prop} (ha : (a, .lst ds) ∈ σ) (hb : (b, .lst es) ∈ σ) (h1 : D.pures ds = true) (h2 : D.pures es = true) (hd : PyData.depthAll (D.pys es) ≤ 28) (h : P (.bool (!PyData.eqvAll (D.pys ds) (D.pys es))) σ) :
    OpW prog w h₀ k env ρ σ (compareOp .NotEq) (.ref a) (.ref b) P := OpW.mk _ (fun A s E Q v1 v2 hA O r1 r2 f => by
  rw [r1.r, r2.r]
  obtain ⟨as, r1⟩ := (O.get ha).readsL h1
  obtain ⟨bs, r2⟩ := (O.get hb).readsL h2
  exact SeqAt.neOverData prog w A E s _ _ _ _ as bs Q r1 r2 (D.lays _ h1) (D.lays _ h2) (hA.roomE (Nat.ble_eq_true_of_le (Nat.le_trans (Nat.succ_le_succ hd) (by decide)))) (f (.bool (!PyData.eqvAll (D.pys ds) (D.pys es))) s.toks (.bool _))) h
theorem any_pys (ds : List D) (d : D) : (ds.any fun e => PyData.eqv e.py d.py) = (D.pys ds).any fun e => PyData.eqv e d.py := by
  rw [D.pys_map, List.any_map]; rfl
theorem OpW.notinL {a : Addr} {ds : List D} {d : D} {P : D → Sto → Prop} (ha : (a, .lst ds) ∈ σ) (h1 : D.pures ds = true) (h2 : d.pure = true) (hd : Nat.ble d.py.depth 30 = true) (h : P (.bool (!ds.any fun e => PyData.eqv e.py d.py)) σ) :
    OpW prog w h₀ k env ρ σ (compareOp .NotIn) d (.ref a) P := OpW.mk _ (fun A s E Q v1 v2 hA O r1 r2 f => by
  obtain ⟨bs, r1⟩ := r1.reads h2
  rw [r2.r]
  obtain ⟨as, r2⟩ := (O.get ha).readsL h1
  exact SeqAt.notIn_list_reads r2 r1 (D.lays _ h1) (D.lay _ h2) (hA.roomD hd) (any_pys ds d ▸ f (.bool (!ds.any fun e => PyData.eqv e.py d.py)) s.toks (.bool _))) h
theorem OpW.notinT {ds : List D} {d : D} {P : D → Sto → Prop} (h1 : D.pures ds = true) (h2 : d.pure = true) (hd : Nat.ble d.py.depth 30 = true) (h : P (.bool (!ds.any fun e => PyData.eqv e.py d.py)) σ) :
    OpW prog w h₀ k env ρ σ (compareOp .NotIn) d (.tup ds) P := OpW.mk _ (fun A s E Q v1 v2 hA O r1 r2 f => by
  obtain ⟨bs, r1⟩ := r1.reads h2
  obtain ⟨as, r2⟩ := RV.reads (d := .tup ds) r2 h1
  exact SeqAt.notIn_tuple_reads r2 r1 (D.lays _ h1) (D.lay _ h2) (hA.roomD hd) (any_pys ds d ▸ f (.bool (!ds.any fun e => PyData.eqv e.py d.py)) s.toks (.bool _))) h
end
end Mine
namespace Mine

/-- the frame's own objects, and the owned ones -/
noncomputable def offs (env : Env) (σ : Sto) : Addr → Prop := fun b => dom σ b ∨ b = env.locals ∨ (env.func.isSome = true ∧ ∃ x, env.cells.lookup x = some b)
structure GrowS (env : Env) (σ : Sto) (h : Heap) (σ' : Sto) (h' : Heap) : Prop where
  keep : Kp (offs env σ) h h'
  new : ∀ b, dom σ' b → dom σ b ∨ h.get? b = Option.none

/-- how a statement ends -/
noncomputable def FlowP (h₀ : Heap) (env : Env) (N C : Rho → Sto → Prop) (Rt : D → Sto → Prop) (σ' : Sto) (h' : Heap) : Flow → Prop
  | .next => ∃ ρ', N ρ' σ' ∧ Loc h₀ env ρ' σ' h'
  | .cont => ∃ ρ', C ρ' σ' ∧ Loc h₀ env ρ' σ' h'
  | .brk => False
  | .ret v => ∃ d, Rt d σ' ∧ RV h' v d

noncomputable def FlowW (prog : Program) (w : World) (h₀ : Heap) (k : Nat) (env : Env) (ρ : Rho) (σ : Sto) (t : Sem Flow) (N C : Rho → Sto → Prop) (Rt : D → Sto → Prop) : Prop :=
  ∀ (A : Around) (s : Shared) (E : Value → Shared → Prop) (Q : Flow → Shared → Prop), AOk k A → Own prog w h₀ σ s.heap → Loc h₀ env ρ σ s.heap →
    (∀ f σ' h' tk, FlowP h₀ env N C Rt σ' h' f → Own prog w h₀ σ' h' → GrowS env σ s.heap σ' h' → Q f { s with heap := h', toks := tk }) → wpAny (model prog w) A t Q E s
abbrev SW (prog : Program) (w : World) (h₀ : Heap) (k : Nat) (env : Env) (ρ : Rho) (σ : Sto) (b : List Stmt) (N C : Rho → Sto → Prop) (Rt : D → Sto → Prop) : Prop := FlowW prog w h₀ k env ρ σ (execs b env) N C Rt
abbrev XW (prog : Program) (w : World) (h₀ : Heap) (k : Nat) (env : Env) (ρ : Rho) (σ : Sto) (b : Stmt) (N C : Rho → Sto → Prop) (Rt : D → Sto → Prop) : Prop := FlowW prog w h₀ k env ρ σ (exec b env) N C Rt
/-- a value bound to a target -/
noncomputable def AW (prog : Program) (w : World) (h₀ : Heap) (k : Nat) (env : Env) (ρ : Rho) (σ : Sto) (t : Expr) (d : D) (P : Rho → Sto → Prop) : Prop :=
  ∀ (A : Around) (s : Shared) (E : Value → Shared → Prop) (Q : Unit → Shared → Prop) (v : Value), AOk k A → Own prog w h₀ σ s.heap → Loc h₀ env ρ σ s.heap → RV s.heap v d →
    (∀ ρ' σ' h' tk, P ρ' σ' → Own prog w h₀ σ' h' → Loc h₀ env ρ' σ' h' → GrowS env σ s.heap σ' h' → Q () { s with heap := h', toks := tk }) → wpAny (model prog w) A (assign t env v) Q E s

section
variable {prog : Program} {w : World} {h₀ h h' h'' : Heap} {k : Nat} {env : Env} {ρ ρ' : Rho} {H H' : List (Value × D)} {σ σ' σ'' : Sto} {N C : Rho → Sto → Prop} {Rt : D → Sto → Prop}

theorem Grow.s (g : Grow σ h σ' h') : GrowS env σ h σ' h' := ⟨fun b o e hb => g.keep b o e fun hd => hb (.inl hd), g.new⟩
theorem GrowS.refl : GrowS env σ h σ h := Grow.refl.s
theorem Loc.mine {b : Addr} (L : Loc h₀ env ρ σ h) (hx : b = env.locals ∨ (env.func.isSome = true ∧ ∃ x, env.cells.lookup x = some b)) : ∃ o, h.get? b = some o := by
  rcases hx with rfl | ⟨_, z, hx⟩
  · exact let ⟨_, hn, _⟩ := L.ns; ns_obj hn
  · exact let ⟨_, hv⟩ := L.cell z b hx; cell_obj hv
theorem GrowS.trans (x : GrowS env σ h σ' h') (L : Loc h₀ env ρ σ' h') (y : GrowS env σ' h' σ'' h'') : GrowS env σ h σ'' h'' := by
  refine ⟨fun b o e hb => y.keep b o (x.keep b o e hb) fun hb' => ?_, fun b hb => ?_⟩
  · rcases hb' with hb' | hb'
    · rcases x.new b hb' with h1 | h1
      · exact hb (.inl h1)
      · exact absurd (e.symm.trans h1) (Option.some_ne_none o)
    · exact hb (.inr hb')
  · rcases y.new b hb with h1 | h1
    · exact x.new b h1
    · by_cases hd : dom σ b
      · exact .inl hd
      · right
        cases e : h.get? b with
        | none => rfl
        | some o =>
          exfalso
          have hx : offs env σ b := Classical.byContradiction fun hn => absurd ((x.keep b o e hn).symm.trans h1) (Option.some_ne_none o)
          exact (L.mine (hx.resolve_left hd)).elim fun o' ho' => absurd (ho'.symm.trans h1) (Option.some_ne_none o')
theorem FlowW.weakS {t : Sem Flow} (hO : ∀ h, Own prog w h₀ σ h → Own prog w h₀ σ' h) (hd : ∀ b, dom σ' b → dom σ b) (x : FlowW prog w h₀ k env ρ σ' t N C Rt) : FlowW prog w h₀ k env ρ σ t N C Rt :=
  fun A s E Q hA O L q => x A s E Q hA (hO _ O) { L with offL := fun hb => L.offL (hd _ hb), offC := fun y c hc hb => L.offC y c hc (hd _ hb) } fun f σ'' h' tk p O' g =>
    q f σ'' h' tk p O' ⟨fun b o e hb => g.keep b o e fun hb' => hb (hb'.imp (hd b) id), fun b hb => (g.new b hb).imp (hd b) id⟩

theorem SW.nil (h : N ρ σ) : SW prog w h₀ k env ρ σ [] N C Rt := fun A s E Q hA O L q => wpAny_execs_nil (q .next σ s.heap s.toks ⟨ρ, h, L⟩ O .refl)
theorem SW.cons {st : Stmt} {rest : List Stmt} (h : XW prog w h₀ k env ρ σ st (fun ρ' σ' => SW prog w h₀ k env ρ' σ' rest N C Rt) C Rt) : SW prog w h₀ k env ρ σ (st :: rest) N C Rt := by
  intro A s E Q hA O L q
  refine wpAny_execs_cons (h A s E _ hA O L fun f σ' h' tk p O' g => ?_)
  cases f with
  | next =>
    obtain ⟨ρ', hp, L'⟩ := p
    exact hp A { s with heap := h', toks := tk } E Q hA O' L' fun f' σ'' h'' tk' p' O'' g' => q f' σ'' h'' tk' p' O'' (g.trans L' g')
  | cont => exact q _ _ _ _ p O' g
  | brk => exact p.elim
  | ret v => exact q _ _ _ _ p O' g
theorem XW.ret {e : Expr} {pos : Pos} (h : EW prog w h₀ k env ρ σ e Rt) : XW prog w h₀ k env ρ σ (.Return (some e) pos) N C Rt := fun A s E Q hA O L q =>
  wpAny_Return_some (h A s E _ hA O L held0 fun v d σ' h' tk hP O' g r => q (.ret v) σ' h' tk ⟨d, hP, r⟩ O' g.s)
theorem XW.cont {pos : Pos} (h : C ρ σ) : XW prog w h₀ k env ρ σ (.Continue pos) N C Rt := fun A s E Q hA O L q => wpAny_Continue (q .cont σ s.heap s.toks ⟨ρ, h, L⟩ O .refl)
theorem XW.ifs {t : Expr} {b o : List Stmt} {pos : Pos} (h : TW prog w h₀ k env ρ σ t fun c σ1 => (c = true → SW prog w h₀ k env ρ σ1 b N C Rt) ∧ (c = false → SW prog w h₀ k env ρ σ1 o N C Rt)) : XW prog w h₀ k env ρ σ (.If t b o pos) N C Rt := by
  intro A s E Q hA O L q
  refine wpAny_If (h A s E _ hA O L held0 ?_)
  rintro c _ σ1 h1 tk1 hP O1 g1 rfl
  cases c with
  | true => exact (hP.1 rfl) A { s with heap := h1, toks := tk1 } E Q hA O1 (L.grow O g1) fun f σ' h' tk p O' g => q f σ' h' tk p O' (g1.s.trans (L.grow O g1) g)
  | false => exact (hP.2 rfl) A { s with heap := h1, toks := tk1 } E Q hA O1 (L.grow O g1) fun f σ' h' tk p O' g => q f σ' h' tk p O' (g1.s.trans (L.grow O g1) g)
/-- an expression whose value is let go -/
theorem XW.expr {e : Expr} {pos : Pos} (h : EW prog w h₀ k env ρ σ e fun d σ' => d = .none ∧ N ρ σ') (hi : interactive env = false := by rfl) (hs : swapsWith e Option.none pos.line env = Pure.pure false := by rfl) : XW prog w h₀ k env ρ σ (.Expr e pos) N C Rt := fun A s E Q hA O L q =>
  wpAny_Expr (h A s E _ hA O L held0 fun v d σ' h' tk hP O' g r => by
    obtain ⟨rfl, hP⟩ := hP
    obtain rfl := r.n
    exact q .next σ' h' tk ⟨ρ, hP, L.grow O g⟩ O' g.s) hi hs

/-! assignments -/
theorem samebut_kp {a : Addr} (hs : Heap.SameBut a h h') : Kp (fun b => b = a) h h' := fun b o e hb => (hs.2 b hb).trans e
theorem Own.samebut {a : Addr} (O : Own prog w h₀ σ h) (hs : Heap.SameBut a h h') (ha : ¬ dom σ a) (h0 : h₀.get? a = Option.none) (hsoft : ∀ o, h.get? a = some o → SoftO o) : Own prog w h₀ σ h' where
  keep := fun b o e => samebut_kp hs b o (O.keep b o e) fun hb => absurd (e.symm.trans (hb ▸ h0)) (Option.some_ne_none o)
  objs := fun p hp => (O.objs p hp).kp (X := fun b => b = a) (samebut_kp hs) (fun b o hb ho => hsoft o (hb ▸ ho)) fun hb => ha (hb ▸ List.mem_map_of_mem hp)
  nodup := O.nodup
  off := O.off
/-- a local is stored -/
theorem Loc.store {x : Str} {d : D} {v : Value} {m : Str → Option Value} (O : Own prog w h₀ σ h) (L : Loc h₀ env ρ σ h) (hm : ∀ y e, Has ρ y e → env.kindOf y = some .local → ∃ u, m y = some u ∧ RV h u e) (hk : env.kindOf x = some .local) (r : RV h v d)
    (hn : h'.Ns env.locals fun y => if y = x then some v else m y) (hs : Heap.SameBut env.locals h h') : Loc h₀ env ((x, d) :: ρ) σ h' := by
  have hsoft : Soft (fun b => b = env.locals) h := fun b o hb ho => let ⟨_, hn, _⟩ := L.ns; ns_soft hn o (hb ▸ ho)
  have hL : ∀ y c, env.cells.lookup y = some c → c ≠ env.locals := by
    intro y c hc e
    obtain ⟨vo, hv⟩ := L.cell y c hc
    obtain ⟨m', hn', _⟩ := L.ns
    exact ns_cell hn' (e ▸ hv)
  refine { L with ns := ⟨_, hn, fun y e hy hky => ?_⟩, cell := fun y c hc => ?_, cells := fun y e hy hky => ?_ }
  · rcases hy.cs with ⟨rfl, rfl⟩ | ⟨hne, hy⟩
    · exact ⟨v, if_pos rfl, r.kp (samebut_kp hs) hsoft⟩
    · obtain ⟨u, hu, ru⟩ := hm y e hy hky
      exact ⟨u, (if_neg (Ne.symm hne)).trans hu, ru.kp (samebut_kp hs) hsoft⟩
  · obtain ⟨vo, hv⟩ := L.cell y c hc
    exact ⟨vo, hv.sameBut hs (hL y c hc)⟩
  · rcases hy.cs with ⟨rfl, rfl⟩ | ⟨hne, hy⟩
    · exact (hky.elim (absurd · (hk ▸ by decide)) (absurd · (hk ▸ by decide)))
    · obtain ⟨c, u, hc, hu, ru⟩ := L.cells y e hy hky
      exact ⟨c, u, hc, hu.sameBut hs (hL y c hc), ru.kp (samebut_kp hs) hsoft⟩
theorem L_soft (L : Loc h₀ env ρ σ h) : ∀ o, h.get? env.locals = some o → SoftO o := let ⟨_, hn, _⟩ := L.ns; ns_soft hn
theorem sameBut_grow {a : Addr} (hs : Heap.SameBut a h h') (ha : offs env σ a) : GrowS env σ h σ h' := ⟨fun b o e hb => samebut_kp hs b o e fun hx => hb (hx ▸ ha), fun _ hb => .inl hb⟩
theorem Loc.storeC {x : Str} {c : Addr} {d : D} {v : Value} (O : Own prog w h₀ σ h) (L : Loc h₀ env ρ σ h) (hc : env.cells.lookup x = some c) (hk : env.kindOf x = some .cell) (r : RV h v d)
    (hn : h'.IsCell c (some v)) (hs : Heap.SameBut c h h') : Loc h₀ env ((x, d) :: ρ) σ h' := by
  obtain ⟨vo, hv⟩ := L.cell x c hc
  have hsoft : Soft (fun b => b = c) h := fun b o hb ho => cell_soft hv o (hb ▸ ho)
  obtain ⟨m, hns, hm⟩ := L.ns
  have hL : env.locals ≠ c := fun e => ns_cell hns (e ▸ hv)
  refine { L with ns := ⟨m, hns.sameBut hs hL, fun y e hy hky => ?_⟩, cell := fun y c' hc' => ?_, cells := fun y e hy hky => ?_ }
  · rcases hy.cs with ⟨rfl, rfl⟩ | ⟨hne, hy⟩
    · exact absurd hky (hk ▸ by decide)
    · obtain ⟨u, hu, ru⟩ := hm y e hy hky
      exact ⟨u, hu, ru.kp (samebut_kp hs) hsoft⟩
  · by_cases hcc : c' = c
    · exact ⟨_, hcc ▸ hn⟩
    · obtain ⟨vo', hv'⟩ := L.cell y c' hc'
      exact ⟨vo', hv'.sameBut hs hcc⟩
  · rcases hy.cs with ⟨rfl, rfl⟩ | ⟨hne, hy⟩
    · exact ⟨c, v, hc, hn, r.kp (samebut_kp hs) hsoft⟩
    · obtain ⟨c', u, hc', hu, ru⟩ := L.cells y e hy hky
      refine ⟨c', u, hc', hu.sameBut hs (fun e' => ?_), ru.kp (samebut_kp hs) hsoft⟩
      exact hne (L.apart x y c hc (e' ▸ hc'))

/-- a name bound -/
noncomputable def BW (prog : Program) (w : World) (h₀ : Heap) (k : Nat) (env : Env) (ρ : Rho) (σ : Sto) (x : Str) (d : D) (P : Rho → Sto → Prop) : Prop :=
  ∀ (A : Around) (s : Shared) (E : Value → Shared → Prop) (Q : Unit → Shared → Prop) (v : Value), AOk k A → Own prog w h₀ σ s.heap → Loc h₀ env ρ σ s.heap → RV s.heap v d →
    (∀ ρ' σ' h' tk, P ρ' σ' → Own prog w h₀ σ' h' → Loc h₀ env ρ' σ' h' → GrowS env σ s.heap σ' h' → Q () { s with heap := h', toks := tk }) → wpAny (model prog w) A (storeName env x v) Q E s
theorem BW.loc {x : Str} {d : D} {P : Rho → Sto → Prop} (hk : env.kindOf x = some .local) (h : P ((x, d) :: ρ) σ) : BW prog w h₀ k env ρ σ x d P := by
  intro A s E Q v hA O L r q
  obtain ⟨m, hn, hm⟩ := L.ns
  refine wpAny_storeName_local hk hn (fun h' hn' hs => q ((x, d) :: ρ) σ h' (s.toks + 1) h (O.samebut hs L.offL L.newL (L_soft L)) (L.store O hm hk r hn' hs) (sameBut_grow hs (.inr (.inl rfl)))) ?_
  rw [L.fn]; rfl
theorem BW.cell {x : Str} {d : D} {P : Rho → Sto → Prop} (hk : env.kindOf x = some .cell) (hfn : env.func.isSome = true) (hc : (env.cells.lookup x).isSome = true) (h : P ((x, d) :: ρ) σ) : BW prog w h₀ k env ρ σ x d P := by
  intro A s E Q v hA O L r q
  obtain ⟨c, hc⟩ := Option.isSome_iff_exists.mp hc
  obtain ⟨vo, hv⟩ := L.cell x c hc
  exact wpAny_storeName_cell L.fn hk hc hv fun h' hv' hs => q ((x, d) :: ρ) σ h' s.toks h (O.samebut hs (L.offC x c hc) (L.newC x c hc) (cell_soft hv)) (L.storeC O hc hk r hv' hs) (sameBut_grow hs (.inr (.inr ⟨hfn, x, hc⟩)))
theorem AW.name {x : Str} {pos : Pos} {d : D} {P : Rho → Sto → Prop} (h : BW prog w h₀ k env ρ σ x d P) : AW prog w h₀ k env ρ σ (.Name x pos) d P := fun A s E Q v hA O L r q => wpAny_assign_Name (h A s E Q v hA O L r q)

/-- some names bound in order -/
noncomputable def BWs (prog : Program) (w : World) (h₀ : Heap) (k : Nat) (env : Env) (ρ : Rho) (σ : Sto) (xs : List Expr) (ds : List D) (P : Rho → Sto → Prop) : Prop :=
  ∀ (A : Around) (s : Shared) (E : Value → Shared → Prop) (Q : Unit → Shared → Prop) (vs : List Value), AOk k A → Own prog w h₀ σ s.heap → Loc h₀ env ρ σ s.heap → RVs s.heap vs ds →
    (∀ ρ' σ' h' tk, P ρ' σ' → Own prog w h₀ σ' h' → Loc h₀ env ρ' σ' h' → GrowS env σ s.heap σ' h' → Q () { s with heap := h', toks := tk }) → wpAny (model prog w) A (assignInOrder (xs.map fun x => assign x env) vs) Q E s
theorem off_soft (O : Own prog w h₀ σ h) (L : Loc h₀ env ρ σ h) : Soft (offs env σ) h := by
  intro b o hb ho
  rcases hb with hb | hb | ⟨_, x, hb⟩
  · exact O.soft b o hb ho
  · exact L_soft L o (hb ▸ ho)
  · obtain ⟨vo, hv⟩ := L.cell x b hb
    exact cell_soft hv o ho
theorem RVs.growS {vs : List Value} {ds : List D} (O : Own prog w h₀ σ h) (L : Loc h₀ env ρ σ h) (g : GrowS env σ h σ' h') (r : RVs h vs ds) : RVs h' vs ds := r.kp g.keep (off_soft O L)
theorem RV.growS {vs : Value} {ds : D} (O : Own prog w h₀ σ h) (L : Loc h₀ env ρ σ h) (g : GrowS env σ h σ' h') (r : RV h vs ds) : RV h' vs ds := r.kp g.keep (off_soft O L)
theorem BWs.nil {P : Rho → Sto → Prop} (h : P ρ σ) : BWs prog w h₀ k env ρ σ [] [] P := fun A s E Q vs hA O L r q =>
  r.nl ▸ wpAny_pure (q ρ σ s.heap s.toks h O L .refl)
theorem assignInOrder_cons {A : Around} {s : Shared} {E : Value → Shared → Prop} {Q : Unit → Shared → Prop} {M : Model} {t : Value → Sem Unit} {ts : List (Value → Sem Unit)} {v : Value} {vs : List Value} (h : wpAny M A (t v) (fun _ s' => wpAny M A (assignInOrder ts vs) Q E s') E s) :
    wpAny M A (assignInOrder (t :: ts) (v :: vs)) Q E s := by
  show wpAny M A (holding vs (t v) >>= fun _ => assignInOrder ts vs) Q E s
  exact wpAny_bind (wpAny_holding (wpAny_mono h (fun _ s' h' => h') fun _ _ x => x))
theorem BWs.cons {x : Expr} {xs : List Expr} {d : D} {ds : List D} {P : Rho → Sto → Prop} (h : AW prog w h₀ k env ρ σ x d fun ρ' σ' => BWs prog w h₀ k env ρ' σ' xs ds P) : BWs prog w h₀ k env ρ σ (x :: xs) (d :: ds) P := fun A s E Q vs hA O L r q => by
  obtain ⟨v, vs, rfl, a, b⟩ := r.cs
  · refine assignInOrder_cons (h A s E _ v hA O L a fun ρ' σ' h' tk hP O' L' g => ?_)
    exact hP A { s with heap := h', toks := tk } E Q vs hA O' L' (b.growS O L g) fun ρ'' σ'' h'' tk' hP' O'' L'' g' => q ρ'' σ'' h'' tk' hP' O'' L'' (g.trans L' g')
theorem AW.tuple {xs : List Expr} {n : Nat} {pos : Pos} {ds : List D} {P : Rho → Sto → Prop} (hl : xs.length = ds.length) (h : BWs prog w h₀ k env ρ σ xs ds P) (hs : assignEach xs env = xs.map fun e => (false, assign e env) := by kernel_rfl) :
    AW prog w h₀ k env ρ σ (.Tuple xs n pos) (.tup ds) P := fun A s E Q v hA O L r q => by
  obtain ⟨a, o, vs, n', rfl, ho, hc, hd, r⟩ := r.t
  · have e := hs
    refine wpAny_assign_Tuple hA.handled ⟨o, ho, hc, n', hd⟩ (by rw [e, List.length_map, hl, r.size]) (by rw [e]; simp [List.findIdx?_eq_none_iff]) fun h' hx => ?_
    have g : Grow σ s.heap σ h' := Grow.up fun b o' e' => hx b o' (Nat.ne_of_lt (Heap.lt_size e')) e'
    have up : ∀ b o', s.heap.get? b = some o' → h'.get? b = some o' := fun b o' e' => hx b o' (Nat.ne_of_lt (Heap.lt_size e')) e'
    rw [e, List.map_map]
    exact h A { s with heap := h' } E Q vs.toList hA (O.up up) (L.grow O g) (r.up up) fun ρ' σ' h'' tk hP O' L' g' => q ρ' σ' h'' tk hP O' L' (g.s.trans (L.grow O g) g')

theorem XW.assignName {x : Str} {px pos : Pos} {e : Expr} (h : EW prog w h₀ k env ρ σ e fun d σ' => BW prog w h₀ k env ρ σ' x d N) (hs : swapsWith e (some (.Name x px)) pos.line env = Pure.pure false := by rfl) : XW prog w h₀ k env ρ σ (.Assign [.Name x px] e pos) N C Rt := fun A s E Q hA O L q =>
  wpAny_Assign_Name (h A s E _ hA O L held0 fun v d σ' h' tk hP O' g r => hP A { s with heap := h', toks := tk } E _ v hA O' (L.grow O g) r fun ρ' σ'' h'' tk' hN O'' L'' g' => q .next σ'' h'' tk' ⟨ρ', hN, L''⟩ O'' (g.s.trans (L.grow O g) g')) hs
theorem XW.assignTuple {xs : List Expr} {n : Nat} {px pos : Pos} {e : Expr} (h : EW prog w h₀ k env ρ σ e fun d σ' => AW prog w h₀ k env ρ σ' (.Tuple xs n px) d N) (hs : swapsWithSole [.Tuple xs n px] e pos.line env = Pure.pure false := by rfl)
    (hw : swappedStores [.Tuple xs n px] e env = Pure.pure Option.none := by rfl) : XW prog w h₀ k env ρ σ (.Assign [.Tuple xs n px] e pos) N C Rt := fun A s E Q hA O L q =>
  Assign_Tuple (h A s E _ hA O L held0 fun v d σ' h' tk hP O' g r => hP A { s with heap := h', toks := tk } E _ v hA O' (L.grow O g) r fun ρ' σ'' h'' tk' hN O'' L'' g' => q .next σ'' h'' tk' ⟨ρ', hN, L''⟩ O'' (g.s.trans (L.grow O g) g')) hs hw

/-- an owned object replaced -/
inductive Upd : Sto → Addr → MO → MO → Sto → Prop
  | here {a : Addr} {m m' : MO} {σ : Sto} : Upd ((a, m) :: σ) a m m' ((a, m') :: σ)
  | there {a : Addr} {m m' : MO} {p : Addr × MO} {σ σ' : Sto} : Upd σ a m m' σ' → Upd (p :: σ) a m m' (p :: σ')
theorem Upd.mem {a : Addr} {m m' : MO} (u : Upd σ a m m' σ') : (a, m) ∈ σ := by
  induction u with
  | here => exact .head _
  | there _ ih => exact .tail _ ih
theorem Upd.dom {a : Addr} {m m' : MO} (u : Upd σ a m m' σ') : σ'.map (·.1) = σ.map (·.1) := by
  induction u with
  | here => rfl
  | there _ ih => rw [List.map_cons, List.map_cons, ih]
theorem Upd.all {a : Addr} {m m' : MO} (u : Upd σ a m m' σ') (hn : (σ.map (·.1)).Nodup) : ∀ p ∈ σ', p = (a, m') ∨ (p ∈ σ ∧ p.1 ≠ a) := by
  induction u with
  | here =>
    rw [List.map_cons, List.nodup_cons] at hn
    intro p hp
    rcases List.mem_cons.mp hp with rfl | hp
    · exact .inl rfl
    · exact .inr ⟨.tail _ hp, fun e => hn.1 (List.mem_map.mpr ⟨p, hp, e⟩)⟩
  | there u ih =>
    rw [List.map_cons, List.nodup_cons] at hn
    intro p hp
    rcases List.mem_cons.mp hp with rfl | hp
    · exact .inr ⟨.head _, fun e => hn.1 (e ▸ List.mem_map_of_mem (f := (·.1)) u.mem)⟩
    · exact (ih hn.2 p hp).imp id fun q => ⟨.tail _ q.1, q.2⟩
theorem Own.upd {a : Addr} {m m' : MO} (O : Own prog w h₀ σ h) (u : Upd σ a m m' σ') (hs : Heap.SameBut a h h') (hr : RO prog w h' a m') : Own prog w h₀ σ' h' where
  keep := fun b o e => samebut_kp hs b o (O.keep b o e) fun hb => by
    exact absurd (e.symm.trans (hb ▸ O.off _ u.mem)) (Option.some_ne_none o)
  objs := fun p hp => by
    rcases u.all O.nodup p hp with rfl | ⟨hp, hne⟩
    · exact hr
    · exact (O.objs p hp).kp (X := fun b => b = a) (samebut_kp hs) (fun b o hb ho => O.soft b o (hb ▸ List.mem_map_of_mem (f := (·.1)) u.mem) ho) hne
  nodup := by rw [u.dom]; exact O.nodup
  off := fun p hp => by
    have : p.1 ∈ σ.map (·.1) := u.dom ▸ List.mem_map_of_mem hp
    obtain ⟨q, hq, e⟩ := List.mem_map.mp this
    rw [← e]; exact O.off q hq
theorem Grow.upd {a : Addr} {m m' : MO} (u : Upd σ a m m' σ') (hs : Heap.SameBut a h h') : Grow σ h σ' h' :=
  ⟨fun b o e hb => samebut_kp hs b o e fun hx => hb (hx ▸ List.mem_map_of_mem (f := (·.1)) u.mem), fun b hb => .inl (by have := u.dom; unfold Mine.dom at hb ⊢; rwa [this] at hb)⟩

/-- a store into a list or a dict -/
noncomputable def SetW (prog : Program) (w : World) (h₀ : Heap) (k : Nat) (σ : Sto) (d i v : D) (P : Sto → Prop) : Prop :=
  ∀ (A : Around) (s : Shared) (E : Value → Shared → Prop) (Q : Unit → Shared → Prop) (vd vi vv : Value), AOk k A → Own prog w h₀ σ s.heap → RV s.heap vd d → RV s.heap vi i → RV s.heap vv v →
    (∀ σ' h' tk, P σ' → Own prog w h₀ σ' h' → Grow σ s.heap σ' h' → Q () { s with heap := h', toks := tk }) → wpAny (model prog w) A (setItem vd vi vv) Q E s
theorem RVs.set {vs : Array Value} {ds : List D} {i : Nat} {v : Value} {d : D} (r : RVs h vs.toList ds) (rv : RV h v d) : RVs h (vs.setIfInBounds i v).toList (ds.set i d) := by
  rw [Array.toList_setIfInBounds]
  generalize vs.toList = l at r
  induction ds generalizing l i with
  | nil => rw [r.nl]; exact .nil
  | cons e ds ih =>
    obtain ⟨v, ws, rfl, a, b⟩ := r.cs
    cases i with
    | zero => exact .cons rv b
    | succ i => exact .cons a (ih _ b)
theorem map_len {α β γ : Type} {f : α → γ} {g : β → γ} {l : List α} {m : List β} (e : l.map f = m.map g) : l.length = m.length := by
  rw [← List.length_map (f := f), e, List.length_map]
theorem SetW.arr {a : Addr} {ds : List D} {i : Int} {v : D} {P : Sto → Prop} {σ' : Sto} (u : Upd σ a (.arr ds) (.arr (ds.set i.toNat v)) σ') (h0 : 0 ≤ i) (h1 : i < ds.length) (h2 : i < 2 ^ 63) (h : P σ') : SetW prog w h₀ k σ (.ref a) (.int i) v P := by
  intro A s E Q vd vi vv hA O r1 r2 r3 q
  obtain rfl := r1.r
  obtain ⟨t, rfl⟩ := r2.i
  obtain ⟨vs, hl, r⟩ := O.get u.mem
  refine wpAny_setItem_list hl h0 h2 (r.size.symm ▸ h1) fun h' hl' hs => ?_
  refine q σ' h' s.toks h (O.upd u hs ⟨_, hl', ?_⟩) (Grow.upd u hs)
  exact (r.set r3).kp (X := fun b => b = a) (samebut_kp hs) fun b o hb ho => O.soft b o (hb ▸ List.mem_map_of_mem (f := (·.1)) u.mem) ho
theorem SetW.dct {a : Addr} {es : List (List Int × D)} {q : List Int} {v : D} {P : Sto → Prop} {σ' : Sto} (u : Upd σ a (.dct es) (.dct (put es q v)) σ') (hlen : es.length ≤ 1000000) (h : P σ') : SetW prog w h₀ k σ (.ref a) (D.key q) v P := by
  intro A s E Q vd vi vv hA O r1 r2 r3 f
  obtain rfl := r1.r
  obtain ⟨b, rfl, hk⟩ := isTupleKey_of (prog := prog) (w := w) r2
  obtain ⟨lo, xs, hd, e1, r⟩ := O.get u.mem
  refine wpAny_setItem_heap hA.room hk hd (fun h' hd' hs => ?_) (fits hlen (map_len e1))
  obtain ⟨p1, p2⟩ := put_at e1 r (q := q) (a := b) r3
  exact f σ' h' _ h (O.upd u hs ⟨lo, _, hd', p1, p2.kp (X := fun b => b = a) (samebut_kp hs) fun b o hb ho => O.soft b o (hb ▸ List.mem_map_of_mem (f := (·.1)) u.mem) ho⟩) (Grow.upd u hs)
theorem XW.assignSub {o i e : Expr} {px pos : Pos} (h : EW prog w h₀ k env ρ σ e fun v σ1 => EW prog w h₀ k env ρ σ1 o fun d σ2 => EW prog w h₀ k env ρ σ2 i fun j σ3 => SetW prog w h₀ k σ3 d j v fun σ4 => N ρ σ4)
    (hs : swapsWith e (some (.Subscript o i px)) pos.line env = Pure.pure false := by rfl) : XW prog w h₀ k env ρ σ (.Assign [.Subscript o i px] e pos) N C Rt := fun A s E Q hA O L q =>
  wpAny_Assign_Subscript (h A s E _ hA O L held0 fun v d1 σ1 h1 tk1 hP1 O1 g1 r1 =>
    hP1 A { s with heap := h1, toks := tk1 } E _ hA O1 (L.grow O g1) held0 fun vo d2 σ2 h2 tk2 hP2 O2 g2 r2 =>
    hP2 A { s with heap := h2, toks := tk2 } E _ hA O2 ((L.grow O g1).grow O1 g2) held0 fun vi d3 σ3 h3 tk3 hP3 O3 g3 r3 =>
    hP3 A { s with heap := h3, toks := tk3 } E _ vo vi v hA O3 (r2.grow O2 g3) r3 ((r1.grow O1 g2).grow O2 g3) fun σ4 h4 tk4 hN O4 g4 =>
    q .next σ4 h4 tk4 ⟨ρ, hN, L.grow O (g1.trans (g2.trans (g3.trans g4)))⟩ O4 (g1.trans (g2.trans (g3.trans g4))).s) hs
end
end Mine
namespace Mine

/-- a call of a function at an address -/
noncomputable def FnW (prog : Program) (w : World) (h₀ : Heap) (k : Nat) (f : Addr) (ds : List D) (σ : Sto) (P : D → Sto → Prop) : Prop :=
  ∀ (A : Around) (s : Shared) (E : Value → Shared → Prop) (Q : Value → Shared → Prop) (vs : List Value), AOk k A → Own prog w h₀ σ s.heap → RVs s.heap vs ds →
    (∀ v d σ' h' tk, P d σ' → Own prog w h₀ σ' h' → Grow σ s.heap σ' h' → RV h' v d → Q v { s with heap := h', toks := tk }) → wpAny (model prog w) A (call (.ref f) vs) Q E s
/-- a call of a built-in or a type -/
noncomputable def BiW (prog : Program) (w : World) (h₀ : Heap) (k : Nat) (f : Value) (ds : List D) (σ : Sto) (P : D → Sto → Prop) : Prop :=
  ∀ (A : Around) (s : Shared) (E : Value → Shared → Prop) (Q : Value → Shared → Prop) (vs : List Value), AOk k A → Own prog w h₀ σ s.heap → RVs s.heap vs ds →
    (∀ v d σ' h' tk, P d σ' → Own prog w h₀ σ' h' → Grow σ s.heap σ' h' → RV h' v d → Q v { s with heap := h', toks := tk }) → wpAny (model prog w) A (call f vs) Q E s

noncomputable def ParOk (fd : FuncData) (names : List Str) : Prop := ∀ vs : List Value, vs.length = names.length → bindArgs fd ⟨vs, []⟩ = pure (names.zip vs)

/-- the frame of a call -/
noncomputable abbrev mkEnv (scope : Scope) (L : Addr) (cl : List (Str × Addr)) (q : Str) (fn : Option Addr) (cd : Value) (fr : Option Addr) : Env :=
  { scope := scope, locals := L, globals := mainGlobals, cells := cl, qual := q, func := fn, code := cd, frame := fr, builtins := builtinsNs }

theorem AOk.deeper {k : Nat} {A : Around} {env : Env} (h : AOk (k + 1) A) : AOk k (A.deeper env) where
  handled := h.handled
  depth := by have := h.depth; show A.depth + 1 + k + 1 < recursionLimit; omega
  units := by have := h.units; show A.units + 3 + 40 * k + 40 < cLine; omega
theorem bindL_miss {ko : Str → Option NameKind} {x : Str} {binds : List (Str × Value)} : ∀ {m : Str → Option Value}, x ∉ binds.map (·.1) → bindL ko binds m x = m x := by
  induction binds with
  | nil => exact fun _ => rfl
  | cons p r ih =>
    intro m h
    have h := not_or.mp (fun e => h (List.mem_cons.mpr e))
    show bindL ko r (if ko p.1 = some .local then _ else m) x = m x
    rw [ih h.2]
    split
    · exact if_neg h.1
    · rfl
theorem bindL_get {ko : Str → Option NameKind} {x : Str} {v : Value} {binds : List (Str × Value)} : ∀ {m : Str → Option Value}, (binds.map (·.1)).Nodup → (x, v) ∈ binds → ko x = some .local → bindL ko binds m x = some v := by
  induction binds with
  | nil => exact fun _ h => absurd h List.not_mem_nil
  | cons p r ih =>
    intro m hn h hk
    have hn := List.nodup_cons.mp hn
    show bindL ko r (if ko p.1 = some .local then _ else m) x = some v
    rcases List.mem_cons.mp h with rfl | h
    · rw [bindL_miss hn.1, if_pos hk]
      exact if_pos rfl
    · exact ih hn.2 h hk
theorem bindC_miss {ko : Str → Option NameKind} {x : Str} {binds : List (Str × Value)} : ∀ {m : Str → Option Value}, x ∉ binds.map (·.1) → bindC ko binds m x = m x := by
  induction binds with
  | nil => exact fun _ => rfl
  | cons p r ih =>
    intro m h
    have h := not_or.mp (fun e => h (List.mem_cons.mpr e))
    show bindC ko r (if ko p.1 = some .local then m else _) x = m x
    rw [ih h.2]
    split
    · rfl
    · exact if_neg h.1
theorem bindC_get {ko : Str → Option NameKind} {x : Str} {v : Value} {binds : List (Str × Value)} : ∀ {m : Str → Option Value}, (binds.map (·.1)).Nodup → (x, v) ∈ binds → ko x ≠ some .local → bindC ko binds m x = some v := by
  induction binds with
  | nil => exact fun _ h => absurd h List.not_mem_nil
  | cons p r ih =>
    intro m hn h hk
    have hn := List.nodup_cons.mp hn
    show bindC ko r (if ko p.1 = some .local then m else _) x = some v
    rcases List.mem_cons.mp h with rfl | h
    · rw [bindC_miss hn.1, if_neg hk]
      exact if_pos rfl
    · exact ih hn.2 h hk
theorem has_zip {h : Heap} {x : Str} {d : D} {names : List Str} : ∀ {vs : List Value} {ds : List D}, RVs h vs ds → Has (names.zip ds) x d → ∃ v, (x, v) ∈ names.zip vs ∧ RV h v d := by
  induction names with
  | nil => exact fun _ hx => hx.nl.elim
  | cons n names ih =>
    intro vs ds r hx
    cases ds with
    | nil => exact Has.nl hx |>.elim
    | cons e ds =>
      obtain ⟨v, ws, rfl, a, b⟩ := r.cs
      rcases hx.cs with ⟨rfl, rfl⟩ | ⟨_, hx⟩
      · exact ⟨v, .head _, a⟩
      · exact let ⟨u, hu, ru⟩ := ih b hx; ⟨u, .tail _ hu, ru⟩
theorem lookup_mem {x : Str} {c : Addr} {l : List (Str × Addr)} (h : l.lookup x = some c) : (x, c) ∈ l := by
  induction l with
  | nil => exact absurd h.symm (Option.some_ne_none c)
  | cons p l ih =>
    obtain ⟨n, a⟩ := p
    rw [List.lookup_cons] at h
    split at h
    · rename_i e; rw [beq_iff_eq.mp e, Option.some.inj h]; exact .head _
    · exact .tail _ (ih h)
theorem cells_inj {cs : List (Str × Addr)} (hp : cs.Pairwise fun x y => x.2 ≠ y.2) {x y : Str} {c : Addr} (hx : cs.lookup x = some c) (hy : cs.lookup y = some c) : x = y := by
  induction cs with
  | nil => exact absurd hx.symm (Option.some_ne_none c)
  | cons p r ih =>
    have hp := List.pairwise_cons.mp hp
    obtain ⟨n, a⟩ := p
    rcases List.mem_cons.mp (lookup_mem hx) with e1 | h1 <;> rcases List.mem_cons.mp (lookup_mem hy) with e2 | h2
    · rw [(Prod.mk.inj e1).1, (Prod.mk.inj e2).1]
    · exact absurd (Prod.mk.inj e1).2.symm (hp.1 _ h2)
    · exact absurd (Prod.mk.inj e2).2.symm (hp.1 _ h1)
    · rw [List.lookup_cons] at hx hy
      split at hx
      · exact absurd (Option.some.inj hx) (hp.1 _ h2)
      · split at hy
        · exact absurd (Option.some.inj hy) (hp.1 _ h1)
        · exact ih hp.2 hx hy

section
variable {prog : Program} {w : World} {h₀ : Heap} {k : Nat} {env : Env} {ρ ρ' : Rho} {σ σ' : Sto}

set_option maxHeartbeats 1000000 in
theorem FnW.intro {K : Frag} {mg mb : Str → Option Value} (W : Wd K mg mb h₀) {f : Addr} {fo : Obj} {fd : FuncData} {names : List Str} {ds : List D} {body : List Stmt} {P : D → Sto → Prop}
    (ho : K.lookup f = some fo) (hd : fo.data = .func fd) (hg : fd.globals = mainGlobals) (hb : fd.builtins = builtinsNs) (hc : fd.closure = []) (hbody : fd.body = .stmts body) (hcd : codeIn K fd.code fd.qualname = true)
    (hco : fd.scope.isCoroutine = false) (hgen : fd.scope.isGenerator = false) (hk : fd.scope.kind = .function) (hpar : ParOk fd names) (hlen : names.length = ds.length) (hnd : names.Nodup)
    (hkind : (names.all fun y => fd.scope.names.lookup y == some .local || fd.scope.names.lookup y == some .cell) = true)
    (h : ∀ L cl q fn cd fr, (∀ x, fd.scope.names.lookup x = some .cell → (cl.lookup x).isSome = true) → SW prog w h₀ k (mkEnv fd.scope L cl q (some fn) cd fr) (names.zip ds) σ body (fun _ σ' => P .none σ') (fun _ _ => False) P) :
    FnW prog w h₀ (k + 1) f ds σ P := by
  intro A s E Q vs hA O r q
  have hlv : vs.length = names.length := by rw [r.length, hlen]
  have hK := O.keep _ _ (W.K _ _ ho)
  have hm1 : (names.zip vs).map (·.1) = names := by rw [← List.unzip_fst, List.unzip_zip_left (Nat.le_of_eq hlv.symm)]
  have hkind' : ∀ n, ∀ x ∈ names.zip vs, fd.scope.names.lookup x.1 = some .local ∨ (fd.scope.names.lookup x.1 = some .cell ∧ ((cellsFrom n fd.scope.names []).lookup x.1).isSome = true) := fun n x hx => by
    have hx1 : x.1 ∈ names := by rw [← hm1]; exact List.mem_map_of_mem hx
    have := List.all_eq_true.mp hkind x.1 hx1
    rcases Bool.or_eq_true_iff.mp this with e | e
    · exact .inl (beq_iff_eq.mp e)
    · exact .inr ⟨beq_iff_eq.mp e, cellsFrom_some _ _ _ (.inl (beq_iff_eq.mp e))⟩
  refine wpAny_call (codeAny_call_function (by have := hA.depth; omega) hK hd hco hgen hbody (codeRec_of (W.K.keeps O.keep) hcd) ?_)
  rw [hpar vs hlv, hg, hb, hc]
  refine wpAny_pure (wpAny_newFunctionEnv_cells hk (hkind' _) fun env' he s' x => ?_)
  subst he
  obtain ⟨h₁, tk, rfl, hkeep⟩ := x.done
  have hnew : s.heap.get? s.heap.objs.size = Option.none := get_size
  have hcn : ∀ n c, (cellsFrom (s.heap.objs.size + 1) fd.scope.names []).lookup n = some c → s.heap.objs.size < c := fun n c hc => x.above n c (lookup_mem hc)
  have hnone : ∀ b, s.heap.objs.size ≤ b → s.heap.get? b = Option.none := fun b hb => Heap.get?_none_of_le hb
  have hdomno : ∀ b, s.heap.objs.size ≤ b → ¬ dom σ b := fun b hb => O.away (hnone b hb)
  have h0no : ∀ b, s.heap.objs.size ≤ b → h₀.get? b = Option.none := fun b hb => O.gone (hnone b hb)
  have O1 : Own prog w h₀ σ h₁ := O.up hkeep
  have r1 : RVs h₁ vs ds := r.up hkeep
  let env := mkEnv fd.scope s.heap.objs.size (cellsFrom (s.heap.objs.size + 1) fd.scope.names []) (fd.qualname ++ ".<locals>.") (some f) fd.code (some s.heap.objs.size)
  have L : Loc h₀ env (names.zip ds) σ h₁ := {
    fn := hk
    glob := rfl
    bui := rfl
    ns := ⟨_, x.toInCall.ns, fun y d hy hky => by
      obtain ⟨v, hv, rv⟩ := has_zip r1 hy
      exact ⟨v, bindL_get (by rw [hm1]; exact hnd) hv hky, rv⟩⟩
    cell := fun y c hc => ⟨_, x.cell y c hc⟩
    cells := fun y d hy hky => by
      obtain ⟨v, hv, rv⟩ := has_zip r1 hy
      have hkl : env.kindOf y ≠ some .local := hky.elim (· ▸ by decide) (· ▸ by decide)
      have hsome : ((cellsFrom (s.heap.objs.size + 1) fd.scope.names []).lookup y).isSome = true := by
        rcases hkind' (s.heap.objs.size + 1) _ hv with e | ⟨_, e⟩
        · exact absurd e hkl
        · exact e
      obtain ⟨c, hc⟩ := Option.isSome_iff_exists.mp hsome
      refine ⟨c, v, hc, ?_, rv⟩
      have hx : h₁.IsCell c (bindC env.kindOf (names.zip vs) (fun _ => Option.none) y) := x.cell y c hc
      rwa [bindC_get (by rw [hm1]; exact hnd) hv hkl] at hx
    offL := hdomno _ (Nat.le_refl _)
    offC := fun y c hc => hdomno _ (Nat.le_of_lt (hcn y c hc))
    apart := fun y z c hy hz => cells_inj x.apart hy hz
    newL := h0no _ (Nat.le_refl _)
    newC := fun y c hc => h0no _ (Nat.le_of_lt (hcn y c hc)) }
  refine ⟨(W.nolimit.keeps O.keep).keeps hkeep, codeAny_func ?_⟩
  refine h _ _ _ _ _ _ (fun y hy => cellsFrom_some _ _ _ (.inl hy)) (A.deeper env) { s with heap := h₁, toks := tk } _ _ hA.deeper O1 L fun fl σ' h' tk' p O' g => ?_
  have gg : Grow σ s.heap σ' h' := ⟨fun b o e hb => g.keep b o (hkeep b o e) fun hx => hx.elim hb fun hx => hx.elim (fun hx => Nat.lt_irrefl _ (hx ▸ Heap.lt_size e)) fun ⟨_, y, hx⟩ => Nat.lt_irrefl _ (Nat.lt_trans (hcn y b hx) (Heap.lt_size e)),
    fun b hb => (g.new b hb).imp id (gone_of (hkeep b))⟩
  cases fl with
  | next => obtain ⟨_, hp, _⟩ := p; exact q .none .none σ' h' tk' hp O' gg .none
  | cont => obtain ⟨_, hp, _⟩ := p; exact hp.elim
  | brk => exact p.elim
  | ret v => obtain ⟨d, hp, rd⟩ := p; exact q v d σ' h' tk' hp O' gg rd

/-- a call of a def of the text, by its name -/
theorem EW.call {K : Frag} {mg mb : Str → Option Value} (W : Wd K mg mb h₀) {x : Str} {px pos : Pos} {f : Addr} {fo : Obj} {fd : FuncData} {e : Expr} {es : List Expr} {P : D → Sto → Prop}
    (hk : env.kindOf x = some .globalImplicit) (hn : nsIn K mainGlobals x = some (some (.ref f))) (ho : K.lookup f = some fo) (hd : fo.data = .func fd)
    (h : EWs prog w h₀ k env ρ σ (e :: es) fun ds σ1 => FnW prog w h₀ k f ds σ1 P)
    (hs : starEach (e :: es) env = (e :: es).map fun e => (false, eval e env) := by kernel_rfl) (hdb : (x == ("__debug__" : Str)) = false := by decide +kernel) : EW prog w h₀ k env ρ σ (.Call (.Name x px) (e :: es) [] pos) P := by
  intro A s E Q hA O L hH q
  have e1 : eval (.Call (.Name x px) (e :: es) [] pos) env = (eval (.Name x px) env >>= fun f => callWith pos f [] (backTo pos (starEach (e :: es) env)) []) := rfl
  rw [e1, splice_eq hs]
  refine wpAny_bind (Calls.Name_function_global L.fn hk (Calls.loadGlobal_global (mg := mg) (by rw [L.glob]; exact ns_kp (X := fun _ => False) (fun b o e _ => O.keep b o e) id W.g) (mg_of W.K W.g hn) ?_) hdb)
  rw [List.map_cons]
  refine Calls.callWith_function (o := fo) (fd := fd) (Calls.evalArgs_plain ?_)
  have := h [] A s E (fun vs s' => (s'.heap.get? f = some fo ∧ fo.data = .func fd) ∧ wpAny (model prog w) A (PySem.call (.ref f) ([] ++ vs) []) Q E s') hA O L held0 fun vs ds σ1 h1 tk1 hP O1 g1 r1 => ⟨⟨O1.keep _ _ (W.K _ _ ho), hd⟩, ?_⟩
  · rwa [List.map_cons] at this
  · rw [List.nil_append]
    exact hP A { s with heap := h1, toks := tk1 } E Q vs hA O1 r1 fun v d σ' h' tk hP O' g r => q v d σ' h' tk hP O' (g1.trans g) r
/-- a call of a built-in function or a type, by its name -/
theorem EW.bi {K : Frag} {mg mb : Str → Option Value} (W : Wd K mg mb h₀) {x : Str} {px pos : Pos} {v : Value} {e : Expr} {es : List Expr} {P : D → Sto → Prop}
    (hk : env.kindOf x = some .globalImplicit) (hn : nsIn K mainGlobals x = some Option.none) (hv : bootBuiltins x = some v) (hn2 : x ≠ "__name__") (hT : (∃ id, v = .builtin id) ∨ ∃ T, v = .type T)
    (h : EWs prog w h₀ k env ρ σ (e :: es) fun ds σ1 => BiW prog w h₀ k v ds σ1 P)
    (hs : starEach (e :: es) env = (e :: es).map fun e => (false, eval e env) := by kernel_rfl) (hdb : (x == ("__debug__" : Str)) = false := by decide +kernel) : EW prog w h₀ k env ρ σ (.Call (.Name x px) (e :: es) [] pos) P := by
  intro A s E Q hA O L hH q
  have e1 : eval (.Call (.Name x px) (e :: es) [] pos) env = (eval (.Name x px) env >>= fun f => callWith pos f [] (backTo pos (starEach (e :: es) env)) []) := rfl
  rw [e1, splice_eq hs]
  have kk : ∀ {a : Addr} {m : Str → Option Value}, h₀.Ns a m → s.heap.Ns a m := fun hn => ns_kp (X := fun _ => False) (fun b o e _ => O.keep b o e) id hn
  refine wpAny_bind (Calls.Name_function_global L.fn hk (Calls.loadGlobal_builtin (mg := mg) (mb := mb) (by rw [L.glob]; exact kk W.g) (mg_none_of W.K W.g hn) (by rw [L.bui]; exact kk W.b) ((W.boot x hn2).trans hv) ?_) hdb)
  rw [List.map_cons]
  have hplain : (((false, eval e env) :: es.map fun e => (false, eval e env)).any (·.1)) = false := by simp
  have := h [] A s E (fun vs s' => wpAny (model prog w) A (PySem.call v ([] ++ vs) []) Q E s') hA O L held0 fun vs ds σ1 h1 tk1 hP O1 g1 r1 => by
    rw [List.nil_append]
    exact hP A { s with heap := h1, toks := tk1 } E Q vs hA O1 r1 fun v d σ' h' tk hP O' g r => q v d σ' h' tk hP O' (g1.trans g) r
  rw [List.map_cons] at this
  rcases hT with ⟨id, rfl⟩ | ⟨T, rfl⟩
  · exact Calls.callWith_builtin hplain (Calls.evalArgs_plain this)
  · exact PyProof.Rows.callWith_type hplain (Calls.evalArgs_plain this)
end
end Mine
namespace Mine

noncomputable def pairers : List String := ["enumerate", "zip", "dict_itemiterator", "dict_reverseitemiterator", "odict_iterator", "itertools.zip_longest", "itertools.pairwise"]
/-- an iterator's object, and what it gives -/
structure Itr (prog : Program) (w : World) (h₀ : Heap) (pr : Sto → Prop) (ds : List D) (I : Addr) (St : Nat → Heap → Prop) : Prop where
  obj : ∀ i h, St i h → ∃ o n, h.get? I = some o ∧ o.cls = .type n ∧ (pairers.contains n = false ∧ n ≠ "tuple" ∧ n ≠ "range")
  frame : ∀ (X : Addr → Prop) i h h', St i h → Kp X h h' → Soft X h → ¬ X I → St i h'
  item : ∀ (A : Around) (s : Shared) (E : Value → Shared → Prop) (Q : Option Value → Shared → Prop) (σ : Sto) (i : Nat) (d : D), A.handled = none → Own prog w h₀ σ s.heap → pr σ → St i s.heap → ds[i]? = some d →
    (∀ v h' tk, RV h' v d → St (i + 1) h' → Kp (fun b => b = I) s.heap h' → Q (some v) { s with heap := h', toks := tk }) → wpAny (model prog w) A (pyNext (.ref I)) Q E s
  done : ∀ (A : Around) (s : Shared) (E : Value → Shared → Prop) (Q : Option Value → Shared → Prop) (σ : Sto) (i : Nat), A.handled = none → Own prog w h₀ σ s.heap → pr σ → St i s.heap → ds[i]? = none →
    (∀ h' tk, Kp (fun b => b = I) s.heap h' → Q none { s with heap := h', toks := tk }) → wpAny (model prog w) A (pyNext (.ref I)) Q E s
  self : ∀ (A : Around) (s : Shared) (E : Value → Shared → Prop) (Q : Value → Shared → Prop) (i : Nat), St i s.heap → Q (.ref I) s → wpAny (model prog w) A (pyIter (.ref I)) Q E s
/-- what may be walked -/
noncomputable def Src (prog : Program) (w : World) (h₀ : Heap) (pr : Sto → Prop) (d : D) (ds : List D) : Prop :=
  ∀ (A : Around) (s : Shared) (E : Value → Shared → Prop) (Q : Value → Shared → Prop) (v : Value) (σ : Sto), A.handled = none → Own prog w h₀ σ s.heap → pr σ → RV s.heap v d →
    (∀ oI St, Itr prog w h₀ pr ds s.heap.objs.size St → St 0 (s.heap.push oI) → Q (.ref s.heap.objs.size) { s with heap := s.heap.push oI }) → wpAny (model prog w) A (pyIter v) Q E s

section
variable {prog : Program} {w : World} {h₀ : Heap} {k : Nat} {env : Env} {ρ ρ' : Rho} {σ σ' : Sto}

theorem letGo_plain {A : Around} {s : Shared} {E : Value → Shared → Prop} {Q : Unit → Shared → Prop} {target : Expr} {I : Addr} {v : Value} {o : Obj} {n : String} (ho : s.heap.get? I = some o) (hc : o.cls = .type n) (hn : pairers.contains n = false) (h : Q () s) :
    wpAny (model prog w) A (letOwnedTupleGo target (.ref I) v) Q E s := by
  have key : wpAny (model prog w) A (do
      let o ← load I
      match o.cls, o.data with
      | .type n, .fields vs => if pairers.contains n && vs[0]? == some (rawInt (match v with | .ref a => a | _ => 0)) then (do rule "for.unpacks-the-owned-tuple"; updateField I 0 .none) else pure ()
      | _, _ => pure ()) Q E s := by
    refine wpAny_bind (wpAny_load ho ?_)
    rw [hc]
    cases o.data <;> first | exact wpAny_pure h | (dsimp only; rw [hn]; exact wpAny_pure h)
  cases target <;> first | exact wpAny_pure h | (cases v <;> first | exact wpAny_pure h | exact key)

theorem kp_extBut {a : Addr} {h h' : Heap} (x : Heap.ExtBut a h h') : Kp (fun b => b = a) h h' := fun b o e hb => x b o hb e

theorem Src.list {l : Addr} {ds : List D} : Src prog w h₀ (fun σ => (l, .lst ds) ∈ σ) (.ref l) ds := by
  intro A s E Q v σ hh O hp r q
  obtain rfl := r.r
  obtain ⟨vs, hl, rs⟩ := (O.get hp).list
  refine wpAny_pyIter_list hl (q _ (fun i h => h.IsListIter s.heap.objs.size l i) ?_ ⟨_, Heap.get?_push_size _ rfl, rfl, rfl⟩)
  refine { obj := ?_, frame := ?_, item := ?_, done := ?_, self := ?_ }
  · rintro i h ⟨o, ho, hc, hd⟩
    exact ⟨o, _, ho, hc, by decide +kernel, by decide, by decide⟩
  · rintro X i h h' ⟨o, ho, hc, hd⟩ hk _ hI
    exact ⟨o, hk _ _ ho hI, hc, hd⟩
  · intro A s E Q σ i d hh O hp hst hd q
    obtain ⟨vs, hl, rs⟩ := (O.get hp).list
    obtain ⟨v, hv, rv⟩ := rs.get hd
    refine wpAny_pyNext_list_item hst hl (x := v) (Array.getElem?_toList.symm.trans hv) fun h' hit hs => q v h' s.toks ?_ hit (samebut_kp hs)
    obtain ⟨o', ho', hc', hd'⟩ := hst
    exact rv.kp (X := fun b => b = _) (samebut_kp hs) fun b o hb ho => Option.some.inj (ho'.symm.trans (hb ▸ ho)) ▸ .cls hc' (by decide) (by decide)
  · intro A s E Q σ i hh O hp hst hd q
    obtain ⟨vs, hl, rs⟩ := (O.get hp).list
    refine wpAny_pyNext_list_end hh hst hl ?_ fun h' hx => q h' s.toks (kp_extBut hx)
    exact Array.getElem?_eq_none_iff.mpr (rs.size ▸ List.getElem?_eq_none_iff.mp hd)
  · intro A s E Q i hst hq
    exact wpAny_pyIter_listiter hst hq
theorem Src.tuple {ds : List D} : Src prog w h₀ (fun _ => True) (.tup ds) ds := by
  intro A s E Q v σ hh O hp r q
  obtain ⟨t, o, vs, n, rfl, ho, hc, hd, rs⟩ := r.t
  · have ht : s.heap.IsTuple t vs := ⟨o, ho, hc, n, hd⟩
    refine wpAny_pyIter_tuple ht (q _ (fun i h => h.IsTupleIter s.heap.objs.size t i ∧ ∃ o n, h.get? t = some o ∧ o.cls = .type "tuple" ∧ o.data = .seq vs n ∧ RVs h vs.toList ds) ?_ ⟨⟨_, Heap.get?_push_size _ rfl, rfl, rfl⟩, o, n, push_up _ _ _ ho, hc, hd, rs.up (push_up _)⟩)
    have soft : ∀ {h : Heap} {i : Nat}, h.IsTupleIter s.heap.objs.size t i → Soft (fun b => b = s.heap.objs.size) h := by
      intro h i hst b o hb ho
      obtain ⟨o', ho', hc', hd'⟩ := hst
      exact Option.some.inj (ho'.symm.trans (hb ▸ ho)) ▸ .cls hc' (by decide) (by decide)
    refine { obj := ?_, frame := ?_, item := ?_, done := ?_, self := ?_ }
    · rintro i h ⟨⟨o, ho, hc, hd⟩, _⟩
      exact ⟨o, _, ho, hc, by decide +kernel, by decide, by decide⟩
    · rintro X i h h' ⟨⟨o, ho, hc, hd⟩, o2, n2, ho2, hc2, hd2, rs2⟩ hk hs hI
      exact ⟨⟨o, hk _ _ ho hI, hc, hd⟩, o2, n2, hk _ _ ho2 (fun hx => (hs _ _ hx ho2).1 _ _ hc2 hd2), hc2, hd2, rs2.kp hk hs⟩
    · rintro A s' E Q σ i d hh O hp ⟨hst, o, n, ho, hc, hd, rs⟩ hdd q
      obtain ⟨v, hv, rv⟩ := rs.get hdd
      exact wpAny_pyNext_tuple_item hst ⟨o, ho, hc, n, hd⟩ (x := v) (Array.getElem?_toList.symm.trans hv) fun h' hit hs => q v h' s'.toks (rv.kp (samebut_kp hs) (soft hst))
        ⟨hit, o, n, samebut_kp hs _ _ ho (fun hx => ((soft hst) _ _ hx ho).1 _ _ hc hd), hc, hd, rs.kp (samebut_kp hs) (soft hst)⟩ (samebut_kp hs)
    · rintro A s' E Q σ i hh O hp ⟨hst, o, n, ho, hc, hd, rs⟩ hdd q
      exact wpAny_pyNext_tuple_end hh hst ⟨o, ho, hc, n, hd⟩ (Array.getElem?_eq_none_iff.mpr (rs.size ▸ List.getElem?_eq_none_iff.mp hdd)) fun h' hx => q h' s'.toks (kp_extBut hx)
    · rintro A s E Q i ⟨hst, _⟩ hq
      exact wpAny_pyIter_tupleiter hst hq
/-- the ints of a range -/
noncomputable def rangeD (a c : Int) (n : Nat) : List D := (List.range n).map fun i : Nat => D.int (a + (i : Int) * c)
theorem rangeD_get {a c : Int} {n i : Nat} : (rangeD a c n)[i]? = if i < n then some (.int (a + (i : Int) * c)) else none := by
  unfold rangeD
  rw [List.getElem?_map]
  by_cases h : i < n
  · rw [if_pos h, List.getElem?_eq_getElem (by simpa using h)]; simp
  · rw [if_neg h, List.getElem?_eq_none (by simpa using h)]; rfl
theorem Src.range {a b c : Int} {n : Nat} (hs : Builtin.Range.small a b c = true) (hn : Builtin.Range.rangeSize a b c = (n : Int)) : Src prog w h₀ (fun _ => True) (.rng a b c) (rangeD a c n) := by
  intro A s E Q v σ hh O hp r q
  obtain ⟨a', t', u', w', rfl, hr⟩ := r.g
  · refine wpAny_pyIter_range hr hs (q _ (fun i h => i ≤ n ∧ IsRangeIter h s.heap.objs.size (a + (i : Int) * c) ((n : Int) - (i : Int)) c) ?_ ⟨Nat.zero_le _, by rw [hn]; simpa using Heap.get?_push_size _ rfl⟩)
    refine { obj := ?_, frame := ?_, item := ?_, done := ?_, self := ?_ }
    · rintro i h ⟨_, ho⟩
      exact ⟨_, _, ho, rfl, by decide +kernel, by decide, by decide⟩
    · rintro X i h h' ⟨hi, ho⟩ hk hs hI
      exact ⟨hi, hk _ _ ho hI⟩
    · rintro A s' E Q σ i d hh O hp ⟨hi, ho⟩ hdd q
      rw [rangeD_get] at hdd
      split at hdd
      · rename_i hlt
        obtain rfl := Option.some.inj hdd
        refine (Walks.range (prog := prog) (w := w) hh s.heap.objs.size a c n).item i s' _ _ hlt ho fun v h' tk hv hst hk => ?_
        obtain ⟨t, rfl⟩ := hv
        exact q _ h' tk (.int _ _) ⟨hlt, hst⟩ fun b o e hb => hk b o (by simpa using hb) e
      · exact absurd hdd.symm (Option.some_ne_none d)
    · rintro A s' E Q σ i hh O hp ⟨hi, ho⟩ hdd q
      rw [rangeD_get] at hdd
      split at hdd
      · exact absurd hdd (Option.some_ne_none _)
      · have hin : i = n := Nat.le_antisymm hi (Nat.le_of_not_lt ‹_›)
        rw [hin] at ho
        exact (Walks.range (prog := prog) (w := w) hh s.heap.objs.size a c n).done s' _ _ ho fun h' tk hk => q h' tk fun b o e hb => hk b o (by simpa using hb) e
    · rintro A s' E Q i ⟨hi, ho⟩ hq
      exact wpAny_pyIter_rangeiter ho hq

theorem Own.kp {h h' : Heap} {X : Addr → Prop} (O : Own prog w h₀ σ h) (hk : Kp X h h') (hs : Soft X h) (hd : ∀ b, X b → ¬ dom σ b) (h0 : ∀ b, X b → h₀.get? b = none) : Own prog w h₀ σ h' where
  keep := fun b o e => hk b o (O.keep b o e) fun hx => absurd (e.symm.trans (h0 b hx)) (Option.some_ne_none o)
  objs := fun p hp => (O.objs p hp).kp hk hs fun hx => hd _ hx (List.mem_map_of_mem hp)
  nodup := O.nodup
  off := O.off
theorem Loc.kp {h h' : Heap} {X : Addr → Prop} (L : Loc h₀ env ρ σ h) (hk : Kp X h h') (hs : Soft X h) (hL : ¬ X env.locals) (hC : ∀ x c, env.cells.lookup x = some c → ¬ X c) : Loc h₀ env ρ σ h' where
  fn := L.fn
  glob := L.glob
  bui := L.bui
  ns := let ⟨m, hn, hm⟩ := L.ns; ⟨m, ns_kp hk hL hn, fun y d hy hky => let ⟨v, e, r⟩ := hm y d hy hky; ⟨v, e, r.kp hk hs⟩⟩
  cell := fun y c hc => let ⟨vo, hv⟩ := L.cell y c hc; ⟨vo, cell_kp hk (hC y c hc) hv⟩
  cells := fun y d hy hky => let ⟨c, v, e, hv, r⟩ := L.cells y d hy hky; ⟨c, v, e, cell_kp hk (hC y c e) hv, r.kp hk hs⟩
  offL := L.offL
  offC := L.offC
  apart := L.apart
  newL := L.newL
  newC := L.newC
theorem Itr.soft {pr : Sto → Prop} {ds : List D} {I : Addr} {St : Nat → Heap → Prop} {i : Nat} {h : Heap} (it : Itr prog w h₀ pr ds I St) (st : St i h) : Soft (fun b => b = I) h := by
  intro b o hb ho
  obtain ⟨o', n, ho', hc, _, h1, h2⟩ := it.obj i h st
  exact Option.some.inj (ho'.symm.trans (hb ▸ ho)) ▸ .cls hc h1 h2
theorem Loc.not_new {h : Heap} (L : Loc h₀ env ρ σ h) {b : Addr} (hb : h.get? b = none) : b ≠ env.locals ∧ ∀ x c, env.cells.lookup x = some c → b ≠ c := by
  refine ⟨fun e => ?_, fun x c hc e => ?_⟩
  · exact let ⟨_, hn, _⟩ := L.ns; let ⟨o, ho⟩ := ns_obj hn; absurd (ho.symm.trans (e ▸ hb)) (Option.some_ne_none o)
  · exact let ⟨_, hv⟩ := L.cell x c hc; let ⟨o, ho⟩ := cell_obj hv; absurd (ho.symm.trans (e ▸ hb)) (Option.some_ne_none o)

set_option maxHeartbeats 1000000 in
theorem XW.for {t iter : Expr} {body : List Stmt} {pos : Pos} {N C : Rho → Sto → Prop} {Rt : D → Sto → Prop}
    (h : EW prog w h₀ k env ρ σ iter fun d σ1 => ∃ (ds : List D) (pr : Sto → Prop) (Inv : List D → Rho → Sto → Prop), Src prog w h₀ pr d ds ∧ Inv ds ρ σ1 ∧ (∀ rest ρ' σ', Inv rest ρ' σ' → pr σ') ∧
      (∀ d' rest ρ' σ', Inv (d' :: rest) ρ' σ' → AW prog w h₀ k env ρ' σ' t d' fun ρ2 σ2 => SW prog w h₀ k env ρ2 σ2 body (Inv rest) (Inv rest) Rt) ∧ (∀ ρ' σ', Inv [] ρ' σ' → N ρ' σ'))
    (hf : ∀ x, foldedSetIterable iter env x = Pure.pure x := by intro _; rfl) : XW prog w h₀ k env ρ σ (.For t iter body [] pos) N C Rt := by
  intro A s E Q hA O L q
  refine wpAny_For (h A s E _ hA O L held0 fun v d σ1 h1 tk1 hP O1 g1 r1 => ?_) hf
  obtain ⟨ds, pr, Inv, src, inv0, hpr, turn, done⟩ := hP
  have L1 := L.grow O g1
  refine src A { s with heap := h1, toks := tk1 } E _ v σ1 hA.handled O1 (hpr _ _ _ inv0) r1 fun oI St it st0 => ?_
  have hIn : h1.get? h1.objs.size = none := get_size
  have hI0 : h₀.get? h1.objs.size = none := O1.gone hIn
  have hIL := L1.not_new hIn
  refine codeAny_forLoop_any (fun n s' => ∃ i h' tk' ρ' σ', s' = { s with heap := h', toks := tk' } ∧ i ≤ ds.length ∧ n = ds.length + 1 - i ∧ Inv (ds.drop i) ρ' σ' ∧ Own prog w h₀ σ' h' ∧ Loc h₀ env ρ' σ' h' ∧ St i h' ∧ GrowS env σ1 h1 σ' h' ∧ ¬ dom σ' h1.objs.size)
    ?_ (ds.length + 1) ⟨0, _, _, ρ, σ1, rfl, Nat.zero_le _, rfl, inv0, O1.up (push_up _), L1.grow O1 (Grow.up (push_up _)), st0, (Grow.up (push_up _)).s, O1.fresh⟩
  rintro n s' ⟨i, h', tk', ρ', σ', rfl, hi, rfl, inv, O', L', st, g, hIn'⟩
  have hX : ∀ b, b = h1.objs.size → ¬ dom σ' b := fun b e => e ▸ hIn'
  have hX0 : ∀ b, b = h1.objs.size → h₀.get? b = none := fun b e => e ▸ hI0
  by_cases hlt : i < ds.length
  · have hdr : ds.drop i = ds[i] :: ds.drop (i + 1) := List.drop_eq_getElem_cons hlt
    rw [hdr] at inv
    refine it.item A _ _ _ σ' i ds[i] hA.handled O' (hpr _ _ _ inv) st (List.getElem?_eq_getElem hlt) fun v2 h2 tk2 r2 st2 k2 => ?_
    have soft := it.soft st
    have O2 := O'.kp k2 soft hX hX0
    have L2 := L'.kp k2 soft (Ne.symm hIL.1) (fun x c hc => Ne.symm (hIL.2 x c hc))
    have g2 : GrowS env σ1 h1 σ' h2 := ⟨fun b o e hb => k2 b o (g.keep b o e hb) fun hx => absurd (e.symm.trans (hx ▸ hIn)) (Option.some_ne_none o), g.new⟩
    obtain ⟨oi, ni, hoi, hci, hpi, _, _⟩ := it.obj (i + 1) h2 st2
    refine letGo_plain hoi hci hpi ?_
    refine turn _ _ _ _ inv A { s with heap := h2, toks := tk2 } _ _ v2 hA O2 L2 r2 fun ρ3 σ3 h3 tk3 hP3 O3 L3 g3 => ?_
    have no : ∀ {σx : Sto} {hx : Heap}, ¬ dom σx h1.objs.size → ¬ offs env σx h1.objs.size := fun hn => by
      rintro (hy | hy | ⟨_, z, hy⟩)
      · exact hn hy
      · exact hIL.1 hy
      · exact hIL.2 z _ hy rfl
    have st3 := it.frame _ _ _ _ st2 g3.keep (off_soft O2 L2) (no (hx := h2) hIn')
    have hIn3 : ¬ dom σ3 h1.objs.size := fun hd => by
      exact (g3.new _ hd).elim hIn' fun hy => absurd (hoi.symm.trans hy) (Option.some_ne_none oi)
    have g3' := g2.trans L2 g3
    refine hP3 A { s with heap := h3, toks := tk3 } _ _ hA O3 L3 fun f σ4 h4 tk4 p4 O4 g4 => ?_
    have st4 := it.frame _ _ _ _ st3 g4.keep (off_soft O3 L3) (no (hx := h3) hIn3)
    have hIn4 : ¬ dom σ4 h1.objs.size := fun hd => by
      obtain ⟨o3, _, ho3, _⟩ := it.obj _ _ st3
      exact (g4.new _ hd).elim hIn3 fun hy => absurd (ho3.symm.trans hy) (Option.some_ne_none o3)
    have g4' := g3'.trans L3 g4
    have again := fun (p4 : ∃ ρ5, Inv (ds.drop (i + 1)) ρ5 σ4 ∧ Loc h₀ env ρ5 σ4 h4) => p4.elim fun ρ5 p => (⟨ds.length + 1 - (i + 1), Nat.sub_lt_sub_left (Nat.lt_succ_of_lt hlt) (Nat.lt_succ_self i), i + 1, h4, tk4, ρ5, σ4, rfl, hlt, rfl, p.1, O4, p.2, st4, g4', hIn4⟩ : ∃ m, m < ds.length + 1 - i ∧ ∃ i h' tk' ρ' σ', ({ s with heap := h4, toks := tk4 } : Shared) = { s with heap := h', toks := tk' } ∧ i ≤ ds.length ∧ m = ds.length + 1 - i ∧ Inv (ds.drop i) ρ' σ' ∧ Own prog w h₀ σ' h' ∧ Loc h₀ env ρ' σ' h' ∧ St i h' ∧ GrowS env σ1 h1 σ' h' ∧ ¬ dom σ' h1.objs.size)
    cases f with
    | next => exact again p4
    | cont => exact again p4
    | brk => exact p4.elim
    | ret v => exact q (.ret v) σ4 h4 tk4 p4 O4 (g1.s.trans L1 g4')
  · have hge : ds.length ≤ i := Nat.le_of_not_lt hlt
    have hin : i = ds.length := Nat.le_antisymm hi hge
    refine it.done A _ _ _ σ' i hA.handled O' (hpr _ _ _ inv) st (List.getElem?_eq_none hge) fun h2 tk2 k2 => wpAny_execs_nil ?_
    have soft := it.soft st
    have O2 := O'.kp k2 soft hX hX0
    have L2 := L'.kp k2 soft (Ne.symm hIL.1) (fun x c hc => Ne.symm (hIL.2 x c hc))
    have g2 : GrowS env σ1 h1 σ' h2 := ⟨fun b o e hb => k2 b o (g.keep b o e hb) fun hx => absurd (e.symm.trans (hx ▸ hIn)) (Option.some_ne_none o), g.new⟩
    rw [hin, List.drop_length] at inv
    exact q .next σ' h2 tk2 ⟨ρ', done _ _ inv, L2⟩ O2 (g1.s.trans L1 g2)
end
end Mine
namespace Mine

noncomputable def closL (cells : List (Str × Addr)) (names : List (Str × NameKind)) (acc : List (Str × Addr)) : List (Str × Addr) :=
  List.rec (motive := fun _ => List (Str × Addr) → List (Str × Addr)) (fun acc => acc) (fun p _ ih acc => if p.2 == .free then ih ((p.1, (cells.lookup p.1).getD 0) :: acc) else ih acc) names acc
theorem closL_lookup {cells : List (Str × Addr)} {x : Str} (names : List (Str × NameKind)) : ∀ (acc : List (Str × Addr)),
    (closL cells names acc).lookup x = if (x, NameKind.free) ∈ names then some ((cells.lookup x).getD 0) else acc.lookup x := by
  induction names with
  | nil => exact fun _ => rfl
  | cons p r ih =>
    intro acc
    obtain ⟨n, k⟩ := p
    show (if k == .free then closL cells r ((n, (cells.lookup n).getD 0) :: acc) else closL cells r acc).lookup x = _
    by_cases hk : (k == NameKind.free) = true
    · obtain rfl : k = .free := by simpa using hk
      rw [if_pos hk, ih]
      by_cases hm : (x, NameKind.free) ∈ r
      · rw [if_pos hm, if_pos (.tail _ hm)]
      · rw [if_neg hm]
        by_cases hx : x = n
        · subst hx; rw [if_pos (.head _), List.lookup_cons, beq_self_eq_true]
        · rw [if_neg (fun h => (List.mem_cons.mp h).elim (fun e => hx (Prod.mk.inj e).1) hm), List.lookup_cons, beq_eq_false_iff_ne.mpr hx]
    · rw [if_neg hk, ih]
      have hk' : k ≠ .free := fun e => hk (by rw [e]; rfl)
      by_cases hm : (x, NameKind.free) ∈ r
      · rw [if_pos hm, if_pos (.tail _ hm)]
      · rw [if_neg hm, if_neg (fun h => (List.mem_cons.mp h).elim (fun e => hk' (Prod.mk.inj e).2.symm) hm)]
theorem closureFor_go {env : Env} (names : List (Str × NameKind)) : ∀ (acc : List (Str × Addr)), (∀ x, (x, NameKind.free) ∈ names → (env.cells.lookup x).isSome = true) →
    (forIn names acc fun (x : Str × NameKind) (cs : List (Str × Addr)) => (if x.2 == .free then (do let c ← cellOf env x.1; pure (ForInStep.yield ((x.1, c) :: cs))) else pure (ForInStep.yield cs) : Sem (ForInStep (List (Str × Addr))))) = pure (closL env.cells names acc) := by
  induction names with
  | nil => exact fun _ _ => rfl
  | cons p r ih =>
    intro acc h
    obtain ⟨n, k⟩ := p
    rw [List.forIn_cons]
    by_cases hk : (k == NameKind.free) = true
    · obtain rfl : k = .free := by simpa using hk
      obtain ⟨c, hc⟩ := Option.isSome_iff_exists.mp (h n (.head _))
      have := ih ((n, c) :: acc) fun x hx => h x (.tail _ hx)
      simp only [cellOf, hc]
      show _ = pure (closL env.cells r ((n, (env.cells.lookup n).getD 0) :: acc))
      rw [hc]
      exact this
    · have := ih acc fun x hx => h x (.tail _ hx)
      simp only [hk, if_false]
      show _ = pure (if k == .free then _ else closL env.cells r acc)
      rw [if_neg hk]
      exact this
theorem closureFor_eq {env : Env} {scope : Scope} (h : ∀ x, (x, NameKind.free) ∈ scope.names → (env.cells.lookup x).isSome = true) : closureFor scope env = pure (closL env.cells scope.names []) := by
  have := closureFor_go scope.names [] h
  unfold closureFor
  first | exact this | (simp only [bind_pure]; exact this)

section
variable {prog : Program} {w : World} {h₀ : Heap} {k : Nat} {env : Env} {ρ ρ' ρc : Rho} {σ σ' : Sto}

/-- at most one test -/
noncomputable def TestsW (prog : Program) (w : World) (h₀ : Heap) (k : Nat) (env : Env) (ρ : Rho) (σ : Sto) (ifs : List Expr) (P : Bool → Sto → Prop) : Prop :=
  List.casesOn ifs (P true σ) fun c r => List.casesOn r (TW prog w h₀ k env ρ σ c P) fun _ _ => False
theorem TestsW.wp {ifs : List Expr} {P : Bool → Sto → Prop} (x : TestsW prog w h₀ k env ρ σ ifs P) :
    WP prog w h₀ k env ρ [] σ REq (forIn ifs true fun c r => if r = true then (do let ok ← isTrue c env (eval c env); pure (ForInStep.yield ok)) else pure (ForInStep.yield r)) P := by
  cases ifs with
  | nil => exact WP.pure (fun _ _ => rfl) x
  | cons c t =>
    cases t with
    | nil => exact fun A s E Q hA O L hH q => wpAny_tests_one (x A s E Q hA O L hH q)
    | cons _ _ => exact False.elim x

/-- what a comprehension captures -/
noncomputable def CapOk (scope : Scope) (env : Env) (ρ ρc : Rho) : Prop := ∀ x d, Has ρc x d → Has ρ x d ∧ env.kindOf x = some .cell ∧ (x, NameKind.free) ∈ scope.names ∧ (relabel scope env).names.lookup x ≠ some .local
noncomputable abbrev compE (scope : Scope) (env : Env) (L : Addr) (cl : List (Str × Addr)) : Env := compEnvC scope cl L env

/-- one turn of a comprehension -/
noncomputable def CompTurn (prog : Program) (w : World) (h₀ : Heap) (k : Nat) (env : Env) (ρc : Rho) (scope : Scope) (target elt : Expr) (ifs : List Expr) (Inv : List D → List D → Sto → Prop) : Prop :=
  ∀ L cl d' rest acc σ' a, Inv (d' :: rest) acc σ' → ¬ dom σ' a → AW prog w h₀ k (compE scope env L cl) ρc ((a, .lst acc) :: σ') target d' fun ρ2 σ2 => (∀ y d, Has ρc y d → Has ρ2 y d) ∧
    TestsW prog w h₀ k (compE scope env L cl) ρ2 σ2 ifs fun b σ3 => (b = true → EW prog w h₀ k (compE scope env L cl) ρ2 σ3 elt fun d2 σ4 => ∃ σ5, σ4 = (a, .lst acc) :: σ5 ∧ Inv rest (acc ++ [d2]) σ5) ∧ (b = false → ∃ σ5, σ3 = (a, .lst acc) :: σ5 ∧ Inv rest acc σ5)

theorem Own.head_new {a : Addr} {mo : MO} {h : Heap} (O : Own prog w h₀ ((a, mo) :: σ) h) : ¬ dom σ a := (List.nodup_cons.mp (by have := O.nodup; rwa [List.map_cons] at this)).1

set_option maxHeartbeats 2000000 in
/-- the loop of a comprehension -/
theorem compLoop {A : Around} {s : Shared} {R : Result → Shared → Prop} {target elt iter : Expr} {ifs : List Expr} {scope : Scope} {pos : Pos} {env' : Env} {pr : Sto → Prop} {ds : List D} {Inv : List D → List D → Sto → Prop} {I a : Addr} {St : Nat → Heap → Prop}
    (hA : AOk k A) (hturn : ∀ d' rest acc σ', Inv (d' :: rest) acc σ' → ¬ dom σ' a → AW prog w h₀ k env' ρc ((a, .lst acc) :: σ') target d' fun ρ2 σ2 => (∀ y d, Has ρc y d → Has ρ2 y d) ∧
      TestsW prog w h₀ k env' ρ2 σ2 ifs fun b σ3 => (b = true → EW prog w h₀ k env' ρ2 σ3 elt fun d2 σ4 => ∃ σ5, σ4 = (a, .lst acc) :: σ5 ∧ Inv rest (acc ++ [d2]) σ5) ∧ (b = false → ∃ σ5, σ3 = (a, .lst acc) :: σ5 ∧ Inv rest acc σ5))
    (it : Itr prog w h₀ pr ds I St) (st : St 0 s.heap) (hlen : ds.length ≤ 1000000) (inv : Inv ds [] σ) (hpr : ∀ rest acc σ', Inv rest acc σ' → pr ((a, .lst acc) :: σ'))
    (hfn : env'.func = Option.none) (hIC : ∀ x c, env'.cells.lookup x = some c → ¬ c = I) (O : Own prog w h₀ ((a, .lst []) :: σ) s.heap) (L : Loc h₀ env' ρc ((a, .lst []) :: σ) s.heap) (hI : ¬ offs env' ((a, .lst []) :: σ) I) (hI0 : h₀.get? I = Option.none)
    (hR : ∀ acc σ' h' tk, Inv [] acc σ' → Own prog w h₀ ((a, .lst acc) :: σ') h' → Loc h₀ env' ρc ((a, .lst acc) :: σ') h' → (∀ b o, s.heap.get? b = some o → ¬ offs env' ((a, .lst []) :: σ) b → b ≠ I → h'.get? b = some o) →
      (∀ b, dom σ' b → dom σ b ∨ s.heap.get? b = Option.none) → R (.ok .next) { s with heap := h', toks := tk }) :
    codeAny (model prog w) A (.compLoop (.ListComp elt [⟨target, iter, ifs, 0⟩] scope pos) 0 (.ref I) (.ref a) env') R s := by
  refine codeAny_loop rfl (fun n s' => ∃ i acc h' tk' σ', s' = { s with heap := h', toks := tk' } ∧ i ≤ ds.length ∧ n = ds.length + 1 - i ∧ acc.length ≤ i ∧ Inv (ds.drop i) acc σ' ∧ Own prog w h₀ ((a, .lst acc) :: σ') h' ∧ Loc h₀ env' ρc ((a, .lst acc) :: σ') h' ∧ St i h' ∧
      (∀ b o, s.heap.get? b = some o → ¬ offs env' ((a, .lst []) :: σ) b → b ≠ I → h'.get? b = some o) ∧ (∀ b, dom σ' b → dom σ b ∨ s.heap.get? b = Option.none) ∧ ¬ offs env' ((a, .lst acc) :: σ') I)
    (fun n s' hI => ?_) (ds.length + 1) ⟨0, [], s.heap, s.toks, σ, rfl, Nat.zero_le _, rfl, Nat.zero_le _, inv, O, L, st, fun _ _ e _ _ => e, fun _ hb => .inl hb, hI⟩
  obtain ⟨i, acc, h', tk', σ', rfl, hi, rfl, hacc, inv', O', L', st', keep', new', hI'⟩ := hI
  show wpAny _ A ((compTurn (.ListComp elt [⟨target, iter, ifs, 0⟩] scope pos) 0 (.ref I) (.ref a) env').onRaise (fun x => do noteFrame x env'; theTreesLotGoes x)) _ _ _
  refine wpAny_noted ?_
  rw [compTurn_list]
  have soft := it.soft st'
  have hX : ∀ b, b = I → ¬ dom ((a, .lst acc) :: σ') b := fun b e hd => hI' (.inl (e ▸ hd))
  have hX0 : ∀ b, b = I → h₀.get? b = Option.none := fun b e => e ▸ hI0
  have hXL : ¬ env'.locals = I := fun e => hI' (.inr (.inl e.symm))
  have hXC := hIC
  by_cases hlt : i < ds.length
  · have hdr : ds.drop i = ds[i] :: ds.drop (i + 1) := List.drop_eq_getElem_cons hlt
    rw [hdr] at inv'
    refine wpAny_bind (wpAny_standAt (wpAny_bind (it.item A _ _ _ _ i ds[i] hA.handled O' (hpr _ _ _ inv') st' (List.getElem?_eq_getElem hlt) fun v2 h2 tk2 r2 st2 k2 => ?_)))
    have O2 := O'.kp k2 soft hX hX0
    have L2 := L'.kp k2 soft hXL hXC
    obtain ⟨oi, ni, hoi, hci, hpi, _, _⟩ := it.obj (i + 1) h2 st2
    refine wpAny_bind (letGo_plain hoi hci hpi ?_)
    refine wpAny_bind (hturn _ _ _ _ inv' O'.head_new A { s with heap := h2, toks := tk2 } _ _ v2 hA O2 L2 r2 fun ρ3 σ3 h3 tk3 hP3 O3 L3 g3 => ?_)
    have hI3 : ¬ offs env' σ3 I := by
      rintro (hy | hy)
      · exact (g3.new _ hy).elim (fun hz => hI' (.inl hz)) fun hz => absurd (hoi.symm.trans hz) (Option.some_ne_none oi)
      · exact hI' (.inr hy)
    have st3 := it.frame _ _ _ _ st2 g3.keep (off_soft O2 L2) hI'
    refine wpAny_bind (hP3.2.wp A { s with heap := h3, toks := tk3 } _ _ hA O3 L3 held0 ?_)
    rintro ok _ σ4 h4 tk4 hP4 O4 g4 rfl
    have L4 := L3.grow O3 g4
    have st4 := it.frame _ _ _ _ st3 g4.keep O3.soft fun hd => hI3 (.inl hd)
    have hI4 : ¬ offs env' σ4 I := by
      rintro (hy | hy)
      · obtain ⟨o3, _, ho3, _⟩ := it.obj _ _ st3
        exact (g4.new _ hy).elim (fun hz => hI3 (.inl hz)) fun hz => absurd (ho3.symm.trans hz) (Option.some_ne_none o3)
      · exact hI3 (.inr hy)
    have g24 : GrowS env' ((a, .lst acc) :: σ') h2 σ4 h4 := g3.trans L3 g4.s
    -- what was at the start
    have keepG : ∀ {σx : Sto} {hx : Heap}, GrowS env' ((a, .lst acc) :: σ') h2 σx hx → (∀ b o, s.heap.get? b = some o → ¬ offs env' ((a, .lst []) :: σ) b → b ≠ I → hx.get? b = some o) := fun g b o e hb hbI =>
      g.keep b o (k2 b o (keep' b o e hb hbI) hbI) (by
        rintro (hy | hy)
        · rcases List.mem_cons.mp hy with hy | hy
          · exact hb (.inl (List.mem_cons.mpr (.inl hy)))
          · exact (new' b hy).elim (fun hz => hb (.inl (List.mem_cons.mpr (.inr hz)))) fun hz => absurd (e.symm.trans hz) (Option.some_ne_none o)
        · exact hb (.inr hy))
    have newG : ∀ {mo : MO} {σx : Sto} {hx : Heap}, GrowS env' ((a, .lst acc) :: σ') h2 ((a, mo) :: σx) hx → ¬ dom σx a → (∀ b, dom σx b → dom σ b ∨ s.heap.get? b = Option.none) := fun {mo} {σx} {hx} g ha b hb => by
      rcases g.new b (List.mem_cons.mpr (.inr hb)) with hy | hy
      · rcases List.mem_cons.mp hy with hy | hy
        · exact absurd (show dom σx a from (show b = a from hy) ▸ hb) ha
        · exact new' b hy
      · cases e : s.heap.get? b with
        | none => exact .inr rfl
        | some o =>
          by_cases ho : offs env' ((a, .lst []) :: σ) b
          · rcases ho with ho | ho
            · rcases List.mem_cons.mp ho with ho | ho
              · exact absurd (show dom σx a from (show b = a from ho) ▸ hb) ha
              · exact .inl ho
            · exfalso
              exact (L2.mine ho).elim fun o' ho' => absurd (ho'.symm.trans hy) (Option.some_ne_none o')
          · by_cases hbI : b = I
            · exact absurd ((hbI ▸ hoi).symm.trans hy) (Option.some_ne_none oi)
            · exact absurd ((k2 b o (keep' b o e ho hbI) hbI).symm.trans hy) (Option.some_ne_none o)
    cases ok with
    | false =>
      obtain ⟨σ5, rfl, inv5⟩ := hP4.2 rfl
      exact wpAny_pure ⟨rfl, ds.length + 1 - (i + 1), Nat.sub_lt_sub_left (Nat.lt_succ_of_lt hlt) (Nat.lt_succ_self i), i + 1, acc, h4, tk4, σ5, rfl, hlt, rfl, Nat.le_succ_of_le hacc, inv5, O4, L4.weak hP3.1, st4, keepG g24, newG g24 O4.head_new, hI4⟩
    | true =>
      refine wpAny_bind (wpAny_bind (hP4.1 rfl A { s with heap := h4, toks := tk4 } _ _ hA O4 L4 held0 fun v5 d5 σ5' h5 tk5 hP5 O5 g5 r5 => ?_))
      obtain ⟨σ5, rfl, inv5⟩ := hP5
      obtain ⟨vs, hpl, rs⟩ := O5.get (List.Mem.head _)
      have hsz : vs.size = acc.length := rs.size
      have L5 := L4.grow O4 g5
      have st5 := it.frame _ _ _ _ st4 g5.keep O4.soft fun hd => hI4 (.inl hd)
      have hI5 : ¬ offs env' ((a, .lst acc) :: σ5) I := by
        rintro (hy | hy)
        · obtain ⟨o3, _, ho3, _⟩ := it.obj _ _ st4
          exact (g5.new _ hy).elim (fun hz => hI4 (.inl hz)) fun hz => absurd (ho3.symm.trans hz) (Option.some_ne_none o3)
        · exact hI4 (.inr hy)
      refine wpAny_bind (wpAny_list_append_plain hpl (fun h6 hpl6 hs6 => ?_) (fits (Nat.le_trans hacc (Nat.le_trans hi hlen)) hsz))
      have rs5 : RVs h6 (vs.push v5).toList (acc ++ [d5]) := by
        rw [Array.toList_push]
        exact (rs.append (.one r5)).kp (X := fun b => b = a) (samebut_kp hs6) fun b o hb ho => O5.soft b o (hb ▸ List.mem_cons.mpr (.inl rfl)) ho
      have u : Upd ((a, .lst acc) :: σ5) a (.lst acc) (.lst (acc ++ [d5])) ((a, .lst (acc ++ [d5])) :: σ5) := .here
      have O6 := O5.upd u hs6 ⟨_, hpl6, rs5⟩
      have g6 := Grow.upd u hs6
      have L6 := L5.grow O5 g6
      have st6 := it.frame _ _ _ _ st5 g6.keep O5.soft fun hd => hI5 (.inl hd)
      have hI6 : ¬ offs env' ((a, .lst (acc ++ [d5])) :: σ5) I := hI5
      have gall : GrowS env' ((a, .lst acc) :: σ') h2 ((a, .lst (acc ++ [d5])) :: σ5) h6 := g24.trans L4 (g5.trans g6).s
      exact wpAny_pure (wpAny_pure ⟨rfl, ds.length + 1 - (i + 1), Nat.sub_lt_sub_left (Nat.lt_succ_of_lt hlt) (Nat.lt_succ_self i), i + 1, acc ++ [d5], h6, tk5, σ5, rfl, hlt, rfl, (by rw [List.length_append]; exact Nat.succ_le_succ hacc), inv5, O6, L6.weak hP3.1, st6, keepG gall, newG gall O6.head_new, hI6⟩)
  · have hge : ds.length ≤ i := Nat.le_of_not_lt hlt
    have hin : i = ds.length := Nat.le_antisymm hi hge
    refine wpAny_bind (wpAny_standAt (wpAny_bind (it.done A _ _ _ _ i hA.handled O' (hpr _ _ _ inv') st' (List.getElem?_eq_none hge) fun h2 tk2 k2 => wpAny_pure ?_)))
    rw [hin, List.drop_length] at inv'
    exact hR acc σ' h2 tk2 inv' (O'.kp k2 soft hX hX0) (L'.kp k2 soft hXL hXC) (fun b o e hb hbI => k2 b o (keep' b o e hb hbI) hbI) new'
end
end Mine
namespace Mine
section
variable {prog : Program} {w : World} {h₀ : Heap} {k : Nat} {env : Env} {ρ ρ' ρc : Rho} {σ σ' : Sto}

structure CompSc (scope : Scope) (env : Env) : Prop where
  kind : scope.kind = .function
  names : ∀ x ∈ scope.names, x.2 = .local → scope.names.lookup x.1 = some .local
  nocell : ∀ x ∈ scope.names, x.2 ≠ .cell
  free : ∀ x, (x, NameKind.free) ∈ scope.names → (env.cells.lookup x).isSome = true

/-- what a comprehension wants -/
noncomputable def CompOk (prog : Program) (w : World) (h₀ : Heap) (k : Nat) (env : Env) (ρc : Rho) (scope : Scope) (target elt : Expr) (ifs : List Expr) (d : D) (σ1 : Sto) (P : D → Sto → Prop) : Prop :=
  ∃ (ds : List D) (pr : Sto → Prop) (Inv : List D → List D → Sto → Prop), Src prog w h₀ pr d ds ∧ ds.length ≤ 1000000 ∧ pr σ1 ∧ Inv ds [] σ1 ∧ (∀ rest acc σ' a, Inv rest acc σ' → pr ((a, .lst acc) :: σ')) ∧
    CompTurn prog w h₀ k env ρc scope target elt ifs Inv ∧ ∀ acc σ' a, Inv [] acc σ' → ¬ dom σ' a → P (.ref a) ((a, .lst acc) :: σ')

set_option maxHeartbeats 2000000 in
theorem comp_core {A : Around} {s : Shared} {E : Value → Shared → Prop} {R : Value → Addr → Result → Shared → Prop} {target elt iter : Expr} {ifs : List Expr} {scope : Scope} {pos : Pos} {d : D} {v : Value} {P : D → Sto → Prop} (hcs : CompSc scope env) (hcap : CapOk scope env ρ ρc)
    (hA : AOk k A) (O : Own prog w h₀ σ s.heap) (L : Loc h₀ env ρ σ s.heap) (r : RV s.heap v d) (hP : CompOk prog w h₀ k env ρc scope target elt ifs d σ P)
    (hR : ∀ a C σ' h' tk, P (.ref a) σ' → Own prog w h₀ σ' h' → Grow σ s.heap σ' h' → (∃ m, h'.Ns C m) → ¬ dom σ' C → h₀.get? C = Option.none → s.heap.get? C = Option.none → R (.ref a) C (.ok .next) { s with heap := h', toks := tk }) :
    wpAny (model prog w) A (pyIter v) (fun it s₂ => wpAny (model prog w) A (newList []) (fun acc s₃ =>
      wpAny (model prog w) A (newFunctionEnv scope env.globals (closL env.cells scope.names []) [] env.qual Option.none .none (some env)) (fun cenv s₄ =>
        codeAny (model prog w) A (.compStart (.ListComp elt [⟨target, iter, ifs, 0⟩] scope pos) 0 it acc { cenv with scope := relabel scope env }) (R acc cenv.locals) s₄) E s₃) E s₂) E s := by
  obtain ⟨ds, pr, Inv, src, hlen, hp0, inv0, hpr, turn, done⟩ := hP
  refine src A s E _ v σ hA.handled O hp0 r fun oI St it st0 => ?_
  refine wpAny_newList ?_
  refine wpAny_newFunctionEnv hcs.nocell (by intro y hy; simp at hy) (fun h' hns hsb => ?_) hcs.kind
  dsimp only at hns hsb ⊢
  -- the addresses
  have hIn : s.heap.get? s.heap.objs.size = Option.none := get_size
  generalize hH2 : (s.heap.push oI).push { cls := Value.type "list", data := Data.seq ([] : List Value).toArray } = H2 at hns hsb ⊢
  have hz1 : (s.heap.push oI).objs.size = s.heap.objs.size + 1 := by rw [Heap.size_push]
  have hz2 : H2.objs.size = s.heap.objs.size + 2 := by rw [← hH2, Heap.size_push, hz1]
  have a1 : (s.heap.push oI).objs.size ≠ s.heap.objs.size := by rw [hz1]; exact Nat.succ_ne_self _
  have a2 : H2.objs.size ≠ s.heap.objs.size := by rw [hz2]; exact Nat.ne_of_gt (Nat.lt_add_of_pos_right (by decide))
  have a3 : H2.objs.size ≠ (s.heap.push oI).objs.size := by rw [hz2, hz1]; exact Nat.succ_ne_self _
  have up0 : ∀ b o, s.heap.get? b = some o → h'.get? b = some o := fun b o e => hsb.extBut b o (by rw [hz2]; exact Nat.ne_of_lt (Nat.lt_of_lt_of_le (Heap.lt_size e) (Nat.le_add_right _ _))) (Heap.get?_push_of_some _ (hH2 ▸ Heap.get?_push_of_some _ (Heap.get?_push_of_some _ e)))
  have up2 : ∀ b o, H2.get? b = some o → h'.get? b = some o := fun b o e => hsb.extBut b o (Nat.ne_of_lt (Heap.lt_size e)) (Heap.get?_push_of_some _ e)
  have hnone : ∀ b, s.heap.objs.size ≤ b → s.heap.get? b = Option.none := fun b hb => Heap.get?_none_of_le hb
  have h0no : ∀ b, s.heap.objs.size ≤ b → h₀.get? b = Option.none := fun b hb => O.gone (hnone b hb)
  have hdomno : ∀ b, s.heap.objs.size ≤ b → ¬ dom σ b := fun b hb => O.away (hnone b hb)
  have O1 : Own prog w h₀ σ (s.heap.push oI) := O.up (push_up _)
  have O2 : Own prog w h₀ (((s.heap.push oI).objs.size, .lst []) :: σ) H2 := hH2 ▸ O1.new ⟨#[], ⟨0, Heap.get?_push_size _ rfl⟩, .nil⟩
  have O3 := O2.up up2
  have hL : s.heap.objs.size ≤ H2.objs.size := by rw [hz2]; exact Nat.le_add_right _ _
  have hD : s.heap.objs.size ≤ (s.heap.push oI).objs.size := by rw [hz1]; exact Nat.le_add_right _ _
  have cl_env : ∀ x c, (closL env.cells scope.names []).lookup x = some c → env.cells.lookup x = some c := fun x c hc => by
    rw [closL_lookup] at hc
    split at hc
    · rename_i hm
      obtain ⟨c', hc'⟩ := Option.isSome_iff_exists.mp (hcs.free x hm)
      rw [hc', Option.getD_some] at hc
      rw [hc', hc]
    · exact absurd hc.symm (Option.some_ne_none c)
  have hcl : ∀ x c, env.cells.lookup x = some c → c < s.heap.objs.size := fun x c hc => let ⟨_, hv⟩ := L.cell x c hc; hv.lt
  have Lc : Loc h₀ (compE scope env H2.objs.size (closL env.cells scope.names [])) ρc (((s.heap.push oI).objs.size, .lst []) :: σ) h' := {
    fn := hcs.kind
    glob := L.glob
    bui := L.bui
    ns := ⟨_, hns, fun y d hy hky => absurd hky (hcap y d hy).2.2.2⟩
    cell := fun y c hc => let ⟨vo, hv⟩ := L.cell y c (cl_env y c hc); ⟨vo, hv.keeps up0⟩
    cells := fun y d hy _ => by
      obtain ⟨h1, h2, h3, h4⟩ := hcap y d hy
      obtain ⟨c, v, hc, hv, rv⟩ := L.cells y d h1 (.inl h2)
      exact ⟨c, v, by show (closL env.cells scope.names []).lookup y = _; rw [closL_lookup, if_pos h3, hc]; rfl, hv.keeps up0, rv.up up0⟩
    offL := fun hd => by
      rcases List.mem_cons.mp hd with e | hd
      · exact a3 e
      · exact hdomno _ hL hd
    offC := fun y c hc hd => by
      have hlt := hcl y c (cl_env y c hc)
      rcases List.mem_cons.mp hd with e | hd
      · rw [show c = (s.heap.push oI).objs.size from e, hz1] at hlt; exact absurd hlt (Nat.not_lt.mpr (Nat.le_add_right _ _))
      · exact L.offC y c (cl_env y c hc) hd
    apart := fun y z c hy hz => L.apart y z c (cl_env y c hy) (cl_env z c hz)
    newL := h0no _ hL
    newC := fun y c hc => L.newC y c (cl_env y c hc) }
  have st1 : St 0 h' := by
    refine it.frame (fun _ => False) 0 _ _ st0 (fun b o e _ => up2 b o ?_) soft_none id
    rw [← hH2]; exact Heap.get?_push_of_some _ e
  have hIo : ∃ o, h'.get? s.heap.objs.size = some o := let ⟨o, _, ho, _⟩ := it.obj 0 _ st1; ⟨o, ho⟩
  have key : ∀ s₃ : Shared, s₃ = { s with heap := h', toks := s.toks + ([] : List (Str × Value)).length } →
      codeAny (model prog w) A (.compLoop (.ListComp elt [⟨target, iter, ifs, 0⟩] scope pos) 0 (.ref s.heap.objs.size) (.ref (s.heap.push oI).objs.size) (compE scope env H2.objs.size (closL env.cells scope.names []))) (R (.ref (s.heap.push oI).objs.size) H2.objs.size) s₃ := by
    rintro s₃ rfl
    refine compLoop (σ := σ) hA (fun d' rest acc σ' hi ha => turn _ _ d' rest acc σ' _ hi ha) it st1 hlen inv0 (fun rest acc σ' hi => hpr rest acc σ' _ hi) rfl (fun x c hc => ?_) O3 Lc ?_ (h0no _ (Nat.le_refl _)) ?_
    · have := hcl x c (cl_env x c hc)
      exact Nat.ne_of_lt this
    · rintro (hx | hx | ⟨hx, _⟩)
      · rcases List.mem_cons.mp hx with e | hx
        · exact a1 e.symm
        · exact hdomno _ (Nat.le_refl _) hx
      · exact a2 hx.symm
      · simp [compEnvC] at hx
    · intro acc σ' h4 tk hi O4 L4 k4 n4
      have na : ¬ dom σ' (s.heap.push oI).objs.size := O4.head_new
      obtain ⟨m, hnC, _⟩ := L4.ns
      refine hR _ _ _ h4 tk (done acc σ' _ hi na) O4 ⟨fun b o e hb => ?_, fun b hb => ?_⟩ ⟨m, hnC⟩ L4.offL (h0no _ hL) (hnone _ hL)
      · have hlt := Heap.lt_size e
        refine k4 b o (up0 b o e) ?_ (Nat.ne_of_lt hlt)
        rintro (hx | hx | ⟨hx, _⟩)
        · rcases List.mem_cons.mp hx with e' | hx
          · rw [show b = (s.heap.push oI).objs.size from e', hz1] at hlt; exact absurd hlt (Nat.not_lt.mpr (Nat.le_add_right _ _))
          · exact hb hx
        · rw [show b = H2.objs.size from hx, hz2] at hlt; exact absurd hlt (Nat.not_lt.mpr (Nat.le_add_right _ _))
        · simp [compEnvC] at hx
      · rcases List.mem_cons.mp hb with e' | hb
        · exact .inr (by rw [show b = (s.heap.push oI).objs.size from e']; exact hnone _ hD)
        · rcases n4 b hb with hx | hx
          · exact .inl hx
          · right
            exact gone_of (up0 b) hx
  exact codeAny_compStart_list (key _ rfl) (it.self A _ _ _ 0 st1 (key _ rfl))

theorem EW.comp {target elt iter : Expr} {ifs : List Expr} {scope : Scope} {pos : Pos} {P : D → Sto → Prop} (hcs : CompSc scope env) (hcap : CapOk scope env ρ ρc)
    (h : EW prog w h₀ k env ρ σ iter fun d σ1 => CompOk prog w h₀ k env ρc scope target elt ifs d σ1 P) (hs : ∀ x, foldedSetIterable iter env x = Pure.pure x := by intro _; rfl) :
    EW prog w h₀ k env ρ σ (.ListComp elt [⟨target, iter, ifs, 0⟩] scope pos) P := by
  intro A s E Q hA O L hH q
  show wpAny _ A (comprehension (.ListComp elt [⟨target, iter, ifs, 0⟩] scope pos) scope env (firstIterPos [⟨target, iter, ifs, 0⟩] pos) (newList []) false (eval iter env)) Q E s
  refine wpAny_comprehension_free (use := Option.none) rfl hs (closureFor_eq hcs.free) hcs.kind hcs.names (h A s E _ hA O L held0 fun v d σ1 h1 tk1 hP O1 g1 r1 => ?_)
  refine comp_core (s := { s with heap := h1, toks := tk1 }) (R := fun acc C => compPost (model prog w) A E Option.none Q acc C) hcs hcap hA O1 (L.grow O g1) r1 hP ?_
  intro a C σ' h' tk hp O' g' ⟨m, hm⟩ hC hC0 hCs
  refine ⟨m, hm, fun h2 hs2 => ?_⟩
  refine q (.ref a) (.ref a) σ' h2 tk hp (O'.samebut hs2 hC hC0 (ns_soft hm)) (g1.trans ⟨fun b o e hb => ?_, g'.new⟩) (.ref a)
  exact samebut_kp hs2 b o (g'.keep b o e hb) fun hx => absurd (e.symm.trans (hx ▸ hCs)) (Option.some_ne_none o)

/-- a name bound to a comprehension on the same line -/
theorem XW.assignComp {x : Str} {px spos : Pos} {target elt iter : Expr} {ifs : List Expr} {scope : Scope} {pos : Pos} {N C : Rho → Sto → Prop} {Rt : D → Sto → Prop} (hcs : CompSc scope env) (hcap : CapOk scope env ρ ρc)
    (h : EW prog w h₀ k env ρ σ iter fun d σ1 => CompOk prog w h₀ k env ρc scope target elt ifs d σ1 fun d2 σ2 => BW prog w h₀ k env ρ σ2 x d2 N)
    (hsw : swapsWith (.ListComp elt [⟨target, iter, ifs, 0⟩] scope pos) (some (.Name x px)) spos.line env = Pure.pure true := by rfl) (hs : ∀ x, foldedSetIterable iter env x = Pure.pure x := by intro _; rfl) :
    XW prog w h₀ k env ρ σ (.Assign [.Name x px] (.ListComp elt [⟨target, iter, ifs, 0⟩] scope pos) spos) N C Rt := by
  intro A s E Q hA O L q
  rw [exec_Assign_Name_used _ _ _ _ hsw]
  refine wpAny_bind (wpAny_standAt (wpAny_bind ?_))
  show wpAny _ A (do let _ ← comprehension (.ListComp elt [⟨target, iter, ifs, 0⟩] scope pos) scope env (firstIterPos [⟨target, iter, ifs, 0⟩] pos) (newList []) false (eval iter env) (some (assign (.Name x px) env))) _ _ s
  refine wpAny_bind (wpAny_mono (wpAny_comprehension_free (use := some (assign (.Name x px) env)) (Q := fun _ s' => Q .next s') rfl hs (closureFor_eq hcs.free) hcs.kind hcs.names (h A s E _ hA O L held0 fun v d σ1 h1 tk1 hP O1 g1 r1 => ?_))
    (fun _ s' hq => wpAny_pure (wpAny_pure hq)) fun _ _ e => e)
  have L1 := L.grow O g1
  refine comp_core (s := { s with heap := h1, toks := tk1 }) (R := fun acc C => compPost (model prog w) A E (some (assign (.Name x px) env)) (fun _ s' => Q .next s') acc C) hcs hcap hA O1 L1 r1 hP ?_
  intro a C σ' h' tk hp O' g' ⟨m, hm⟩ hC hC0 hCs
  have L' := L1.grow O1 g'
  show wpAny _ A (assign (.Name x px) env (.ref a)) _ _ _
  refine AW.name hp A { s with heap := h', toks := tk } _ _ (.ref a) hA O' L' (.ref a) fun ρ2 σ2 h2 tk2 hn O2 L2 g2 => ?_
  have hCL := L1.not_new hCs
  have hCoff : ¬ offs env σ' C := fun h => h.elim hC fun h => h.elim hCL.1 fun ⟨_, z, hx⟩ => hCL.2 z C hx rfl
  have hm2 := ns_kp g2.keep hCoff hm
  have hC2 : ¬ dom σ2 C := fun hd => by
    exact (g2.new C hd).elim hC fun hx => let ⟨o', ho'⟩ := ns_obj hm; absurd (ho'.symm.trans hx) (Option.some_ne_none o')
  refine ⟨m, hm2, fun h3 hs3 => ?_⟩
  have hsoft := ns_soft hm2
  have O3 := O2.samebut hs3 hC2 hC0 hsoft
  have L3 : Loc h₀ env ρ2 σ2 h3 := L2.kp (X := fun b => b = C) (samebut_kp hs3) (fun b o hb ho => hsoft o (hb ▸ ho)) (Ne.symm hCL.1) fun y c hc e => hCL.2 y c hc e.symm
  have gg : GrowS env σ s.heap σ2 h2 := (g1.trans g').s.trans L' g2
  refine q .next σ2 h3 tk2 ⟨ρ2, hn, L3⟩ O3 ⟨fun b o e hb => ?_, gg.new⟩
  exact samebut_kp hs3 b o (gg.keep b o e hb) fun hx => absurd ((g1.keep b o e fun hd => hb (.inl hd)).symm.trans (hx ▸ hCs)) (Option.some_ne_none o)
end
end Mine
namespace Mine

section
variable {prog : Program} {w : World} {h₀ : Heap} {k : Nat} {env : Env} {ρ ρ' : Rho} {σ σ' : Sto} {A : Around} {E : Value → Shared → Prop} {s : Shared}

/-- a dict's object, whatever its keys -/
noncomputable def RawD (h : Heap) (d : Addr) (es : Array DictEntry) (ep : Nat) : Prop := ∃ o, h.get? d = some o ∧ o.ExactDict ∧ o.data = .dict es ep
theorem RawD.typeIs {d : Addr} {es : Array DictEntry} {ep : Nat} (x : RawD s.heap d es ep) : s.TypeIs (.ref d) "dict" := let ⟨o, ho, hc, _⟩ := x; ⟨o, ho, hc.1⟩
theorem RawD.lt {h : Heap} {d : Addr} {es : Array DictEntry} {ep : Nat} (x : RawD h d es ep) : d < h.objs.size := let ⟨_, ho, _⟩ := x; Heap.lt_size ho
theorem RawD.at {h h' : Heap} {d : Addr} {es : Array DictEntry} {ep : Nat} (x : RawD h d es ep) (hk : ∀ o, h.get? d = some o → h'.get? d = some o) : RawD h' d es ep := let ⟨o, ho, r⟩ := x; ⟨o, hk o ho, r⟩

theorem raw_iter {d : Addr} {es : Array DictEntry} {ep : Nat} {Q : Value → Shared → Prop} (hd : (d == sysModules) = false) (hm : RawD s.heap d es ep)
    (hQ : Q (.ref s.heap.objs.size) { s with heap := s.heap.push { cls := .type "dict_keyiterator", data := .fields #[.ref d, .int 0 0, .int es.size 0, .int ep 0] } }) :
    wpAny (model prog w) A (pyIter (.ref d)) Q E s := by
  obtain ⟨o, ho, hc, hdat⟩ := id hm
  have hT : s.TypeIs (.ref d) "dict" := hm.typeIs
  refine wpAny_pyIter_slot hT PySem.F.slot_dict_iter (wpAny_call_entry PySem.F.slot_dict_iter hT PySem.F.entry_dict_iter ?_ (PySem.F.args_dict_iter_1 _))
  unfold Builtin.«dict.__iter__»
  refine wpAny_bind ?_
  unfold Builtin.Dict.dictSlotNone
  refine wpAny_bind (wpAny_notOrdered_dict hT ?_)
  show wpAny _ _ (pure (Value.ref d)) _ _ s
  refine wpAny_pure ?_
  show wpAny _ _ (Builtin.Dict.showsAll d >>= _) _ _ s
  unfold Builtin.Dict.showsAll
  rw [if_neg (by rw [hd]; exact Bool.false_ne_true)]
  refine wpAny_bind (wpAny_pure (wpAny_bind (wpAny_dictEntries ho hdat (wpAny_bind (wpAny_dictEpoch ho hdat ?_)))))
  refine wpAny_bind (wpAny_newObj_type (wpAny_pure ⟨_, rfl, "dict_keyiterator", _, ⟨_, Heap.get?_push_size _ rfl, rfl⟩, PySem.F.slot_dict_keyiterator_next.lookup, ?_⟩))
  simpa [rawInt] using hQ

theorem raw_item {it d : Addr} {i ep : Nat} {es : Array DictEntry} {e : DictEntry} {Q : Option Value → Shared → Prop} (hit : s.heap.IsKeyIter it d i es.size ep)
    (hm : RawD s.heap d es ep) (hx : es[i]? = some e)
    (hQ : ∀ h', h'.IsKeyIter it d (i + 1) es.size ep → Heap.SameBut it s.heap h' → Q (some e.key) { s with heap := h' }) :
    wpAny (model prog w) A (pyNext (.ref it)) Q E s := by
  obtain ⟨o, ho, hc, hd⟩ := id hit
  obtain ⟨od, hod, hcd, hdd⟩ := id hm
  unfold pyNext
  refine wpAny_bind (wpAny_attempt (wpAny_callSpecial?_slot (name := Str.ofString "__next__") hit.typeIs PySem.F.slot_dict_keyiterator_next
    (wpAny_call_entry PySem.F.slot_dict_keyiterator_next hit.typeIs PySem.F.entry_dict_keyiterator_next ?_ (PySem.F.args_dict_keyiterator_next_1 _))))
  refine wpAny_bind (wpAny_pure (wpAny_bind (wpAny_bind ?_)))
  first | refine wpAny_bind (wpAny_typeNameOfWhole_keyiter hit.typeIs (wpAny_pure ?_)) | refine wpAny_bind (wpAny_typeNameOf_keyiter hit.typeIs (wpAny_pure ?_))
  refine wpAny_bind (wpAny_fieldsOf ho hd ?_)
  have hown : Builtin.Dict_items.ownsTuple "dict_keyiterator" = false := by decide
  rw [hown, if_neg Bool.false_ne_true]
  show wpAny _ _ (if (Value.ref d == Value.none) = true then _ else _) _ _ s
  rw [if_neg (show ¬ ((Value.ref d == Value.none) = true) from Bool.false_ne_true)]
  refine wpAny_bind (wpAny_pure (wpAny_bind (wpAny_dictEntries hod hdd ?_)))
  rw [if_neg (by simp)]
  refine wpAny_bind (wpAny_pure (wpAny_bind (wpAny_dictEpoch hod hdd ?_)))
  rw [if_neg (by simp)]
  refine wpAny_pure ?_
  dsimp only
  rw [if_neg (show ¬ ((i : Int) < 0) from Int.not_lt.mpr (Int.natCast_nonneg i)), Int.toNat_natCast, hx]
  dsimp only
  refine wpAny_bind ?_
  first | refine wpAny_bind (wpAny_typeNameOfWhole_keyiter hit.typeIs (wpAny_pure ?_)) | refine wpAny_bind (wpAny_typeNameOf_keyiter hit.typeIs (wpAny_pure ?_))
  refine wpAny_bind (wpAny_isOneOf_keyiter hit.typeIs ?_)
  show wpAny _ _ (setField (.ref it) 1 (rawInt ((i : Int) + 1)) >>= _) _ _ s
  refine wpAny_bind (wpAny_setField ho hd (by simp) ?_)
  have hit' : (s.heap.update it (Obj.mapFields (·.setIfInBounds 1 (rawInt ((i : Int) + 1))))).IsKeyIter it d (i + 1) es.size ep :=
    ⟨_, Heap.get?_update_self _ ho (Obj.isFreed_of_fields (Obj.data_mapFields hd _)), (Obj.cls_mapFields ..).trans hc, by rw [Obj.data_mapFields hd]; simp [rawInt]⟩
  refine wpAny_bind (wpAny_holding (wpAny_bind (wpAny_isOneOf_keyiter (s := { s with heap := s.heap.update it (Obj.mapFields (·.setIfInBounds 1 (rawInt ((i : Int) + 1)))) }) hit'.typeIs ?_)))
  exact wpAny_pure (wpAny_pure ⟨_, rfl, wpAny_pure (hQ _ hit' (Heap.SameBut.update ..))⟩)

theorem raw_end {it d : Addr} {i ep : Nat} {es : Array DictEntry} {Q : Option Value → Shared → Prop} (hh : A.handled = Option.none) (hit : s.heap.IsKeyIter it d i es.size ep)
    (hm : RawD s.heap d es ep) (hx : es[i]? = Option.none)
    (hQ : ∀ h', Heap.ExtBut it s.heap h' → Q Option.none { s with heap := h' }) : wpAny (model prog w) A (pyNext (.ref it)) Q E s := by
  obtain ⟨o, ho, hc, hd⟩ := id hit
  obtain ⟨od, hod, hcd, hdd⟩ := id hm
  unfold pyNext
  refine wpAny_bind (wpAny_attempt (wpAny_callSpecial?_slot (name := Str.ofString "__next__") hit.typeIs PySem.F.slot_dict_keyiterator_next
    (wpAny_call_entry PySem.F.slot_dict_keyiterator_next hit.typeIs PySem.F.entry_dict_keyiterator_next ?_ (PySem.F.args_dict_keyiterator_next_1 _))))
  refine wpAny_bind (wpAny_pure (wpAny_bind (wpAny_bind ?_)))
  first | refine wpAny_bind (wpAny_typeNameOfWhole_keyiter hit.typeIs (wpAny_pure ?_)) | refine wpAny_bind (wpAny_typeNameOf_keyiter hit.typeIs (wpAny_pure ?_))
  refine wpAny_bind (wpAny_fieldsOf ho hd ?_)
  have hown : Builtin.Dict_items.ownsTuple "dict_keyiterator" = false := by decide
  rw [hown, if_neg Bool.false_ne_true]
  show wpAny _ _ (if (Value.ref d == Value.none) = true then _ else _) _ _ s
  rw [if_neg (show ¬ ((Value.ref d == Value.none) = true) from Bool.false_ne_true)]
  refine wpAny_bind (wpAny_pure (wpAny_bind (wpAny_dictEntries hod hdd ?_)))
  rw [if_neg (by simp)]
  refine wpAny_bind (wpAny_pure (wpAny_bind (wpAny_dictEpoch hod hdd ?_)))
  rw [if_neg (by simp)]
  refine wpAny_pure ?_
  dsimp only
  rw [if_neg (show ¬ ((i : Int) < 0) from Int.not_lt.mpr (Int.natCast_nonneg i)), Int.toNat_natCast, hx]
  dsimp only
  refine wpAny_bind ?_
  first | refine wpAny_bind (wpAny_typeNameOfWhole_keyiter hit.typeIs (wpAny_pure ?_)) | refine wpAny_bind (wpAny_typeNameOf_keyiter hit.typeIs (wpAny_pure ?_))
  show wpAny _ _ (setField (.ref it) 0 .none >>= _) _ _ s
  refine wpAny_bind (wpAny_setField ho hd (by simp) ?_)
  show wpAny _ _ (newExc (.type "StopIteration") [] >>= _) _ _ _
  refine wpAny_bind ?_
  simp only [newExc, newTuple]
  refine wpAny_bind (wpAny_newObj_type ?_ (by size_fits))
  refine wpAny_bind (m := firstArgMember _ _) (wpAny_of_eq (a := Value.none) (by first | rfl | (simp only [firstArgMember]; rfl)) ?_)
  refine wpAny_newObj_type ?_ (by size_fits)
  simp only [raiseNew]
  refine wpAny_bind (wpAny_handled ?_)
  rw [show A.in1.handled = Option.none from hh]
  refine wpAny_bind (wpAny_pure (wpAny_throw ?_))
  refine wpAny_bind (wpAny_isInstance (T := "StopIteration") (b := true) ⟨_, Heap.get?_push_size _ rfl, rfl⟩ isSubtype_stop ?_)
  exact wpAny_pure (hQ _ (((Heap.SameBut.update ..).extBut.push _).push _))

theorem raw_walks (hh : A.handled = Option.none) (I d : Addr) (hne : d ≠ I) (es : Array DictEntry) (ep : Nat) :
    Walks prog w A I [I, d] [I] es.size (fun i v => ∃ e, es[i]? = some e ∧ v = e.key) (fun i h => h.IsKeyIter I d i es.size ep ∧ RawD h d es ep) where
  sub := fun b hb => by simp at hb; simp [hb]
  frame := fun _ _ _ st hk => ⟨st.1.at fun o e => hk I (by simp) o e, st.2.at fun o e => hk d (by simp) o e⟩
  item := fun i s Q E hi st hQ => by
    refine raw_item st.1 st.2 (e := es[i]) (by simp [hi]) fun h' hit' hs' => ?_
    exact hQ _ h' s.toks ⟨es[i], by simp [hi], rfl⟩ ⟨hit', st.2.at fun o e => hs'.extBut d o hne e⟩ fun b o hb e => hs'.extBut b o (fun h => hb (by simp [h])) e
  done := fun s Q E st hQ => raw_end hh st.1 st.2 (by simp) fun h' he' => hQ h' s.toks fun b o hb e => he' b o (fun h => hb (by simp [h])) e
  self := fun _ _ _ _ st hQ => wpAny_pyIter_keyiter st.1 hQ
theorem raw_src {d : Addr} {es : Array DictEntry} {ep : Nat} (lo : (d == sysModules) = false) : KdlSrc prog w "dict" d d es.size (fun i v => ∃ e, es[i]? = some e ∧ v = e.key) (fun h => RawD h d es ep) where
  type := fun _ hm => hm.typeIs
  there := fun _ hm => ⟨hm.lt, hm.lt⟩
  keep := fun _ _ hm hk => hm.at fun o e => hk d (.inl rfl) o e
  notList := by decide
  notTuple := by decide
  hint := fun _ _ _ _ hm hq => kdl_hint_dict hm.typeIs hq
  iter := fun _ _ hh hm => ⟨_, _, (fun _ _ hq => raw_iter lo hm hq), raw_walks hh _ d (Nat.ne_of_lt hm.lt) es ep, ⟨⟨_, Heap.get?_push_size _ rfl, rfl, rfl⟩, hm.at fun o e => Heap.get?_push_of_some _ e⟩⟩

/-- the keys of an owned dict, as held objects -/
theorem RO.raw {h : Heap} {a : Addr} {es : List (List Int × D)} (x : RO prog w h a (.dct es)) : (a == sysModules) = false ∧ ∃ (es' : Array DictEntry) (ep : Nat), RawD h a es' ep ∧ es'.size = es.length ∧ ∀ (acc : Array Value), ItemsOf (fun i v => ∃ e, es'[i]? = some e ∧ v = e.key) acc es'.size → RVs h acc.toList (es.map fun e => D.key e.1) := by
  obtain ⟨lo, xs, ⟨o, es', ep, ho, hc, hd, he, hi, hn⟩, h1, r⟩ := x
  have hsz : es'.size = xs.length := size_of_entries he
  refine ⟨lo, es', ep, ⟨o, ho, hc, hd⟩, ?_, fun acc hacc => ?_⟩
  · rw [hsz, ← List.length_map (·.1), h1, List.length_map]
  · have e : es.map (fun e => D.key e.1) = xs.map (fun x => D.key x.1) := by
      rw [show (fun e : List Int × D => D.key e.1) = D.key ∘ (·.1) from rfl, ← List.map_map, ← h1, List.map_map]; rfl
    rw [e]
    have e2 : acc.toList = xs.map fun x => Value.ref x.2.1 := by
      apply List.ext_getElem?
      intro i
      rw [List.getElem?_map]
      by_cases hlt : i < acc.size
      · obtain ⟨e, h2, h3⟩ := hacc.2 i acc[i] (by simp [hlt])
        rw [entry_at he] at h2
        obtain ⟨x, hx, rfl⟩ := Option.map_eq_some_iff.mp h2
        rw [hx]
        simp [hlt, h3, entryOfKey]
      · have : xs.length ≤ i := by rw [← hsz, ← hacc.1]; omega
        simp [hlt, this]
    rw [e2]
    refine RVs.map fun x hx => ?_
    obtain ⟨o, items, n, ho, hc, hd, hi⟩ := hi x hx
    refine .tup ho hc hd ?_
    generalize items.toList = l at hi
    generalize x.1 = ks at hi
    clear hx e2 hacc
    induction hi with
    | nil => exact .nil
    | cons h1 _ ih => 
      refine .cons ?_ ih
      obtain ⟨t, rfl⟩ := Value.isInt_shape h1
      exact .int _ _
end
end Mine
namespace Mine

/-! sorting up to six items: the decision tree, run with answers -/
noncomputable def kRun {α : Type} (ans : Nat → Nat → Bool) (t : KasT α) : α :=
  KasT.rec (motive := fun _ => α) (fun a => a) (fun i j _ ih => ih (ans i j)) t
/-- what a decision tree asks and gives -/
noncomputable def KAll {α : Type} (n : Nat) (P : α → Prop) (t : KasT α) : Prop := KasT.rec (motive := fun _ => Prop) P (fun i j _ ih => i < n ∧ j < n ∧ ∀ b, ih b) t
theorem KAll.bind {α β : Type} {n : Nat} {P : α → Prop} {R : β → Prop} {t : KasT α} {f : α → KasT β} (h : KAll n P t) (hf : ∀ a, P a → KAll n R (f a)) : KAll n R (t.bind f) := by
  induction t with
  | ret a => exact hf a h
  | ask i j k ih => exact ⟨h.1, h.2.1, fun b => ih b (h.2.2 b)⟩
/-- an order of the first n places -/
noncomputable def POk (n : Nat) (p : Array Nat) : Prop := p.Perm (List.toArray (List.range n))
section
variable {n : Nat} {p : Array Nat}
theorem POk.get (h : POk n p) (hn : 0 < n) (i : Nat) : p.getD i 0 < n := by
  rw [Array.getD_eq_getD_getElem?]
  cases e : p[i]? with
  | none => exact hn
  | some a => exact List.mem_range.mp ((Array.perm_iff_toList_perm.mp h).mem_iff.mp (Array.mem_toList_iff.mpr (Array.mem_of_getElem? e)))
theorem POk.rev (h : POk n p) (i j : Nat) : POk n (kas_rev p i j) := Array.Perm.trans (mirror_perm _ _ _ _) h
theorem all_asc (hn : 0 < n) (h : POk n p) (f : Nat) : ∀ m, KAll n (fun _ => True) (kas_asc p f m) := by
  induction f with
  | zero => exact fun _ => trivial
  | succ f ih => exact fun m => ⟨h.get hn _, h.get hn _, fun b => by cases b; exact ih _; exact trivial⟩
theorem all_desc (hn : 0 < n) (f : Nat) : ∀ {p : Array Nat} (_ : POk n p) (m q : Nat), KAll n (fun r => POk n r.1) (kas_desc f p m q) := by
  induction f with
  | zero => exact fun h _ _ => h
  | succ f ih =>
    intro p h m q
    refine ⟨h.get hn _, h.get hn _, fun b => ?_⟩
    cases b with
    | true =>
      show KAll n _ (if q > 0 then kas_desc f (kas_rev p (m - (q + 1)) m) (m + 1) 0 else kas_desc f p (m + 1) 0)
      split
      · exact ih (h.rev _ _) _ _
      · exact ih h _ _
    | false => exact ⟨h.get hn _, h.get hn _, fun b => by cases b; exact ih h _ _; exact h⟩
theorem all_tail3 (hn : 0 < n) (h : POk n p) (m r : Nat) : KAll n (fun x => POk n x.2) (kas_tail3 m r p) := KAll.bind (all_asc hn (h.rev _ _) _ _) fun _ _ => h.rev _ _
theorem all_descPart (hn : 0 < n) (h : POk n p) (m r : Nat) : KAll n (fun x => POk n x.2) (kas_descPart m r p) := KAll.bind (all_desc hn _ h _ _) fun x hx => by
  split
  · exact all_tail3 hn (hx.rev _ _) _ _
  · exact all_tail3 hn hx _ _
theorem all_count (hn : 0 < n) (h : POk n p) (r : Nat) : KAll n (fun x => POk n x.2) (kas_count r p) := KAll.bind (all_asc hn h _ _) fun m _ => by
  split
  · exact h
  · split
    · exact ⟨h.get hn _, h.get hn _, fun b => by cases b; exact all_descPart hn (h.rev _ _) _ _; exact h⟩
    · exact all_descPart hn h _ _
theorem all_place (hn : 0 < n) (h : POk n p) (k f : Nat) : ∀ l r, KAll n (fun _ => True) (kas_place p k f l r) := by
  induction f with
  | zero => exact fun _ _ => trivial
  | succ f ih =>
    intro l r
    show KAll n _ (if l ≥ r then .ret l else _)
    split
    · exact trivial
    · exact ⟨h.get hn _, h.get hn _, fun b => by cases b; exact ih _ _; exact ih _ _⟩
theorem all_bin (hn : 0 < n) (f : Nat) : ∀ {p : Array Nat} (_ : POk n p) (k : Nat), KAll n (POk n) (kas_bin f p k) := by
  induction f with
  | zero => exact fun h _ => h
  | succ f ih => exact fun h k => KAll.bind (all_place hn h _ _ _ _) fun l _ => ih (Array.Perm.trans (bubble_perm _ _ _) h) _
theorem kas_oks (n : Nat) (h2 : 2 ≤ n) : KAll n (POk n) (kas_sort n) := KAll.bind (all_count (Nat.lt_of_lt_of_le Nat.zero_lt_two h2) (.refl _) _) fun x hx => by
  split
  · exact all_bin (Nat.lt_of_lt_of_le Nat.zero_lt_two h2) _ hx _
  · exact hx
end
theorem kRun_all {α : Type} {n : Nat} {P : α → Prop} {ans : Nat → Nat → Bool} {t : KasT α} (h : KAll n P t) : P (kRun ans t) := by
  induction t with
  | ret a => exact h
  | ask i j k ih => exact ih _ (h.2.2 _)
theorem kRun_wp {cmp : Nat → Nat → (Bool → Shared → Prop) → Shared → Prop} {ans : Nat → Nat → Bool} {n : Nat} {P : Array Nat → Prop} {Q : Array Nat → Shared → Prop} {St : Shared → Prop}
    (hc : ∀ i j C s, i < n → j < n → St s → (∀ s', St s' → C (ans i j) s') → cmp i j C s) {t : KasT (Array Nat)} : ∀ {s : Shared}, KAll n P t → St s → (∀ s', St s' → Q (kRun ans t) s') → t.kasWp cmp Q s := by
  induction t with
  | ret a => exact fun _ hs h => h _ hs
  | ask i j k ih => exact fun ok hs h => hc i j _ _ ok.1 ok.2.1 hs fun _ hs' => ih _ (ok.2.2 _) hs' h
/-- the order of the items after the sort -/
noncomputable def srtP (n : Nat) (ans : Nat → Nat → Bool) : List Nat := if n < 2 then List.range n else (kRun ans (kas_sort n)).toList
theorem srtP_perm {n : Nat} {ans : Nat → Nat → Bool} (h : n ≤ 6) : (srtP n ans).Perm (List.range n) := by
  unfold srtP
  split
  · exact .refl _
  · exact Array.perm_iff_toList_perm.mp (kRun_all (kas_oks n (Nat.le_of_not_lt ‹_›)))
theorem srtP_two {ans : Nat → Nat → Bool} : srtP 2 ans = if ans 1 0 = true then [1, 0] else [0, 1] := by
  have e : srtP 2 ans = (kRun ans (kas_sort 2)).toList := rfl
  rw [e]
  have : kas_sort 2 = .ask 1 0 fun c => if c = true then .ret #[1, 0] else .ret #[0, 1] := by
    show KasT.ask 1 0 _ = KasT.ask 1 0 _
    congr 1
    funext c
    cases c <;> rfl
  rw [this]
  show Array.toList (kRun ans (if ans 1 0 = true then (.ret #[1, 0] : KasT (Array Nat)) else .ret #[0, 1])) = _
  cases ans 1 0 <;> rfl
noncomputable def srtBy (lt : D → D → Bool) (ds : List D) : List D := (srtP ds.length fun i j => lt (ds.getD i .none) (ds.getD j .none)).map fun i => ds.getD i .none
theorem map_getD_range {α : Type} (ds : List α) (d : α) : (List.range ds.length).map (fun i => ds.getD i d) = ds := by
  apply List.ext_getElem?
  intro i
  rw [List.getElem?_map]
  by_cases h : i < ds.length
  · rw [List.getElem?_range h]
    simp [h]
  · simp [h]
theorem srtBy_perm {lt : D → D → Bool} {ds : List D} (h : ds.length ≤ 6) : (srtBy lt ds).Perm ds := by
  have := (srtP_perm (n := ds.length) (ans := fun i j => lt (ds.getD i .none) (ds.getD j .none)) h).map fun i => ds.getD i .none
  rw [map_getD_range] at this
  exact this
theorem RVs.getD {h : Heap} {vs : List Value} {ds : List D} (r : RVs h vs ds) (i : Nat) : RV h (vs.getD i .none) (ds.getD i .none) := by
  by_cases hi : i < ds.length
  · obtain ⟨v, hv, rv⟩ := r.get (List.getElem?_eq_getElem hi)
    rw [List.getD_eq_getElem?_getD, hv, List.getD_eq_getElem?_getD, List.getElem?_eq_getElem hi]
    exact rv
  · have hi := Nat.le_of_not_lt hi
    have hv : vs.length ≤ i := r.length ▸ hi
    rw [List.getD_eq_getElem?_getD, List.getElem?_eq_none hv, List.getD_eq_getElem?_getD, List.getElem?_eq_none hi]
    exact .none

section
variable {prog : Program} {w : World} {h₀ : Heap} {k : Nat} {env : Env} {ρ ρ' : Rho} {σ σ' : Sto} {A : Around} {E : Value → Shared → Prop} {s : Shared}

/-- what a sort asks of its items -/
structure SortOk (prog : Program) (w : World) (ds : List D) (lt : D → D → Bool) : Prop where
  kind : ∀ (A : Around) (s : Shared) (E : Value → Shared → Prop) (Q : SortKind → Shared → Prop) (vs : List Value), 2 ≤ ds.length → RVs s.heap vs ds → Q (tuples' true) s → wpAny (model prog w) A (keyKind' vs.toArray) Q E s
  lt : ∀ (A : Around) (s : Shared) (E : Value → Shared → Prop) (C : Bool → Shared → Prop) (v1 v2 : Value) (i j : Nat), A.units + 20 < cLine → i < ds.length → j < ds.length → RV s.heap v1 (ds.getD i .none) → RV s.heap v2 (ds.getD j .none) →
    (∀ tk, C (lt (ds.getD i .none) (ds.getD j .none)) { s with toks := tk }) → wpAny (model prog w) A (keyLt' (tuples' true) v1 v2) C E s

/-- list.sort upon a list at D -/
theorem sort_at {ds : List D} {lt : D → D → Bool} {vs : List Value} {n : Nat} {D : Addr} {P : PySem.Fin → Shared → Prop} (hu : A.units + 20 < cLine) (S : SortOk prog w ds lt) (h6 : ds.length ≤ 6)
    (ho : s.heap.get? D = some (seqObj "list" vs.toArray n)) (r : ∀ h', (∀ b o, b ≠ D → s.heap.get? b = some o → h'.get? b = some o) → RVs h' vs ds)
    (h : ∀ h' tk c, (∀ b o, b ≠ D → s.heap.get? b = some o → h'.get? b = some o) → h'.get? D = some (seqObj "list" ((srtP ds.length fun i j => lt (ds.getD i .none) (ds.getD j .none)).map fun i => vs.getD i .none).toArray c) → P (.done (.ret .none)) { s with heap := h', toks := tk }) :
    wpAny (model prog w) A (Builtin.«list.sort» ⟨[.ref D], []⟩) P E s := by
  have hlen : vs.length = ds.length := (r s.heap fun _ _ _ e => e).length
  have s1 := Heap.SameBut.update s.heap D (Obj.mapSeq fun _ => (#[] : Array Value))
  obtain ⟨e1, ho1⟩ : ∃ e1, (s.heap.update D (Obj.mapSeq fun _ => (#[] : Array Value))).get? D = some (seqObj "list" #[] e1) := ⟨_, get?_update_seq ho fun _ => #[]⟩
  have hsl : sizeLine = 2 ^ 24 := rfl
  have hsv : vs.toArray.size ≤ sizeLine := fits (Nat.le_trans h6 (by decide)) hlen
  rw [list_sort_plain]
  refine wpAny_bind (listItems_at ho rfl ?_)
  refine wpAny_bind (listUpdate_at ho rfl ?_ hsv (Nat.zero_le _))
  refine wpAny_bind (seqEpoch_at ho1 rfl ?_)
  refine wpAny_bind (wpAny_newTuple ?_ (by simpa using hsv))
  refine wpAny_bind (wpAny_newList ?_ (Nat.zero_le _))
  refine wpAny_holding ?_
  generalize hH : ((s.heap.update D (Obj.mapSeq fun _ => (#[] : Array Value))).push (seqObj "tuple" vs.toArray 0)).push (seqObj "list" #[] 0) = H
  have hk : ∀ b o, b ≠ D → s.heap.get? b = some o → H.get? b = some o := fun b o hb e => hH ▸ Heap.get?_push_of_some _ (Heap.get?_push_of_some _ ((s1.2 b hb).trans e))
  have hoD : H.get? D = some (seqObj "list" #[] e1) := hH ▸ Heap.get?_push_of_some _ (Heap.get?_push_of_some _ ho1)
  have rH := r H hk
  dsimp only
  -- what comes last
  have fin : ∀ (st' : SortSt) (tk : Nat) (out : List Value), (arrOf st').map (·.2) = out.toArray → out.length ≤ 6 → failedOf st' = Option.none → out = ((srtP ds.length fun i j => lt (ds.getD i .none) (ds.getD j .none)).map fun i => vs.getD i .none) →
      wpAny (model prog w) A (do
        let touched := (← seqEpoch D) != e1
        Builtin.List.listUpdate (.ref D) fun _ => (arrOf st').map (·.2)
        if let some e := failedOf st' then rule "list.sort.comparison-raised"; throw e
        if touched then rule "list.sort.modified"; raiseError "ValueError" "list modified during sort"
        ret .none) P E { s with heap := H, toks := tk } := by
    intro st' tk out ha hl hf he
    refine wpAny_bind (seqEpoch_at hoD rfl ?_)
    rw [ha]
    refine wpAny_bind (listUpdate_at hoD rfl ?_ (Nat.zero_le _) (Nat.le_succ_of_le (fits (Nat.le_trans hl (by decide)) rfl)))
    rw [hf]
    simp only [bne_self_eq_false, Bool.false_eq_true, if_false]
    have s2 := Heap.SameBut.update H D (Obj.mapSeq fun _ => out.toArray)
    obtain ⟨c2, hc2⟩ : ∃ c2, (H.update D (Obj.mapSeq fun _ => out.toArray)).get? D = some (seqObj "list" out.toArray c2) := ⟨_, get?_update_seq hoD fun _ => out.toArray⟩
    refine wpAny_pure (h _ tk c2 (fun b o hb e => (s2.2 b hb).trans (hk b o hb e)) ?_)
    rw [← he]
    exact hc2
  by_cases h2 : vs.length < 2
  · have hn2 : vs.toArray.size < 2 := by simpa using h2
    rw [if_pos hn2, if_pos hn2]
    refine wpAny_bind (wpAny_pure ?_)
    rw [StateT.run_pure]
    refine wpAny_bind (wpAny_pure ?_)
    dsimp only
    refine fin _ s.toks vs ?_ (by omega) rfl ?_
    · show (vs.toArray.zip vs.toArray).map (·.2) = _
      apply Array.toList_inj.mp
      simp only [Array.toList_map, Array.toList_zip, List.toList_toArray]
      rw [List.map_snd_zip (Nat.le_refl _)]
    · rw [show srtP ds.length _ = List.range ds.length from if_pos (by omega), ← hlen, map_getD_range]
  · have hn2 : ¬ vs.toArray.size < 2 := by simpa using h2
    rw [if_neg hn2, if_neg hn2]
    refine wpAny_bind (S.kind A _ _ _ vs (by omega) rH ?_)
    have hrun : (kas_sort vs.length).kasWp (kas_ask prog w A (tuples' true) vs) (fun p s' => p = kRun (fun i j => lt (ds.getD i .none) (ds.getD j .none)) (kas_sort vs.length) ∧ ∃ tk, s' = { s with heap := H, toks := tk }) { s with heap := H } := by
      refine kRun_wp (St := fun s' => ∃ tk, s' = { s with heap := H, toks := tk }) ?_ (kas_oks _ (by omega)) ⟨s.toks, rfl⟩ fun s' hs' => ⟨rfl, hs'⟩
      rintro i j C s' hi hj ⟨tk, rfl⟩ hC
      unfold kas_ask
      exact S.lt A _ _ C _ _ i j hu (by omega) (by omega) (rH.getD i) (rH.getD j) fun tk' => hC _ ⟨tk', rfl⟩
    refine wpAny_bind (wpAny_mono (kat_run (Q := fun st' s' => ∃ p : Array Nat, p.size = vs.length ∧ arrOf st' = p.map (kas_item (vs.toArray.zip vs.toArray)) ∧ failedOf st' = Option.none ∧ p = kRun (fun i j => lt (ds.getD i .none) (ds.getD j .none)) (kas_sort vs.length) ∧ ∃ tk, s' = { s with heap := H, toks := tk })
      rfl (by omega) (by omega) (fun p' st' s' a1 a2 a3 a4 => ⟨p', a1, a2, a3, a4⟩) hrun) ?_ fun _ _ e => e)
    rintro ⟨⟨⟩, st'⟩ s' ⟨p, hp, har, hf, hpe, tk, rfl⟩
    dsimp only
    refine fin st' tk _ (kat_snds rfl har) (by rw [List.length_map, Array.length_toList, hp]; omega) hf ?_
    rw [show srtP ds.length _ = (kRun _ (kas_sort ds.length)).toList from if_neg (by omega), ← hlen, hpe]
end
end Mine
namespace Mine

section
variable {prog : Program} {w : World} {h₀ : Heap} {k : Nat} {env : Env} {ρ ρ' : Rho} {σ σ' : Sto} {A : Around} {E : Value → Shared → Prop} {s : Shared}

/-- parts of plain data -/
noncomputable def D.kids (d : D) : List D := D.casesOn (motive_1 := fun _ => List D) d [] (fun _ => []) (fun _ => []) (fun _ => []) (fun ds => ds) (fun _ => []) (fun _ _ _ => [])
noncomputable def D.kid (d : D) (i : Nat) : D := d.kids.getD i .none
noncomputable def D.int! (d : D) : Int := D.casesOn (motive_1 := fun _ => Int) d 0 (fun _ => 0) (fun i => i) (fun _ => 0) (fun _ => 0) (fun _ => 0) (fun _ _ _ => 0)
noncomputable def D.isI (d : D) : Bool := D.casesOn (motive_1 := fun _ => Bool) d false (fun _ => false) (fun _ => true) (fun _ => false) (fun _ => false) (fun _ => false) (fun _ _ _ => false)
/-- two-part tuples that open with an int -/
noncomputable def ltTwo (d e : D) : Bool := if (d.kid 0).int! = (e.kid 0).int! then (d.kid 1).isI && (e.kid 1).isI && decide ((d.kid 1).int! < (e.kid 1).int!) else decide ((d.kid 0).int! < (e.kid 0).int!)
/-- two-part tuples, apart by what a sort can tell -/
noncomputable def TwoOk (ds : List D) : Prop := ∀ i j, i < ds.length → j < ds.length → ∃ a b x y, ds.getD i .none = .tup [.int a, x] ∧ ds.getD j .none = .tup [.int b, y] ∧
  ((∃ c d, x = .int c ∧ y = .int d) ∨ (x.pure = true ∧ y.pure = true ∧ Nat.ble x.py.depth 10 = true ∧ x.isI = false ∧ (a = b → PyData.eqv x.py y.py = true)))
theorem oneLt_plain {b : Bool} {c d : Int} {t u : Tok} {C : Bool → Shared → Prop} (hC : ∀ tk, C (decide (c < d)) { s with toks := tk }) : wpAny (model prog w) A (oneLt' b (.int c t) (.int d u)) C E s := by
  cases b with
  | true => exact oneLt_int (hC s.toks)
  | false => exact kat_one _ _ (lt_int (hC _))
theorem getD_at {α : Type} {l : List α} {i : Nat} (h : i < l.length) (d : α) : l.getD i d = l[i] := by rw [List.getD_eq_getElem?_getD, List.getElem?_eq_getElem h]; rfl
theorem kat_heads {h : Heap} {ds : List D} : ∀ {vs : List Value}, RVs h vs ds → (∀ d ∈ ds, ∃ a x, d = .tup [.int a, x]) → ∃ fs : List Value, fs.length = vs.length ∧ KatTups h vs fs ∧ ∀ v ∈ fs, ∃ i t, v = Value.int i t := by
  induction ds with
  | nil =>
    intro vs r _
    obtain rfl := r.nl
    exact ⟨[], rfl, trivial, fun _ hv => absurd hv List.not_mem_nil⟩
  | cons d ds ih =>
    intro vs r hd
    replace r := r.cs
    obtain ⟨v, ws, rfl, a, r⟩ := r
    obtain ⟨i, x, rfl⟩ := hd _ (.head _)
    obtain ⟨fs, h1, h3, h4⟩ := ih r fun d hm => hd d (.tail _ hm)
    obtain ⟨a, o, xs, n, rfl, ho, hc, hdd, rr⟩ := a.t
    obtain ⟨u, v, e, ru, rv⟩ := rr.two
    obtain ⟨t, rfl⟩ := ru.i
    exact ⟨.int i t :: fs, congrArg (· + 1) h1, KatTups.cons ho hc hdd (by rw [← Array.getElem?_toList, e]; rfl) h3, fun w hw => (List.mem_cons.mp hw).elim (fun e => ⟨i, t, e⟩) (h4 w)⟩
theorem twoLt {C : Bool → Shared → Prop} {v1 v2 : Value} {a b : Int} {x y : D} (hu : A.units + 20 < cLine) (r1 : RV s.heap v1 (.tup [.int a, x])) (r2 : RV s.heap v2 (.tup [.int b, y]))
    (hxy : (∃ c d, x = .int c ∧ y = .int d) ∨ (x.pure = true ∧ y.pure = true ∧ Nat.ble x.py.depth 10 = true ∧ x.isI = false ∧ (a = b → PyData.eqv x.py y.py = true)))
    (hC : ∀ tk, C (ltTwo (.tup [.int a, x]) (.tup [.int b, y])) { s with toks := tk }) : wpAny (model prog w) A (keyLt' (tuples' true) v1 v2) C E s := by
  obtain ⟨a1, o1, xs1, n1, rfl, ho1, hc1, hd1, rr1⟩ := r1.t
  obtain ⟨a2, o2, xs2, n2, rfl, ho2, hc2, hd2, rr2⟩ := r2.t
  obtain ⟨u1, w1, f1, ru1, rw1⟩ := rr1.two
  obtain ⟨u2, w2, f2, ru2, rw2⟩ := rr2.two
  obtain ⟨t1, rfl⟩ := ru1.i
  obtain ⟨t2, rfl⟩ := ru2.i
  have hsz : decide (xs1.size < xs2.size) = false := by rw [rr1.size, rr2.size]; rfl
  refine kat_lt ho1 hd1 ho2 hd2 ?_
  rw [f1, f2]
  show KatLex _ _ _ _ _ _ [(_, _), (w1, w2)] 0 s
  refine kat_cons (wpAny_eqBool_int ?_)
  by_cases hab : a = b
  · subst hab
    rw [beq_self_eq_true]
    rw [show ltTwo (.tup [.int a, x]) (.tup [.int a, y]) = (x.isI && y.isI && decide (x.int! < y.int!)) from if_pos rfl] at hC
    refine kat_yes (kat_cons ?_)
    rcases hxy with ⟨c, d, rfl, rfl⟩ | ⟨hx, hy, hdx, hno, heq⟩
    · obtain ⟨t3, rfl⟩ := rw1.i
      obtain ⟨t4, rfl⟩ := rw2.i
      refine wpAny_eqBool_int ?_
      by_cases hcd : c = d
      · subst hcd
        rw [beq_self_eq_true]
        refine kat_yes (kat_nil ?_)
        rw [hsz, ← show decide (c < c) = false from decide_eq_false (Int.lt_irrefl c)]
        exact hC s.toks
      · rw [show (c == d) = false from beq_eq_false_iff_ne.mpr hcd]
        exact kat_no (oneLt_plain hC)
    · obtain ⟨as, ra⟩ := rw1.reads hx
      obtain ⟨bs, rb⟩ := rw2.reads hy
      refine SeqAt.eqBoolOverData prog w A _ s _ _ _ _ _ _ _ ra rb (D.lay _ hx) (D.lay _ hy) (Nat.lt_of_le_of_lt (Nat.add_le_add_left (Nat.le_trans (Nat.min_le_left ..) (Nat.le_trans (Nat.le_of_ble_eq_true hdx) (by decide))) _) hu) ?_
      rw [heq rfl]
      refine kat_yes (kat_nil ?_)
      rw [hno] at hC
      rw [hsz]
      exact hC s.toks
  · rw [show (a == b) = false from beq_eq_false_iff_ne.mpr hab]
    rw [show ltTwo (.tup [.int a, x]) (.tup [.int b, y]) = decide (a < b) from if_neg hab] at hC
    exact kat_no (oneLt_plain hC)
theorem sortOk_two {ds : List D} (hT : TwoOk ds) : SortOk prog w ds ltTwo where
  kind := fun A s E Q vs h2 r hq => by
    obtain ⟨fs, h1, h3, h4⟩ := kat_heads r fun d hd => by
      obtain ⟨i, hi, rfl⟩ := List.getElem_of_mem hd
      obtain ⟨a, _, x, _, e, _⟩ := hT i i hi hi
      exact ⟨a, x, (getD_at hi .none).symm.trans e⟩
    refine kat_kind (T := Value.type "int") h3 (by rw [h1, r.length]; exact Nat.lt_of_lt_of_le Nat.zero_lt_two h2) (fun v hv => ?_) (by decide) hq
    obtain ⟨i, t, rfl⟩ := h4 v hv
    exact .now
  lt := fun A s E C v1 v2 i j hu hi hj r1 r2 hC => by
    obtain ⟨a, b, x, y, e1, e2, hxy⟩ := hT i j hi hj
    rw [e1, e2] at hC
    exact twoLt hu (e1 ▸ r1) (e2 ▸ r2) hxy hC
theorem len_cs {α : Type} {l : List α} {n : Nat} (h : l.length = n + 1) : ∃ a t, l = a :: t ∧ t.length = n := by
  cases l with
  | nil => exact absurd h.symm (Nat.succ_ne_zero n)
  | cons a t => exact ⟨a, t, rfl, Nat.succ.inj h⟩
theorem len_two {α : Type} {l : List α} (h : l.length = 2) : ∃ a b, l = [a, b] :=
  let ⟨a, t, e, h⟩ := len_cs h; let ⟨b, u, f, h⟩ := len_cs h; ⟨a, b, by rw [e, f, List.length_eq_zero_iff.mp h]⟩
theorem twoOk_keys {ks : List (List Int)} (h : ∀ q ∈ ks, q.length = 2) : TwoOk (ks.map D.key) := by
  have key : ∀ i, i < (ks.map D.key).length → ∃ a c, (ks.map D.key).getD i .none = .tup [.int a, .int c] := by
    intro i hi
    have hi' : i < ks.length := List.length_map (f := D.key) ▸ hi
    obtain ⟨a, c, hk⟩ := len_two (h ks[i] (List.getElem_mem hi'))
    exact ⟨a, c, by rw [getD_at hi, List.getElem_map, hk]; rfl⟩
  intro i j hi hj
  obtain ⟨a, c, e1⟩ := key i hi
  obtain ⟨b, d, e2⟩ := key j hj
  exact ⟨a, b, .int c, .int d, e1, e2, .inl ⟨c, d, rfl, rfl⟩⟩

/-- the keys, sorted -/
noncomputable def srtK (ks : List (List Int)) : List (List Int) := (srtP ks.length fun i j => ltTwo (D.key (ks.getD i [])) (D.key (ks.getD j []))).map fun i => ks.getD i []
theorem srtK_perm {ks : List (List Int)} (h : ks.length ≤ 6) : (srtK ks).Perm ks := by
  have := (srtP_perm (n := ks.length) (ans := fun i j => ltTwo (D.key (ks.getD i [])) (D.key (ks.getD j []))) h).map fun i => ks.getD i []
  rw [map_getD_range] at this
  exact this
theorem getD_key (ks : List (List Int)) {i : Nat} (hi : i < ks.length) : (ks.map D.key).getD i .none = D.key (ks.getD i []) := by
  simp [hi]
theorem kRun_congr {α : Type} {a b : Nat → Nat → Bool} {n : Nat} {P : Array Nat → Prop} {t : KasT (Array Nat)} (ok : KAll n P t) (h : ∀ i j, i < n → j < n → a i j = b i j) : kRun a t = kRun b t := by
  induction t with
  | ret _ => rfl
  | ask i j k ih =>
    show kRun a (k (a i j)) = kRun b (k (b i j))
    rw [h i j ok.1 ok.2.1]
    exact ih _ (ok.2.2 _)
theorem srtBy_keys {ks : List (List Int)} (h : ks.length ≤ 6) : srtBy ltTwo (ks.map D.key) = (srtK ks).map D.key := by
  unfold srtBy srtK
  rw [List.length_map, List.map_map]
  have e : srtP ks.length (fun i j => ltTwo ((ks.map D.key).getD i .none) ((ks.map D.key).getD j .none)) = srtP ks.length fun i j => ltTwo (D.key (ks.getD i [])) (D.key (ks.getD j [])) := by
    unfold srtP
    split
    · rfl
    · rw [kRun_congr (α := Unit) (kas_oks ks.length (Nat.le_of_not_lt ‹_›))]
      intro i j hi hj
      rw [getD_key ks hi, getD_key ks hj]
  rw [e]
  refine List.map_congr_left fun i hi => ?_
  have hi' : i < ks.length := by
    exact List.mem_range.mp ((srtP_perm (n := ks.length) h).mem_iff.mp hi)
  exact getD_key ks hi'

/-! sorted -/
theorem hu20 (hu : A.units + 40 < cLine) : A.in1.in1.units + 20 < cLine := by rw [Around.in1_units, Around.in1_units]; omega
theorem AOk.u {k : Nat} (hA : AOk k A) : A.units + 40 < cLine := Nat.lt_of_le_of_lt (Nat.add_le_add_right (Nat.le_add_right _ _) _) hA.units
theorem sorted_core {ds : List D} {lt : D → D → Bool} {Q : Value → Shared → Prop} {v : Value} (hu : A.units + 40 < cLine) (S : SortOk prog w ds lt) (h6 : ds.length ≤ 6)
    (hc : ∀ (R : List Value → Shared → Prop) (E : Value → Shared → Prop), (∀ h' tk vs, (∀ b o, s.heap.get? b = some o → h'.get? b = some o) → RVs h' vs ds → R vs { s with heap := h', toks := tk }) → wpAny (model prog w) A.in1 (collect v) R E s)
    (h : ∀ h' tk D vs', s.heap.get? D = Option.none → (∀ b o, s.heap.get? b = some o → h'.get? b = some o) → h'.PlainList D vs' → RVs h' vs'.toList (srtBy lt ds) → Q (.ref D) { s with heap := h', toks := tk }) :
    wpAny (model prog w) A (call (.builtin "sorted") [v]) Q E s := by
  refine Calls.call_function_entry kind_sorted plain_sorted entry_sorted (args_sorted1 _) ?_
  unfold Builtin.«sorted»
  refine wpAny_bind (m := checkCount "sorted" 1 1 _) (wpAny_pure ?_)
  refine wpAny_bind (hc _ _ fun h1 tk1 vs hk1 r1 => ?_)
  have hl : vs.length = ds.length := r1.length
  refine wpAny_bind (wpAny_newList ?_ (fits (Nat.le_trans h6 (by decide)) hl))
  have hoD : (h1.push (seqObj "list" vs.toArray 0)).get? h1.objs.size = some (seqObj "list" vs.toArray 0) := Heap.get?_push_size _ rfl
  have hnD : s.heap.get? h1.objs.size = Option.none := gone_of (hk1 _) get_size
  have soft : Soft (fun b => b = h1.objs.size) (h1.push (seqObj "list" vs.toArray 0)) := fun b o hb ho => Option.some.inj (hoD.symm.trans (hb ▸ ho)) ▸ .cls rfl (by decide) (by decide)
  refine wpAny_bind (wpAny_holding (wpAny_call_entry slot_list_sort ⟨_, hoD, rfl⟩ entry_list_sort ?_ (args_list_sort _)))
  refine sort_at (ds := ds) (lt := lt) (s := { s with heap := h1.push (seqObj "list" vs.toArray 0), toks := tk1 }) (hu20 hu) S h6 hoD
    (fun h' hk => (r1.up (push_up _)).kp (X := fun b => b = h1.objs.size) (fun b o e hb => hk b o hb e) soft) fun h' tk c hk ho => ?_
  refine ⟨_, rfl, wpAny_pure ⟨_, rfl, ?_⟩⟩
  refine h h' tk _ _ hnD (fun b o e => hk b o (Nat.ne_of_lt (Heap.lt_size (hk1 b o e))) (push_up _ b o (hk1 b o e))) ⟨c, ho⟩ ?_
  have r2 : RVs h' vs ds := (r1.up (push_up _)).kp (X := fun b => b = h1.objs.size) (fun b o e hb => hk b o hb e) soft
  unfold srtBy
  rw [List.toList_toArray]
  exact RVs.map fun i _ => r2.getD i

theorem Own.put {h h' : Heap} {D : Addr} {mo : MO} (O : Own prog w h₀ σ h) (hD : h.get? D = Option.none) (hk : ∀ b o, h.get? b = some o → h'.get? b = some o) (ho : RO prog w h' D mo) : Own prog w h₀ ((D, mo) :: σ) h' where
  keep := fun b o e => hk b o (O.keep b o e)
  objs := fun p hp => by
    rcases List.mem_cons.mp hp with rfl | hp
    · exact ho
    · exact (O.up hk).objs p hp
  nodup := List.nodup_cons.mpr ⟨O.away hD, O.nodup⟩
  off := fun p hp => by
    rcases List.mem_cons.mp hp with rfl | hp
    · exact O.gone hD
    · exact O.off p hp
theorem Grow.put {h h' : Heap} {D : Addr} {mo : MO} (hD : h.get? D = Option.none) (hk : ∀ b o, h.get? b = some o → h'.get? b = some o) : Grow σ h ((D, mo) :: σ) h' :=
  ⟨fun b o' e _ => hk b o' e, fun b hb => by
    rcases List.mem_cons.mp hb with rfl | hb
    · exact .inr hD
    · exact .inl hb⟩

theorem BiW.sortedL {a : Addr} {ds : List D} {lt : D → D → Bool} {P : D → Sto → Prop} (hm : (a, .lst ds) ∈ σ) (S : SortOk prog w ds lt) (h6 : ds.length ≤ 6) (h : ∀ b, ¬ dom σ b → P (.ref b) ((b, .lst (srtBy lt ds)) :: σ)) :
    BiW prog w h₀ k (.builtin "sorted") [.ref a] σ P := by
  intro A s E Q vs hA O r q
  replace r := r.single
  obtain ⟨_, rfl, r⟩ := r
  obtain rfl := r.r
  · obtain ⟨xs, hl, rs⟩ := (O.get hm).list
    obtain ⟨o, ho, hc, n, hd⟩ := hl
    have hlen : xs.size = ds.length := rs.size
    refine sorted_core hA.u S h6 (fun R E' hR => ?_) fun h' tk D vs' hD hk hp rv => ?_
    · refine wpAny_collect_seq a (.inl rfl) ho hc hd (fun h' hk => hR h' s.toks _ hk (rs.up hk)) (fits (Nat.le_trans h6 (by decide)) hlen)
    · exact q _ _ _ h' tk (h D (O.away hD)) (O.put hD hk ⟨vs', hp, rv⟩) (Grow.put hD hk) (.ref _)
theorem BiW.sortedD {a : Addr} {es : List (List Int × D)} {P : D → Sto → Prop} (hm : (a, .dct es) ∈ σ) (h2 : ∀ e ∈ es, e.1.length = 2) (h6 : es.length ≤ 6) (h : ∀ b, ¬ dom σ b → P (.ref b) ((b, .lst ((srtK (es.map (·.1))).map D.key)) :: σ)) :
    BiW prog w h₀ k (.builtin "sorted") [.ref a] σ P := by
  intro A s E Q vs hA O r q
  replace r := r.single
  obtain ⟨_, rfl, r⟩ := r
  obtain rfl := r.r
  · obtain ⟨lo, es', ep, hraw, hsz, hks⟩ := (O.get hm).raw
    have e1 : es.map (fun e => D.key e.1) = (es.map (·.1)).map D.key := by rw [List.map_map]; rfl
    have S : SortOk prog w ((es.map (·.1)).map D.key) ltTwo := sortOk_two (twoOk_keys fun q hq => by
      obtain ⟨e, he, rfl⟩ := List.mem_map.mp hq; exact h2 e he)
    refine sorted_core hA.u S (by simpa using h6) (fun R E' hR => ?_) fun h' tk D vs' hD hk hp rv => ?_
    · refine kdu_collect (raw_src lo) hA.handled hraw (fits (Nat.le_trans h6 (by decide)) hsz) fun h' tk acc hk hacc => hR h' tk _ hk ?_
      rw [← e1]
      exact (hks acc hacc).up hk
    · rw [srtBy_keys (by simpa using h6)] at rv
      exact q _ _ _ h' tk (h D (O.away hD)) (O.put hD hk ⟨vs', hp, rv⟩) (Grow.put hD hk) (.ref _)
theorem BiW.listD {a : Addr} {es : List (List Int × D)} {P : D → Sto → Prop} (hm : (a, .dct es) ∈ σ) (h6 : es.length ≤ 1000) (h : ∀ b, ¬ dom σ b → P (.ref b) ((b, .lst (es.map fun e => D.key e.1)) :: σ)) :
    BiW prog w h₀ k (.type "list") [.ref a] σ P := by
  intro A s E Q vs hA O r q
  replace r := r.single
  obtain ⟨_, rfl, r⟩ := r
  obtain rfl := r.r
  · obtain ⟨lo, es', ep, hraw, hsz, hks⟩ := (O.get hm).raw
    refine kdl_call (raw_src lo) hA.handled hraw (fitsK ‹_› hsz) fun h' tk acc c hk ho hacc => ?_
    exact q _ _ _ h' tk (h _ O.fresh) (O.put get_size hk ⟨acc, ⟨c, ho⟩, (hks acc hacc).up hk⟩) (Grow.put get_size hk) (.ref _)
theorem BiW.listT {ds : List D} {P : D → Sto → Prop} (h6 : ds.length ≤ 1000) (h : ∀ b, ¬ dom σ b → P (.ref b) ((b, .lst ds) :: σ)) : BiW prog w h₀ k (.type "list") [.tup ds] σ P := by
  intro A s E Q vs hA O r q
  replace r := r.single
  obtain ⟨_, rfl, r⟩ := r
  obtain ⟨a, o, xs, n, rfl, ho, hc, hd, rs⟩ := r.t
  ·   have hlen : xs.size = ds.length := rs.size
      refine call_list_seq a (.inr rfl) ho hc hd (fun h' c hk ho' => ?_) (fitsK ‹_› hlen)
      exact q _ _ _ h' s.toks (h _ O.fresh) (O.put get_size hk ⟨xs, ⟨c, ho'⟩, rs.up hk⟩) (Grow.put get_size hk) (.ref _)
theorem BiW.tupleL {a : Addr} {ds : List D} {P : D → Sto → Prop} (hm : (a, .lst ds) ∈ σ) (h6 : ds.length ≤ 1000) (h : P (.tup ds) σ) : BiW prog w h₀ k (.type "tuple") [.ref a] σ P := by
  intro A s E Q vs hA O r q
  replace r := r.single
  obtain ⟨_, rfl, r⟩ := r
  obtain rfl := r.r
  · obtain ⟨xs, hl, rs⟩ := (O.get hm).list
    have hlen : xs.size = ds.length := rs.size
    refine call_tuple_list hl (fun h' hk => ?_) (fitsK ‹_› hlen)
    have hk' : ∀ b o, s.heap.get? b = some o → (h'.push { cls := .type "tuple", data := .seq xs }).get? b = some o := fun b o e => push_up _ b o (hk b o e)
    exact q _ _ _ _ s.toks h (O.up hk') (Grow.up hk') (.tup (Heap.get?_push_size _ rfl) rfl rfl (rs.up hk'))
theorem BiW.range1 {n : Int} {P : D → Sto → Prop} (h : P (.rng 0 n 1) σ) : BiW prog w h₀ k (.type "range") [.int n] σ P := by
  intro A s E Q vs hA O r q
  replace r := r.single
  obtain ⟨_, rfl, r⟩ := r
  obtain ⟨_, rfl⟩ := r.i
  · exact call_range_1 (q _ _ _ _ _ h (O.up (push_up _)) (Grow.up (push_up _)) (.rng (Heap.get?_push_size _ rfl)))
theorem BiW.range3 {a b c : Int} {P : D → Sto → Prop} (hc : c ≠ 0) (hs : c.natAbs < 1073741824) (h : P (.rng a b c) σ) : BiW prog w h₀ k (.type "range") [.int a, .int b, .int c] σ P := by
  intro A s E Q vs hA O r q
  replace r := r.three
  obtain ⟨_, _, _, rfl, r1, r2, r3⟩ := r
  obtain ⟨_, rfl⟩ := r1.i
  obtain ⟨_, rfl⟩ := r2.i
  obtain ⟨_, rfl⟩ := r3.i
  exact call_range_3 hc (q _ _ _ _ _ h (O.up (push_up _)) (Grow.up (push_up _)) (.rng (Heap.get?_push_size _ rfl))) (.inl (PyProof.noPylong_small hs))
theorem BiW.int {n : Int} {P : D → Sto → Prop} (h : P (.int n) σ) : BiW prog w h₀ k (.type "int") [.int n] σ P := by
  intro A s E Q vs hA O r q
  replace r := r.single
  obtain ⟨_, rfl, r⟩ := r
  obtain ⟨_, rfl⟩ := r.i
  · exact call_int_int (q _ _ _ _ _ h O .refl (.int _ _))
theorem BiW.abs {n : Int} {P : D → Sto → Prop} (h : P (.int (if n < 0 then -n else n)) σ) : BiW prog w h₀ k (.builtin "abs") [.int n] σ P := by
  intro A s E Q vs hA O r q
  replace r := r.single
  obtain ⟨_, rfl, r⟩ := r
  obtain ⟨_, rfl⟩ := r.i
  · exact call_abs_int fun u tk => q _ _ _ _ _ h O .refl (.int _ _)
theorem BiW.lenL {a : Addr} {ds : List D} {P : D → Sto → Prop} (hm : (a, .lst ds) ∈ σ) (hl : ds.length ≤ 1000000) (h : P (.int ds.length) σ) : BiW prog w h₀ k (.builtin "len") [.ref a] σ P := by
  intro A s E Q vs hA O r q
  replace r := r.single
  obtain ⟨_, rfl, r⟩ := r
  obtain rfl := r.r
  · obtain ⟨xs, hx, rs⟩ := (O.get hm).list
    have hlen : xs.size = ds.length := rs.size
    refine len_list hx (by rw [hlen]; omega) ?_
    rw [hlen]
    exact q _ _ _ _ _ h O .refl (.int _ _)
theorem BiW.lenT {ds : List D} {P : D → Sto → Prop} (hl : ds.length ≤ 1000000) (h : P (.int ds.length) σ) : BiW prog w h₀ k (.builtin "len") [.tup ds] σ P := by
  intro A s E Q vs hA O r q
  replace r := r.single
  obtain ⟨_, rfl, r⟩ := r
  obtain ⟨a, o, xs, n, rfl, ho, hc, hd, rs⟩ := r.t
  ·   have hlen : xs.size = ds.length := rs.size
      refine len_tuple ⟨o, ho, hc, n, hd⟩ (by rw [hlen]; omega) ?_
      rw [hlen]
      exact q _ _ _ _ _ h O .refl (.int _ _)
end
end Mine
namespace Mine
section
variable {prog : Program} {w : World} {A : Around} {E : Value → Shared → Prop} {s : Shared} {a : Addr} {n : Nat} {xs : Array Value}
theorem lk_list_keys : typeLookup (.type "list") "keys" = pure Option.none := by rw [typeLookup_type, builtinLookup_eq_fast]; kernel_rfl
theorem Wd.notModules {K : Frag} {mg mb : Str → Option Value} {h₀ : Heap} (W : Wd K mg mb h₀) {h : Heap} {σ : Sto} (O : Own prog w h₀ σ h) : (h.objs.size == sysModules) = false := by
  obtain ⟨o, ho⟩ := ns_obj W.g
  have h1 : mainGlobals < h.objs.size := Heap.lt_size (O.keep _ _ ho)
  have h2 : sysModules < mainGlobals := by decide
  have h3 : sysModules < h.objs.size := Nat.lt_trans h2 h1
  simpa using Nat.ne_of_gt h3
set_option maxHeartbeats 1000000 in
theorem keys_miss {Q : Option Value → Shared → Prop} (hx : s.heap.get? a = some { cls := .type "list", data := .seq xs n }) (hA : A.handled = Option.none)
    (hq : ∀ h' tk, (∀ b o, s.heap.get? b = some o → h'.get? b = some o) → Q Option.none { s with heap := h', toks := tk }) :
    wpAny (model prog w) A (getAttr? (.ref a) "keys") Q E s := by
  obtain ⟨hp, g, d, tk, os⟩ := s
  have hT : ∀ tk', (⟨hp, g, d, tk', os⟩ : Shared).TypeIs (.ref a) "list" := fun _ => ⟨_, hx, rfl⟩
  have f1 := sub_AttributeError
  have f3 := PySem.F.slot_list_getattribute.lookup
  have f4 := PySem.F.slot_list_getattribute.bind (.ref a)
  have f5 := am_list_getattr_none
  unfold getAttr? getAttrBy? getAttrBy
  repeat (any_goals (first | assumption | exact hT _ | ((with_reducible show wpAny _ _ (call (Value.builtin "list.__getattribute__") _ _) _ _ _); refine call_meets PySem.F.slot_list_getattribute (hT _) am_entry_list_getattribute (PySem.F.args_list_getattribute_2 _ _) (meets_getattribute_miss_list a xs n #[] "keys" _ lk_list_keys (by decide +kernel) (by decide +kernel)) ⟨hx, hA, fun h' tk' e hx' => ?_⟩) | wp_step))
  obtain ⟨t', u', he⟩ := hx'.there
  show wpAny _ _ (getattributeRaised _ _ _ _ _ _ _) _ _ _
  unfold getattributeRaised
  repeat (any_goals (first | assumption | wp_step))
  exact hq _ _ hx'.keeps

variable {h₀ : Heap} {k : Nat} {σ : Sto}
theorem entry_dupl : entryFor table "dict.update.loop" = some Builtin.«dict.update.loop» := entryFor_of_tree (by kernel_rfl)
theorem plain_dupl : plainId "dict.update.loop" = true := by decide +kernel
set_option maxHeartbeats 1000000 in
theorem BiW.dictPairs1 {K : Frag} {mg mb : Str → Option Value} (W : Wd K mg mb h₀) {a : Addr} {q : List Int} {d : D} {P : D → Sto → Prop} (hm : (a, .lst [.tup [D.key q, d]]) ∈ σ) (h : ∀ b, ¬ dom σ b → P (.ref b) ((b, .dct [(q, d)]) :: σ)) : BiW prog w h₀ k (.type "dict") [.ref a] σ P := by
  intro A s E Q vs hA O r qq
  replace r := r.single
  obtain ⟨_, rfl, r⟩ := r
  obtain rfl := r.r
  refine callType_codes (Q₁ := fun obj s₁ => obj = .ref s.heap.objs.size ∧ s₁ = { s with heap := s.heap.push { cls := .type "dict", data := .dict #[] } }) PySem.F.kt_called_dict (PySem.F.kt_typeCall_dict_1 _) PySem.F.entry_dict_init (kt_code_dict_new _ ⟨rfl, rfl⟩) ?_
  rintro obj s₁ ⟨rfl, rfl⟩
  have hn0 : (s.heap.push { cls := .type "dict", data := .dict #[] }).get? s.heap.objs.size = some { cls := .type "dict", data := .dict #[] } := Heap.get?_push_size _ rfl
  have hnT : Shared.TypeIs { s with heap := s.heap.push { cls := .type "dict", data := .dict #[] } } (.ref s.heap.objs.size) "dict" := ⟨_, hn0, rfl⟩
  have O1 := O.up (push_up ({ cls := .type "dict", data := .dict #[] } : Obj))
  obtain ⟨xs, ⟨n, hl⟩, rs⟩ := O1.get hm
  refine ⟨hnT, PySem.F.args_dict_init_2 _ _, ?_⟩
  unfold Builtin.«dict.__init__»
  refine wpAny_bind ?_
  unfold Builtin.Dict.selfAndRest
  refine wpAny_bind (wpAny_notOrdered_dict hnT ?_)
  show wpAny _ _ (pure (s.heap.objs.size, [Value.ref a])) _ _ _
  refine wpAny_pure ?_
  show wpAny _ _ (Builtin.Dict.updateFrom "dict.__init__" s.heap.objs.size (.ref a) [] .none) _ _ _
  unfold Builtin.Dict.updateFrom
  refine wpAny_bind (wpAny_typeOf (T := "list") ⟨_, hl, rfl⟩ ?_)
  rw [if_pos (by decide)]
  refine wpAny_bind (keys_miss hl (by exact hA.handled) fun h2 tk2 hk2 => ?_)
  simp only [Option.isNone_none, if_true]
  refine wpAny_bind (wpAny_rule ?_)
  have up0 : ∀ b o, s.heap.get? b = some o → h2.get? b = some o := fun b o e => hk2 b o (push_up _ b o e)
  have lo : (s.heap.objs.size == sysModules) = false := W.notModules O
  have O2 : Own prog w h₀ ((s.heap.objs.size, .dct []) :: σ) h2 := (O.new (o := { cls := .type "dict", data := .dict #[] }) (mo := .dct []) ⟨lo, [], Heap.DictOfH.new _, rfl, .nil⟩).up hk2
  have hm2 : (a, MO.lst [.tup [D.key q, d]]) ∈ (s.heap.objs.size, MO.dct []) :: σ := .tail _ hm
  refine wpAny_bind (Src.list A.in1.in1 { s with heap := h2, toks := tk2 } _ _ _ _ hA.handled O2 hm2 (.ref a) fun oI St it st0 => ?_)
  refine wpAny_pure ⟨plainId_quiet plain_dupl _, codeAny_builtin entry_dupl ?_⟩
  rw [Around.under_plainId plain_dupl _]
  show wpAny _ _ (pyNext (.ref h2.objs.size) >>= _) _ _ _
  have O3 := O2.up (push_up oI)
  refine wpAny_bind (it.item A.in1.in1 _ _ _ _ 0 (.tup [D.key q, d]) hA.handled O3 hm2 st0 rfl fun v h4 tk4 rv st1 hk4 => ?_)
  have hI0 : h₀.get? h2.objs.size = Option.none := O2.gone get_size
  have hId : ¬ dom ((s.heap.objs.size, MO.dct []) :: σ) h2.objs.size := O2.fresh
  have O4 : Own prog w h₀ ((s.heap.objs.size, .dct []) :: σ) h4 := O3.kp hk4 (it.soft st0) (fun b e => e ▸ hId) fun b e => e ▸ hI0
  have up4 : ∀ b o, s.heap.get? b = some o → h4.get? b = some o := fun b o e => hk4 b o (push_up _ b o (up0 b o e)) fun hb => absurd ((up0 b o e).symm.trans (hb ▸ get_size)) (Option.some_ne_none o)
  replace rv := rv.t
  obtain ⟨t, ot, vs', n', rfl, ho, hc, hd, rr⟩ := rv
  obtain ⟨vk, vd, hvs, rk, rd⟩ := rr.two
  have hTt : Shared.TypeIs { s with heap := h4, toks := tk4 } (.ref t) "tuple" := ⟨ot, ho, hc⟩
  refine wpAny_bind (wpAny_holding (wpAny_bind (wpAny_tryCatch ?_)))
  unfold Builtin.Dict.pairItems
  refine wpAny_bind (wpAny_typeOf hTt ?_)
  rw [if_pos (by decide)]
  refine wpAny_bind ?_
  show wpAny _ _ (load t >>= _) _ _ _
  refine wpAny_bind (wpAny_load ho ?_)
  rw [hd]
  refine wpAny_pure (wpAny_pure ?_)
  show wpAny _ _ (match vs'.toList with | [k, v] => _ | l => _) _ _ _
  rw [hvs]
  obtain ⟨bk, rfl, hkey⟩ := isTupleKey_of (prog := prog) (w := w) rk
  obtain ⟨lo4, xs4, hd4, e4, r4⟩ := O4.get (List.Mem.head _)
  refine wpAny_holding (wpAny_dictSet_heap (knd := tupleKind (intKind prog w)) ?_ hkey hd4 (fun h5 hd5 hs5 => ?_) ?_)
  · exact Nat.lt_of_le_of_lt (Nat.le_add_right _ _) (hu20 hA.u)
  · obtain ⟨p1, p2⟩ := put_at e4 r4 (q := q) (a := bk) rd
    have u : Upd ((s.heap.objs.size, MO.dct []) :: σ) s.heap.objs.size (.dct []) (.dct [(q, d)]) ((s.heap.objs.size, MO.dct [(q, d)]) :: σ) := .here
    have O5 := O4.upd u hs5 ⟨lo, _, hd5, p1, p2.kp (X := fun b => b = s.heap.objs.size) (samebut_kp hs5) fun b o hb ho => O4.soft b o (by rw [hb]; exact List.Mem.head _) ho⟩
    have hne : ¬ s.heap.objs.size = h2.objs.size := fun e => hId (by rw [← e]; exact List.Mem.head _)
    have st5 := it.frame (fun b => b = s.heap.objs.size) 1 h4 h5 st1 (samebut_kp hs5) (fun b o hb ho => O4.soft b o (by rw [hb]; exact List.Mem.head _) ho) (fun e => hne e.symm)
    refine wpAny_pure ⟨plainId_quiet plain_dupl _, codeAny_builtin entry_dupl ?_⟩
    rw [Around.under_plainId plain_dupl _]
    show wpAny _ _ (pyNext (.ref h2.objs.size) >>= _) _ _ _
    refine wpAny_bind (it.done A.in1.in1 _ _ _ _ 1 hA.handled O5 (.tail _ hm) st5 rfl fun h6 tk6 hk6 => ?_)
    show wpAny _ _ (Builtin.Dict.addKeywords s.heap.objs.size [] >>= _) _ _ _
    refine wpAny_bind (wpAny_pure (wpAny_pure ⟨rfl, ?_⟩))
    have O6 := O5.kp hk6 (it.soft st5) (fun b e => e ▸ hId) fun b e => e ▸ hI0
    refine qq _ (.ref s.heap.objs.size) _ h6 tk6 (h _ O.fresh) O6 (Grow.put get_size fun b o e => ?_) (.ref _)
    have hlt := Heap.lt_size e
    exact hk6 b o (samebut_kp hs5 b o (up4 b o e) (Nat.ne_of_lt hlt)) fun hb => absurd ((up0 b o e).symm.trans (hb ▸ get_size)) (Option.some_ne_none o)
  · exact fits (Nat.zero_le _) (map_len e4)
end
end Mine
namespace Mine

section
variable {prog : Program} {w : World} {h₀ : Heap} {k : Nat} {env : Env} {ρ ρ' : Rho} {σ σ' : Sto} {A : Around} {E : Value → Shared → Prop} {s : Shared}

/-- a value whose methods are its type's -/
noncomputable def MtOk (prog : Program) (w : World) (h₀ : Heap) (d : D) (σ : Sto) (T : String) : Prop := ∀ (s : Shared) v, Own prog w h₀ σ s.heap → RV s.heap v d → s.TypeIs v T ∧ ∀ a, v = .ref a → ∃ ob, s.heap.get? a = some ob ∧ ob.dict = Option.none
theorem MtOk.lst {a : Addr} {ds : List D} (hm : (a, .lst ds) ∈ σ) : MtOk prog w h₀ (.ref a) σ "list" := fun s v O r => by
  obtain ⟨vs, ⟨n, ho⟩, _⟩ := O.get hm
  rw [r.r]
  exact ⟨⟨_, ho, rfl⟩, fun b e => Value.ref.inj e ▸ ⟨_, ho, rfl⟩⟩
theorem MtOk.dct {a : Addr} {es : List (List Int × D)} (hm : (a, .dct es) ∈ σ) : MtOk prog w h₀ (.ref a) σ "dict" := fun s v O r => by
  obtain ⟨_, _, ⟨o, _, _, ho, hc, _⟩, _⟩ := O.get hm
  rw [r.r]
  exact ⟨⟨o, ho, hc.1⟩, fun b e => Value.ref.inj e ▸ ⟨o, ho, hc.2.1⟩⟩

theorem EW.meth {o : Expr} {name : Str} {T id : String} {apos pos : Pos} {e : Expr} {es : List Expr} {P : D → Sto → Prop} (pa : PlainAttrs T) (slot : Slot T name id) (hty : typeOf (.builtin id) = Pure.pure (.type "method_descriptor"))
    (h : EW prog w h₀ k env ρ σ o fun d1 σ1 => MtOk prog w h₀ d1 σ1 T ∧ EWs prog w h₀ k env ρ σ1 (e :: es) fun ds σ2 => BiW prog w h₀ k (.builtin id) (d1 :: ds) σ2 P)
    (hs : starEach (e :: es) env = (e :: es).map fun e => (false, eval e env) := by kernel_rfl)
    (hbase : attributeBase o name env (eval o env) = eval o env := by rfl) (hline : (apos.endLine == pos.line) = true := by rfl) (hfew : decide ((e :: es).length + 0 + 0 < 30) = true := by rfl) :
    EW prog w h₀ k env ρ σ (.Call (.Attribute o name apos) (e :: es) [] pos) P := by
  intro A s E Q hA O L hH q
  have hb := splice_eq (env := env) (pos := pos) hs
  refine wpAny_Call_method_late (trees := (e :: es).map fun e => (false, eval e env)) hbase ?_ hline hb (h A s E _ hA O L held0 fun v1 d1 σ1 h1 tk1 hP O1 g1 r1 => ?_)
  · rw [hb]
    have : (((e :: es).map fun e => (false, eval e env)).all fun x => !x.1) = true := by simp
    rw [this, show backToKw pos (keywordEach [] env) = [] from rfl]
    exact hfew
  obtain ⟨hmt, hP⟩ := hP
  obtain ⟨hT, hd⟩ := hmt { s with heap := h1, toks := tk1 } v1 O1 r1
  refine ⟨T, id, pa, slot, hty, hT, hd, ?_⟩
  have hplain : (((e :: es).map fun e => (false, eval e env)).any (·.1)) = false := by simp
  rw [List.map_cons] at hplain ⊢
  refine Calls.callWith_builtin hplain (Calls.evalArgs_plain ?_)
  have := hP [] A { s with heap := h1, toks := tk1 } E (fun vs s' => wpAny (model prog w) A (PySem.call (.builtin id) ([v1] ++ vs) []) Q E s') hA O1 (L.grow O g1) held0 fun vs ds σ2 h2 tk2 hP2 O2 g2 r2 => by
   show wpAny _ _ (PySem.call (.builtin id) (v1 :: vs) []) _ _ _
   exact hP2 A { s with heap := h2, toks := tk2 } E Q (v1 :: vs) hA O2 (.cons (r1.grow O1 g2) r2) fun v d σ' h' tk hP3 O3 g3 r3 => q v d σ' h' tk hP3 O3 (g1.trans (g2.trans g3)) r3
  rwa [List.map_cons] at this

theorem BiW.get1 {a : Addr} {es : List (List Int × D)} {q : List Int} {P : D → Sto → Prop} (hm : (a, .dct es) ∈ σ) (h : P ((look es q).getD .none) σ) : BiW prog w h₀ k (.builtin "dict.get") [.ref a, D.key q] σ P := by
  intro A s E Q vs hA O r f
  replace r := r.two
  obtain ⟨u, v, rfl, ru, rv⟩ := r
  obtain rfl := ru.r
  obtain ⟨b, rfl, hk⟩ := isTupleKey_of (prog := prog) (w := w) rv
  obtain ⟨lo, xs, hd, e1, rr⟩ := O.get hm
  refine call_meetsIn PySem.F.slot_dict_get hd.typeIs PySem.F.entry_dict_get (PySem.F.args_dict_get_2 _ _) (meetsH_dict_get _ a b lo) ⟨hA.room, q, xs, hk, hd, ?_⟩
  rcases look_at e1 rr q with ⟨y1, y2⟩ | ⟨p, d', y1, y2, rd⟩ <;> rw [y1] <;> rw [y2] at h
  · exact f _ _ _ _ _ h O .refl .none
  · exact f _ _ _ _ _ h O .refl rd
theorem BiW.get2 {a : Addr} {es : List (List Int × D)} {q : List Int} {dflt : D} {P : D → Sto → Prop} (hm : (a, .dct es) ∈ σ) (h : P ((look es q).getD dflt) σ) : BiW prog w h₀ k (.builtin "dict.get") [.ref a, D.key q, dflt] σ P := by
  intro A s E Q vs hA O r f
  replace r := r.three
  obtain ⟨u, v, t, rfl, ru, rv, rt⟩ := r
  obtain rfl := ru.r
  obtain ⟨b, rfl, hk⟩ := isTupleKey_of (prog := prog) (w := w) rv
  obtain ⟨lo, xs, hd, e1, rr⟩ := O.get hm
  refine call_meetsIn PySem.F.slot_dict_get hd.typeIs PySem.F.entry_dict_get (PySem.F.args_dict_get_3 _ _ _) (meetsH_dict_get_default _ a b lo t) ⟨hA.room, q, xs, hk, hd, ?_⟩
  rcases look_at e1 rr q with ⟨y1, y2⟩ | ⟨p, d', y1, y2, rd⟩ <;> rw [y1] <;> rw [y2] at h
  · exact f _ _ _ _ _ h O .refl rt
  · exact f _ _ _ _ _ h O .refl rd
theorem BiW.append {a : Addr} {ds : List D} {d : D} {σ' : Sto} {P : D → Sto → Prop} (u : Upd σ a (.lst ds) (.lst (ds ++ [d])) σ') (hl : ds.length ≤ 1000000) (h : P .none σ') : BiW prog w h₀ k (.builtin "list.append") [.ref a, d] σ P := by
  intro A s E Q vs hA O r f
  replace r := r.two
  obtain ⟨x, v, rfl, rx, rv⟩ := r
  obtain rfl := rx.r
  obtain ⟨xs, ⟨n, ho⟩, rs⟩ := O.get u.mem
  have hlen : xs.size = ds.length := rs.size
  refine wpAny_call_entry PySem.F.slot_list_append ⟨_, ho, rfl⟩ PySem.F.entry_list_append ?_ (PySem.F.args_list_append_2 _ _)
  show wpAny _ _ (updateSeq a (·.push v) >>= fun _ => ret .none) _ _ s
  refine wpAny_bind (wpAny_updateSeq ho rfl (wpAny_pure ⟨.none, rfl, ?_⟩) (fits hl hlen) (by rw [Array.size_push, hlen]; exact Nat.le_trans (Nat.succ_le_succ hl) (Nat.le_of_ble_eq_true rfl)))
  obtain ⟨c, hc⟩ : ∃ c, (s.heap.update a (Obj.mapSeq (·.push v))).get? a = some (seqObj "list" (xs.push v) c) := ⟨_, get?_update_seq ho (·.push v)⟩
  have hs := Heap.SameBut.update s.heap a (Obj.mapSeq (·.push v))
  have soft : Soft (fun b => b = a) s.heap := fun b o hb ho' => O.soft b o (hb ▸ List.mem_map_of_mem (f := (·.1)) u.mem) ho'
  refine f _ _ σ' _ _ h (O.upd u hs ⟨_, ⟨c, hc⟩, ?_⟩) (Grow.upd u hs) .none
  rw [Array.toList_push]
  exact (rs.kp (samebut_kp hs) soft).append (.one (rv.kp (samebut_kp hs) soft))

/-! `{}` and `{9: [..]}` -/
theorem EW.dict0 {K : Frag} {mg mb : Str → Option Value} (W : Wd K mg mb h₀) {pos : Pos} {P : D → Sto → Prop} (h : ∀ a, ¬ dom σ a → P (.ref a) ((a, .dct []) :: σ)) : EW prog w h₀ k env ρ σ (.Dict [] [] pos) P := by
  intro A s E Q hA O L hH q
  exact wpAny_Dict_empty (q _ _ _ _ _ (h _ O.fresh) (O.new (o := { cls := .type "dict", data := .dict #[] }) (mo := .dct []) ⟨W.notModules O, [], Heap.DictOfH.new _, rfl, .nil⟩) Grow.one (.ref _))

/-! list + list -/
theorem OpW.addL {a b : Addr} {ds es : List D} {P : D → Sto → Prop} (ha : (a, .lst ds) ∈ σ) (hb : (b, .lst es) ∈ σ) (hl : ds.length + es.length ≤ 1000000) (h : ∀ c, ¬ dom σ c → P (.ref c) ((c, .lst (ds ++ es)) :: σ)) :
    OpW prog w h₀ k env ρ σ (binaryOp .Add) (.ref a) (.ref b) P := by
  intro v1 v2 A s E Q hA O L hH q
  have h2 : v2 = .ref b := RV.r (hH (v2, .ref b) (.head _))
  have h1 : v1 = .ref a := RV.r (hH (v1, .ref a) (.tail _ (.head _)))
  clear hH
  subst h1 h2
  obtain ⟨xs, ⟨n, ho⟩, rs⟩ := O.get ha
  obtain ⟨ys, ⟨m, hp⟩, rt⟩ := O.get hb
  refine concat_meets (T := "list") ⟨_, ho, rfl⟩ ⟨_, hp, rfl⟩ noFill_list_add seq_list_add PySem.F.slot_list_add PySem.F.entry_list_add (PySem.F.args_list_add_2 _ _) (list_addW a b xs ys n m Option.none Option.none #[] #[] (fits hl (by rw [rs.size, rt.size]))) ⟨ho, hp, ?_⟩
  refine q _ _ _ _ _ (h _ O.fresh) (O.put (D := s.heap.objs.size) (mo := .lst (ds ++ es)) get_size (push_up _) ⟨_, ⟨0, Heap.get?_push_size _ rfl⟩, ?_⟩) (Grow.put get_size (push_up _)) (.ref _)
  rw [Array.toList_append]
  exact (rs.append rt).up (push_up _)

/-! tuples of ints, in order -/
noncomputable def ltInts (as bs : List Int) : Bool :=
  List.rec (motive := fun _ => List Int → Bool) (fun bs => List.casesOn bs false fun _ _ => true) (fun a _ ih bs => List.casesOn bs false fun b t => if a = b then ih t else decide (a < b)) as bs

/-! SORTS.index -/
theorem args_tuple_index_2 (a b : Value) : argsOk "tuple.index" ⟨[a, b], []⟩ := by
  unfold argsOk; rw [signature?_of (id := "tuple.index") (n := ['x', 'e', 'd', 'n', 'i']) (o := ['e', 'l', 'p', 'u', 't']) (by kernel_rfl) PySem.F.owner_tuple]; kernel_rfl
theorem BiW.index4 {a b c d x : Str} {i : Int} {P : D → Sto → Prop} (hi : (x = a ∧ i = 0) ∨ (x ≠ a ∧ x = b ∧ i = 1)) (h : P (.int i) σ) : BiW prog w h₀ k (.builtin "tuple.index") [.tup [.str a, .str b, .str c, .str d], .str x] σ P := by
  intro A s E Q vs hA O r f
  replace r := r.two
  obtain ⟨u, v, rfl, ru, rv⟩ := r
  obtain ⟨tx, rfl⟩ := rv.s
  replace ru := ru.t
  obtain ⟨t, o, xs, n, rfl, ho, hc, hd, rr⟩ := ru
  have hsz : xs.size = 4 := rr.size
  obtain ⟨v1, e1, q1⟩ := rr.get (i := 0) rfl
  obtain ⟨v2, e2, q2⟩ := rr.get (i := 1) rfl
  obtain ⟨t1, rfl⟩ := q1.s
  obtain ⟨t2, rfl⟩ := q2.s
  have ht : IsTup s.heap t xs := ⟨o, ho, hc, n, hd⟩
  refine wpAny_call_entry PySem.F.slot_tuple_index ht.typeIs PySem.F.entry_tuple_index ?_ (args_tuple_index_2 _ _)
  unfold Builtin.«tuple.index»
  refine wpAny_bind (m := selfAndSome "tuple.index" "index" 1 3 _) (wpAny_pure ?_)
  dsimp only
  refine wpAny_bind (tupleItemsOf_ ht (wpAny_bind (wpAny_pure (wpAny_bind (wpAny_pure (wpAny_bind ?_))))))
  rw [Std.Legacy.Range.forIn_eq_forIn_range', hsz]
  show wpAny _ _ (forIn [0, 1, 2, 3] _ _) _ _ _
  have e0 : xs[0]? = some (.str a t1) := Array.getElem?_toList.symm.trans e1
  have e1 : xs[1]? = some (.str b t2) := Array.getElem?_toList.symm.trans e2
  rw [List.forIn_cons]
  refine wpAny_bind ?_
  rw [e0]
  refine wpAny_bind (eqBool_str ?_)
  rcases hi with ⟨rfl, rfl⟩ | ⟨hx, rfl, rfl⟩
  · rw [if_pos (by simp)]
    refine wpAny_bind (wpAny_bind (wpAny_mkInt (wpAny_pure (wpAny_pure (wpAny_pure (wpAny_pure ?_))))))
    exact ⟨_, rfl, f _ _ _ _ _ h O .refl (.int _ _)⟩
  · rw [if_neg (by simpa using Ne.symm hx)]
    refine wpAny_pure ?_
    dsimp only
    rw [List.forIn_cons]
    refine wpAny_bind ?_
    rw [e1]
    refine wpAny_bind (eqBool_str ?_)
    rw [if_pos (by simp)]
    refine wpAny_bind (wpAny_bind (wpAny_mkInt (wpAny_pure (wpAny_pure (wpAny_pure (wpAny_pure ?_))))))
    exact ⟨_, rfl, f _ _ _ _ _ h O .refl (.int _ _)⟩
end
end Mine
namespace Mine

section
variable {prog : Program} {w : World} {h₀ : Heap} {k : Nat} {env : Env} {ρ ρ' : Rho} {σ σ' : Sto} {A : Around} {E : Value → Shared → Prop} {s : Shared} {N C : Rho → Sto → Prop} {Rt : D → Sto → Prop}

noncomputable def tupleCompareSizes' (m n : Nat) : Bool := decide (m < n)
theorem ltLoop {R : Option PySem.Fin × Unit → Shared → Prop} {body : Value × Value → Option PySem.Fin × Unit → Sem (ForInStep (Option PySem.Fin × Unit))}
    (hb : ∀ (i j : Int) (t u : Tok) (s : Shared) (R' : ForInStep (Option PySem.Fin × Unit) → Shared → Prop), (i = j → R' (.yield (Option.none, ())) s) → (i ≠ j → ∀ tk, R' (.done (some (.done (.ret (.bool (decide (i < j))))), ())) { s with toks := tk }) →
      wpAny (model prog w) A (body (.int i t, .int j u) (Option.none, ())) R' E s) {h : Heap} :
    ∀ (as bs : List Int) (us vs : List Value) (s : Shared), RVs h us (as.map .int) → RVs h vs (bs.map .int) → as.length = bs.length → (ltInts as bs = false → R (Option.none, ()) s) → (∀ tk, R (some (.done (.ret (.bool (ltInts as bs)))), ()) { s with toks := tk }) →
      wpAny (model prog w) A (forIn (us.zip vs) (Option.none, ()) body) R E s := by
  intro as
  induction as with
  | nil =>
    intro bs us vs s r1 r2 hl h1 _
    obtain rfl := List.length_eq_zero_iff.mp hl.symm
    rw [r1.nl]
    exact wpAny_pure (h1 rfl)
  | cons a as ih =>
    intro bs us vs s r1 r2 hl h1 h2
    replace hl := len_cs hl.symm
    obtain ⟨b, bs, rfl, hl⟩ := hl
    replace r1 := r1.cs
    replace r2 := r2.cs
    obtain ⟨u, us, rfl, ra, r1⟩ := r1
    obtain ⟨v, vs, rfl, rb, r2⟩ := r2
    obtain ⟨t, rfl⟩ := ra.i
    obtain ⟨t', rfl⟩ := rb.i
    rw [List.zip_cons_cons, List.forIn_cons]
    refine wpAny_bind (hb a b _ _ s _ (fun e => ?_) fun e tk => ?_)
    · have e' : ltInts (a :: as) (b :: bs) = ltInts as bs := if_pos e
      rw [e'] at h1 h2
      exact ih bs _ _ s r1 r2 hl.symm h1 h2
    · have e' : ltInts (a :: as) (b :: bs) = decide (a < b) := if_neg e
      rw [e'] at h2
      exact wpAny_pure (h2 tk)
theorem OpW.ltT {as bs : List Int} {P : D → Sto → Prop} (hl : as.length = bs.length) (h : P (.bool (ltInts as bs)) σ) : OpW prog w h₀ k env ρ σ (compareOp .Lt) (D.key as) (D.key bs) P := OpW.mk _ (fun A s E Q v1 v2 hA O r1 r2 f => by
  replace r1 := RV.t (ds := as.map .int) r1
  replace r2 := RV.t (ds := bs.map .int) r2
  obtain ⟨a1, o1, xs1, n1, rfl, ho1, hc1, hd1, rr1⟩ := r1
  obtain ⟨a2, o2, xs2, n2, rfl, ho2, hc2, hd2, rr2⟩ := r2
  have ht1 : IsTup s.heap a1 xs1 := ⟨o1, ho1, hc1, n1, hd1⟩
  have ht2 : IsTup s.heap a2 xs2 := ⟨o2, ho2, hc2, n2, hd2⟩
  have l1 : xs1.size = as.length := rr1.size.trans (List.length_map _)
  have l2 : xs2.size = bs.length := rr2.size.trans (List.length_map _)
  show wpAny _ _ (richCompare .Lt (.ref a1) (.ref a2)) _ _ _
  refine wpAny_richCompare_same_room (op := .Lt) ht1.typeIs ht2.typeIs PySem.F.slot_tuple_lt (wpAny_call_entry PySem.F.slot_tuple_lt ht1.typeIs PySem.F.entry_tuple_lt ?_ (PySem.F.args_tuple_lt_2 _ _)) (Nat.lt_of_le_of_lt (Nat.le_add_right _ _) hA.u)
  show wpAny _ _ (isInstance (.ref a2) (.type "tuple") >>= _) _ _ s
  refine wpAny_bind (wpAny_isInstance ht2.typeIs isSubtype_tuple_tuple ?_)
  simp only [Bool.not_true, Bool.false_eq_true, if_false]
  refine wpAny_bind (tupleItemsOf_ ht1 (wpAny_bind (tupleItemsOf_ ht2 (wpAny_bind ?_))))
  refine ltLoop ?_ as bs _ _ s rr1 rr2 hl (fun hf => ?_) fun tk => ?_
  · intro i j t u s' R' h1 h2
    refine wpAny_bind (wpAny_eqBool_int ?_)
    by_cases hij : i = j
    · rw [show (i == j) = true from beq_iff_eq.mpr hij]
      exact wpAny_pure (h1 hij)
    · rw [show (i == j) = false from beq_eq_false_iff_ne.mpr hij]
      refine wpAny_bind (wpAny_rule (wpAny_bind ?_))
      show wpAny _ _ (compareOp .Lt (.int i t) (.int j u)) _ _ _
      exact lt_int (wpAny_bind (wpAny_pure (wpAny_pure (h2 hij _))))
  · refine wpAny_pure ⟨_, rfl, (fun e => nomatch e), ?_⟩
    have e : tupleCompareSizes' xs1.size xs2.size = ltInts as bs := by rw [hf, l1, l2, hl]; exact decide_eq_false (Nat.lt_irrefl _)
    have := f (.bool (ltInts as bs)) s.toks (.bool _)
    rw [← e] at this
    exact this
  · exact wpAny_pure ⟨_, rfl, (fun e => nomatch e), f _ _ (.bool _)⟩) h

/-! `{9: [..]}` -/
theorem EW.dict1 {K : Frag} {mg mb : Str → Option Value} (W : Wd K mg mb h₀) {i : Int} {n : Nat} {kp pos : Pos} {v : Expr} {P : D → Sto → Prop}
    (h : EW prog w h₀ k env ρ σ v fun d σ1 => ∀ a, ¬ dom σ1 a → P (.ref a) ((a, .dci [(i, d)]) :: σ1)) : EW prog w h₀ k env ρ σ (.Dict [some (.Constant (.int i) n kp)] [v] pos) P := by
  intro A s E Q hA O L hH q
  have lo := W.notModules O
  refine wpAny_Dict_pairs (knd := intKind prog w) (pairs := [(eval (.Constant (.int i) n kp) env, eval v env >>= fun x => standAt pos >>= fun _ => Pure.pure x)]) rfl (by simp) (by show 1 ≤ 15; decide) ?_
  refine evalPairs_cons (wpAny_Constant_int (wpAny_bind ?_))
  have O1 := O.up (push_up ({ cls := .type "dict", data := .dict #[] } : Obj))
  have g0 : Grow σ s.heap σ (s.heap.push { cls := .type "dict", data := .dict #[] }) := Grow.up (push_up _)
  have hD : (s.heap.push { cls := .type "dict", data := .dict #[] }).DictOf (intKind prog w) s.heap.objs.size [] := Heap.DictOf.new s.heap
  refine h A { s with heap := s.heap.push { cls := .type "dict", data := .dict #[] }, toks := _ } E _ hA O1 (L.grow O g0) held0 fun vv d σ1 h1 tk1 hP O2 g1 r1 => wpAny_bind (wpAny_standAt (wpAny_pure (evalPairs_nil ?_)))
  obtain ⟨oD, esD, epD, hoD, hcD, hrest⟩ := id hD
  have hoD1 := g1.keep _ _ hoD O.fresh
  have hD1 : h1.DictOf (intKind prog w) s.heap.objs.size [] := ⟨oD, esD, epD, hoD1, hcD, hrest⟩
  have hnd : ¬ dom σ1 s.heap.objs.size := fun hd => by
    exact (g1.new _ hd).elim O.fresh fun hx => absurd (hoD.symm.trans hx) (Option.some_ne_none oD)
  refine ⟨[(i, vv)], ⟨intKind_is prog w i _, rfl, trivial⟩, hD1, fun h' hd' hs' => ?_⟩
  have hsoft : Soft (fun b => b = s.heap.objs.size) h1 := fun b o hb ho => Option.some.inj (hoD1.symm.trans (hb ▸ ho)) ▸ .cls hcD.1 (by decide) (by decide)
  have h00 : h₀.get? s.heap.objs.size = Option.none := O.gone get_size
  have O3 : Own prog w h₀ σ1 h' := O2.kp (samebut_kp hs') hsoft (fun b e => e ▸ hnd) fun b e => e ▸ h00
  have O4 : Own prog w h₀ ((s.heap.objs.size, .dci [(i, d)]) :: σ1) h' := {
    keep := O3.keep
    objs := fun p hp => by
      rcases List.mem_cons.mp hp with rfl | hp
      · exact ⟨lo, [(i, vv)], hd', rfl, .one (r1.kp (samebut_kp hs') hsoft)⟩
      · exact O3.objs p hp
    nodup := List.nodup_cons.mpr ⟨hnd, O3.nodup⟩
    off := fun p hp => by
      rcases List.mem_cons.mp hp with rfl | hp
      · exact h00
      · exact O3.off p hp }
  refine q _ (.ref s.heap.objs.size) _ h' _ (hP _ hnd) O4 ⟨fun b o e hb => ?_, fun b hb => ?_⟩ (.ref _)
  · exact samebut_kp hs' b o (g1.keep b o (push_up _ b o e) hb) (Nat.ne_of_lt (Heap.lt_size e))
  · rcases List.mem_cons.mp hb with rfl | hb
    · exact .inr get_size
    · exact (g1.new b hb).imp id (gone_of (push_up _ b))

noncomputable def lookI (es : List (Int × D)) (i : Int) : Option D := (es.find? fun e => decide (e.1 = i)).map (·.2)
theorem valueAt_one {i j : Int} {v : Value} : valueAt [(i, v)] j = if i = j then some v else Option.none := by
  unfold valueAt
  by_cases h : i = j <;> simp [h]
theorem one_of {xs : List (Int × Value)} {i : Int} {d : D} (e : xs.map (·.1) = [((i, d) : Int × D)].map (·.1)) : ∃ v, xs = [(i, v)] := by
  cases xs with
  | nil => exact absurd e.symm (List.cons_ne_nil _ _)
  | cons p t =>
    cases t with
    | nil =>
      obtain ⟨j, v⟩ := p
      exact ⟨v, by rw [show j = i from (List.cons.inj e).1]⟩
    | cons _ _ => exact absurd (List.cons.inj e).2 (List.cons_ne_nil _ _)
theorem OpW.notinI {a : Addr} {i j : Int} {d : D} {P : D → Sto → Prop} (hm : (a, .dci [(i, d)]) ∈ σ) (h : P (.bool (!decide (i = j))) σ) : OpW prog w h₀ k env ρ σ (compareOp .NotIn) (.int j) (.ref a) P := OpW.mk _ (fun A s E Q v1 v2 hA O r1 r2 f => by
  obtain ⟨t, rfl⟩ := r1.i
  obtain rfl := r2.r
  obtain ⟨lo, xs, hd, e1, r⟩ := O.get hm
  refine wpAny_notIn_of (intKind_is prog w j _) lo hd.mapOf ?_
  obtain ⟨v, rfl⟩ := one_of e1
  rw [valueAt_one]
  by_cases hij : i = j
  · rw [if_pos hij]; rw [decide_eq_true hij] at f; exact f _ _ (.bool _)
  · rw [if_neg hij]; rw [decide_eq_false hij] at f; exact f _ _ (.bool _)) h
theorem SubW.dci {value slice : Expr} {a : Addr} {i : Int} {d : D} {P : D → Sto → Prop} (hm : (a, .dci [(i, d)]) ∈ σ) (h : P d σ) (hs : NoSlice slice := by intro _ _; rfl) :
    SubW prog w h₀ k env ρ σ value slice (.ref a) (.int i) P := OpW.mk d (fun A s E Q v1 v2 hA O r1 r2 f => by
  obtain rfl := r1.r
  obtain ⟨t, rfl⟩ := r2.i
  obtain ⟨lo, xs, hd, e1, r⟩ := O.get hm
  obtain ⟨v, rfl⟩ := one_of e1
  obtain ⟨v', e, rv⟩ := r.single
  obtain rfl : v = v' := (List.cons.inj e).1
  exact tail_any hd.typeIs slot_dict_getitem.lookup (wpAny_getItem_of (intKind_is prog w i _) hd.mapOf (by rw [valueAt_one, if_pos rfl]) (f _ _ rv)) (hs _ _)) h

/-- x, y = a, b with the stores swapped -/
theorem XW.assignSwap {xs : List Expr} {n : Nat} {px pos : Pos} {e : Expr} {x1 x2 : Str} (h : EW prog w h₀ k env ρ σ e fun d σ' => ∃ d1 d2, d = .tup [d1, d2] ∧ BW prog w h₀ k env ρ σ' x2 d2 fun ρ1 σ1 => BW prog w h₀ k env ρ1 σ1 x1 d1 N)
    (hs : swapsWithSole [.Tuple xs n px] e pos.line env = Pure.pure false := by rfl)
    (hw : swappedStores [.Tuple xs n px] e env = Pure.pure (some [x1, x2]) := by rfl) : XW prog w h₀ k env ρ σ (.Assign [.Tuple xs n px] e pos) N C Rt := fun A s E Q hA O L q => by
  refine Assign_Tuple_swapped (names := [x1, x2]) (h A s E _ hA O L held0 fun v d σ' h' tk hP O' g r => ?_) hs hw
  obtain ⟨d1, d2, rfl, hP⟩ := hP
  replace r := r.t
  obtain ⟨a, o, vs, n', rfl, ho, hc, hd, rr⟩ := r
  obtain ⟨u1, u2, hvs, ru1, ru2⟩ := rr.two
  have hsz : vs.size = 2 := rr.size
  have ht : IsTup h' a vs := ⟨o, ho, hc, n', hd⟩
  have hun := unpackItems_tuple (prog := prog) (w := w) (A := A) (E := E) (s := { s with heap := h', toks := tk }) (t := a) (items := vs) (Q := fun items s₂ => wpAny (model prog w) A (assignInOrder ([x1, x2].reverse.map fun n => bindName env n) items.reverse) (fun _ => Q .next) E s₂) hA.handled ht fun h2 he => ?_
  · rw [hsz] at hun; exact hun
  have up : ∀ b o', h'.get? b = some o' → h2.get? b = some o' := fun b o' e' => he b o' (Nat.ne_of_lt (Heap.lt_size e')) e'
  rw [hvs]
  show wpAny _ _ (assignInOrder [bindName env x2, bindName env x1] [u2, u1]) _ _ _
  have O2 := O'.up up
  have L2 : Loc h₀ env ρ σ' h2 := (L.grow O g).grow O' (Grow.up up)
  refine assignInOrder_cons ?_
  unfold bindName
  refine wpAny_bind (wpAny_holding (wpAny_point (wpAny_bind ?_)))
  refine hP A { s with heap := h2, toks := tk } E _ u2 hA O2 L2 (ru2.up up) fun ρ3 σ3 h3 tk3 hP3 O3 L3 g3 => wpAny_point ?_
  refine assignInOrder_cons ?_
  refine wpAny_bind (wpAny_holding (wpAny_point (wpAny_bind ?_)))
  refine hP3 A { s with heap := h3, toks := tk3 } E _ u1 hA O3 L3 ((ru1.up up).growS O2 L2 g3) fun ρ4 σ4 h4 tk4 hN O4 L4 g4 => wpAny_point ?_
  show wpAny _ _ (assignInOrder [] []) _ _ _
  refine wpAny_pure (q .next σ4 h4 tk4 ⟨ρ4, hN, L4⟩ O4 ?_)
  exact (g.trans (Grow.up up)).s.trans L2 (g3.trans L3 g4)
end
end Mine
namespace Mine

section
variable {prog : Program} {w : World} {h₀ : Heap} {k : Nat} {env : Env} {ρ ρ' : Rho} {σ σ' : Sto}

noncomputable def isFnIn (K : Frag) (f : Addr) : Bool := match K.lookup f with
  | some ⟨_, _, .func _, _⟩ => true
  | _ => false
theorem isFnIn_get {K : Frag} {f : Addr} (h : isFnIn K f = true) : ∃ fo fd, K.lookup f = some fo ∧ fo.data = .func fd := by
  unfold isFnIn at h
  split at h
  · rename_i a b fd c e; exact ⟨_, fd, e, rfl⟩
  · cases h
theorem EW.callF {K : Frag} {mg mb : Str → Option Value} (W : Wd K mg mb h₀) (f : Addr) {x : Str} {px pos : Pos} {e : Expr} {es : List Expr} {P : D → Sto → Prop}
    (hk : env.kindOf x = some .globalImplicit) (hn : nsIn K mainGlobals x = some (some (.ref f))) (hf : isFnIn K f = true)
    (h : EWs prog w h₀ k env ρ σ (e :: es) fun ds σ1 => FnW prog w h₀ k f ds σ1 P)
    (hs : starEach (e :: es) env = (e :: es).map fun e => (false, eval e env) := by kernel_rfl) (hdb : (x == ("__debug__" : Str)) = false := by decide +kernel) : EW prog w h₀ k env ρ σ (.Call (.Name x px) (e :: es) [] pos) P :=
  let ⟨fo, fd, ho, hd⟩ := isFnIn_get hf
  EW.call W hk hn ho hd h hs hdb

theorem FnW.go {K : Frag} {mg mb : Str → Option Value} (W : Wd K mg mb h₀) {f : Addr} {fo : Obj} {fd : FuncData} {scope : Scope} {names : List Str} {ds : List D} {body : List Stmt} {P : D → Sto → Prop}
    (ho : K.lookup f = some fo) (hd : fo.data = .func fd) (hbody : fd.body = .stmts body) (hsc : fd.scope = scope) (hg : fd.globals = mainGlobals) (hb : fd.builtins = builtinsNs) (hc : fd.closure = []) (hcd : codeIn K fd.code fd.qualname = true)
    (hco : scope.isCoroutine = false) (hgen : scope.isGenerator = false) (hk : scope.kind = .function) (hpar : ParOk fd names) (hlen : names.length = ds.length) (hnd : names.Nodup)
    (hkind : (names.all fun y => scope.names.lookup y == some .local || scope.names.lookup y == some .cell) = true) {ρ0 : Rho} (hρ : names.zip ds = ρ0)
    (h : ∀ L cl q fn cd fr, (∀ x, scope.names.lookup x = some .cell → (cl.lookup x).isSome = true) → SW prog w h₀ k (mkEnv scope L cl q (some fn) cd fr) ρ0 σ body (fun _ σ' => P .none σ') (fun _ _ => False) P) :
    FnW prog w h₀ (k + 1) f ds σ P := by
  subst hsc hρ
  exact FnW.intro W ho hd hg hb hc hbody hcd hco hgen hk hpar hlen hnd hkind h
theorem par1 {fd : FuncData} {x : Str} (h : ∀ a : Value, bindArgs fd ⟨[a], []⟩ = pure [(x, a)]) : ParOk fd [x] := fun vs hl => by
  obtain ⟨a, v0, rfl, h0⟩ := len_cs hl
  obtain rfl := List.length_eq_zero_iff.mp h0
  exact h a
theorem par2 {fd : FuncData} {x y : Str} (h : ∀ a b : Value, bindArgs fd ⟨[a, b], []⟩ = pure [(x, a), (y, b)]) : ParOk fd [x, y] := fun vs hl => by
  obtain ⟨a, v0, rfl, h0⟩ := len_cs hl
  obtain ⟨b, v1, rfl, h1⟩ := len_cs h0
  obtain rfl := List.length_eq_zero_iff.mp h1
  exact h a b
theorem par3 {fd : FuncData} {x y z : Str} (h : ∀ a b c : Value, bindArgs fd ⟨[a, b, c], []⟩ = pure [(x, a), (y, b), (z, c)]) : ParOk fd [x, y, z] := fun vs hl => by
  obtain ⟨a, v0, rfl, h0⟩ := len_cs hl
  obtain ⟨b, v1, rfl, h1⟩ := len_cs h0
  obtain ⟨c, v2, rfl, h2⟩ := len_cs h1
  obtain rfl := List.length_eq_zero_iff.mp h2
  exact h a b c
theorem par4 {fd : FuncData} {x y z t : Str} (h : ∀ a b c d : Value, bindArgs fd ⟨[a, b, c, d], []⟩ = pure [(x, a), (y, b), (z, c), (t, d)]) : ParOk fd [x, y, z, t] := fun vs hl => by
  obtain ⟨a, v0, rfl, h0⟩ := len_cs hl
  obtain ⟨b, v1, rfl, h1⟩ := len_cs h0
  obtain ⟨c, v2, rfl, h2⟩ := len_cs h1
  obtain ⟨d, v3, rfl, h3⟩ := len_cs h2
  obtain rfl := List.length_eq_zero_iff.mp h3
  exact h a b c d
theorem par5 {fd : FuncData} {x y z t u : Str} (h : ∀ a b c d e : Value, bindArgs fd ⟨[a, b, c, d, e], []⟩ = pure [(x, a), (y, b), (z, c), (t, d), (u, e)]) : ParOk fd [x, y, z, t, u] := fun vs hl => by
  obtain ⟨a, v0, rfl, h0⟩ := len_cs hl
  obtain ⟨b, v1, rfl, h1⟩ := len_cs h0
  obtain ⟨c, v2, rfl, h2⟩ := len_cs h1
  obtain ⟨d, v3, rfl, h3⟩ := len_cs h2
  obtain ⟨e, v4, rfl, h4⟩ := len_cs h3
  obtain rfl := List.length_eq_zero_iff.mp h4
  exact h a b c d e


/-- a name further down -/
theorem Has.dp {x : Str} {d : D} (n : Nat) : ∀ {ρ : Rho}, ((ρ.take n).all fun p => decide (p.1 ≠ x)) = true → Has (ρ.drop n) x d → Has ρ x d := by
  induction n with
  | zero => exact fun _ h => h
  | succ n ih =>
    intro ρ hc h
    cases ρ with
    | nil => exact h.nl.elim
    | cons p ρ => exact let hc := (Bool.and_eq_true ..).mp hc; .there (of_decide_eq_true hc.1) (ih hc.2 h)
theorem hasAll_nil {ρ : Rho} : ∀ y d, Has [] y d → Has ρ y d := fun _ _ h => h.nl.elim
theorem hasAll_cons {ρ r : Rho} {x : Str} {e : D} (h1 : Has ρ x e) (h2 : ∀ y d, Has r y d → Has ρ y d) : ∀ y d, Has ((x, e) :: r) y d → Has ρ y d :=
  fun y d h => h.cs.elim (fun h => h.1 ▸ h.2 ▸ h1) fun h => h2 y d h.2
theorem fnt : ¬ (false = true) := by decide
theorem tnf : ¬ (true = false) := by decide
/-- owned objects let go -/
theorem Own.sub {h : Heap} (O : Own prog w h₀ σ h) (hs : σ'.Sublist σ) : Own prog w h₀ σ' h where
  keep := O.keep
  objs := fun p hp => O.objs p (hs.subset hp)
  nodup := O.nodup.sublist (hs.map _)
  off := fun p hp => O.off p (hs.subset hp)
theorem dom_sub (hs : σ'.Sublist σ) {b : Addr} (hb : dom σ' b) : dom σ b := (hs.map (·.1)).subset hb
theorem FnW.drop {f : Addr} {ds : List D} {P : D → Sto → Prop} (x : FnW prog w h₀ k f ds σ fun d σ1 => ∃ σ2, σ2.Sublist σ1 ∧ P d σ2) : FnW prog w h₀ k f ds σ P := fun A s E Q vs hA O r q =>
  x A s E Q vs hA O r fun v d σ1 h' tk ⟨σ2, hs, hP⟩ O' g r' => q v d σ2 h' tk hP (O'.sub hs) ⟨g.keep, fun b hb => g.new b (dom_sub hs hb)⟩ r'
end

noncomputable abbrev KH (P : Params) : Frag := Mine.hd.heap_39 P

section
variable {P : Params} {mg mb : Str → Option Value} {prog : Program} {w : World} {h₀ : Heap} {k : Nat} {σ : Sto}

noncomputable def maskI (l b : Int) : Int := ((1 : Int) * 2 ^ l.toNat - 1) * 2 ^ (b - l).toNat
theorem c_mask (W : Wd (KH P) mg mb h₀) {l b : Int} {Q : D → Sto → Prop} (h0 : 0 ≤ l) (h1 : l ≤ b) (h2 : b ≤ 20) (h : Q (.int (maskI l b)) σ) : FnW prog w h₀ (k + 1) 21 [.int l, .int b] σ Q := by
  refine FnW.go W (names := ["length", "bits"]) rfl rfl rfl (by dsimp only) rfl rfl rfl (by kernel_rfl) rfl rfl rfl (par2 fun a b => by rfl) rfl (by decide +kernel) (by kernel_rfl) (by simp only [List.zip_cons_cons, List.zip_nil_right]; exact rfl) ?_
  intro L cl q fn cd fr hcells
  have e1 : (2 : Int) ^ l.toNat ≤ 2 ^ 20 := by
    have : (2 : Nat) ^ l.toNat ≤ 2 ^ 20 := Nat.pow_le_pow_right (by decide) (by omega)
    exact_mod_cast this
  have e2 : (0 : Int) < 2 ^ l.toNat := Int.pow_pos (by decide)
  with_reducible refine SW.cons ?_
  with_reducible refine XW.ret ?_
  with_reducible refine EW.binop ?_
  with_reducible refine EW.binop ?_
  with_reducible refine EW.binop ?_
  with_reducible refine EW.int ?_
  refine EW.loc (by kernel_rfl) .here ?_
  refine OpW.lshift h0 (by omega) (by decide) ?_
  with_reducible refine EW.int ?_
  with_reducible refine OpW.sub ?_
  with_reducible refine EW.binop ?_
  refine EW.loc (by kernel_rfl) (.dp 1 (by kernel_rfl) .here) ?_
  refine EW.loc (by kernel_rfl) .here ?_
  with_reducible refine OpW.sub ?_
  refine OpW.lshift (by omega) (by omega) ?_ ?_
  · have e3 : (2 : Nat) ^ 20 < 2 ^ 64 := by decide
    omega
  exact h
noncomputable def prefI (a l b : Int) : List Int := [Builtin.bitAnd a (maskI l b), l]
theorem c_prefix_at (W : Wd (KH P) mg mb h₀) {a l b : Int} {Q : D → Sto → Prop} (h0 : 0 ≤ l) (h1 : l ≤ b) (h2 : b ≤ 20) (h : Q (D.key (prefI a l b)) σ) : FnW prog w h₀ (k + 2) 28 [.int a, .int l, .int b] σ Q := by
  refine FnW.go W (names := ["address", "length", "bits"]) rfl rfl rfl (by dsimp only) rfl rfl rfl (by kernel_rfl) rfl rfl rfl (par3 fun a b c => by rfl) rfl (by decide +kernel) (by kernel_rfl) (by simp only [List.zip_cons_cons, List.zip_nil_right]; exact rfl) ?_
  intro L cl q fn cd fr hcells
  with_reducible refine SW.cons ?_
  with_reducible refine XW.ret ?_
  with_reducible refine EW.tuple ?_ (by kernel_rfl)
  with_reducible refine EWs.cons ?_
  with_reducible refine EW.binop ?_
  refine EW.loc (by kernel_rfl) .here ?_
  refine EW.callF W 21 (by kernel_rfl) (by kernel_rfl) (by kernel_rfl) ?_
  with_reducible refine EWs.cons ?_
  refine EW.loc (by kernel_rfl) (.dp 1 (by kernel_rfl) .here) ?_
  with_reducible refine EWs.cons ?_
  refine EW.loc (by kernel_rfl) (.dp 2 (by kernel_rfl) .here) ?_
  with_reducible refine EWs.nil ?_
  refine c_mask W h0 h1 h2 ?_
  with_reducible refine OpW.and ?_
  with_reducible refine EWs.cons ?_
  refine EW.loc (by kernel_rfl) (.dp 1 (by kernel_rfl) .here) ?_
  with_reducible refine EWs.nil ?_
  refine ⟨Nat.le_of_ble_eq_true rfl, ?_⟩
  exact h
noncomputable def holdsB (pa pl a b : Int) : Bool := decide (Builtin.bitAnd a (maskI pl b) = pa)
theorem c_holds_address (W : Wd (KH P) mg mb h₀) {pa pl a b : Int} {Q : D → Sto → Prop} (h0 : 0 ≤ pl) (h1 : pl ≤ b) (h2 : b ≤ 20) (h : Q (.bool (holdsB pa pl a b)) σ) : FnW prog w h₀ (k + 2) 35 [D.key [pa, pl], .int a, .int b] σ Q := by
  refine FnW.go W (names := ["prefix", "address", "bits"]) rfl rfl rfl (by dsimp only) rfl rfl rfl (by kernel_rfl) rfl rfl rfl (par3 fun a b c => by rfl) rfl (by decide +kernel) (by kernel_rfl) (by simp only [List.zip_cons_cons, List.zip_nil_right]; exact rfl) ?_
  intro L cl q fn cd fr hcells
  with_reducible refine SW.cons ?_
  with_reducible refine XW.ret ?_
  with_reducible refine EW.cmp ?_ (by kernel_rfl)
  with_reducible refine EW.binop ?_
  refine EW.loc (by kernel_rfl) (.dp 1 (by kernel_rfl) .here) ?_
  refine EW.callF W 21 (by kernel_rfl) (by kernel_rfl) (by kernel_rfl) ?_
  with_reducible refine EWs.cons ?_
  refine EW.sub ?_
  refine EW.loc (by kernel_rfl) .here ?_
  with_reducible refine EW.int ?_
  refine SubW.tup (j := 1) (by rfl) (by rfl) ?_
  with_reducible refine EWs.cons ?_
  refine EW.loc (by kernel_rfl) (.dp 2 (by kernel_rfl) .here) ?_
  with_reducible refine EWs.nil ?_
  refine c_mask W h0 h1 h2 ?_
  with_reducible refine OpW.and ?_
  refine EW.sub ?_
  refine EW.loc (by kernel_rfl) .here ?_
  with_reducible refine EW.int ?_
  refine SubW.tup (j := 0) (by rfl) (by rfl) ?_
  with_reducible refine OpW.eqi ?_
  exact h
noncomputable def coversB (oa ol qa ql b : Int) : Bool := decide (ol ≤ ql) && holdsB oa ol qa b
theorem c_covers (W : Wd (KH P) mg mb h₀) {oa ol qa ql b : Int} {Q : D → Sto → Prop} (h0 : 0 ≤ ol) (h1 : ol ≤ b) (h2 : b ≤ 20) (h : Q (.bool (coversB oa ol qa ql b)) σ) : FnW prog w h₀ (k + 3) 42 [D.key [oa, ol], D.key [qa, ql], .int b] σ Q := by
  refine FnW.go W (names := ["one", "other", "bits"]) rfl rfl rfl (by dsimp only) rfl rfl rfl (by kernel_rfl) rfl rfl rfl (par3 fun a b c => by rfl) rfl (by decide +kernel) (by kernel_rfl) (by simp only [List.zip_cons_cons, List.zip_nil_right]; exact rfl) ?_
  intro L cl q fn cd fr hcells
  with_reducible refine SW.cons ?_
  with_reducible refine XW.ret ?_
  with_reducible refine EW.and2 ?_
  with_reducible refine EW.cmp ?_ (by kernel_rfl)
  refine EW.sub ?_
  refine EW.loc (by kernel_rfl) .here ?_
  with_reducible refine EW.int ?_
  refine SubW.tup (j := 1) (by rfl) (by rfl) ?_
  refine EW.sub ?_
  refine EW.loc (by kernel_rfl) (.dp 1 (by kernel_rfl) .here) ?_
  with_reducible refine EW.int ?_
  refine SubW.tup (j := 1) (by rfl) (by rfl) ?_
  with_reducible refine OpW.le ?_
  with_reducible refine boolP ?_
  refine ⟨fun hb => ?_, fun hb => ?_⟩
  · rw [show coversB oa ol qa ql b = false by unfold coversB; rw [hb]; rfl] at h
    exact h
  refine EW.callF W 35 (by kernel_rfl) (by kernel_rfl) (by kernel_rfl) ?_
  with_reducible refine EWs.cons ?_
  refine EW.loc (by kernel_rfl) .here ?_
  with_reducible refine EWs.cons ?_
  refine EW.sub ?_
  refine EW.loc (by kernel_rfl) (.dp 1 (by kernel_rfl) .here) ?_
  with_reducible refine EW.int ?_
  refine SubW.tup (j := 0) (by rfl) (by rfl) ?_
  with_reducible refine EWs.cons ?_
  refine EW.loc (by kernel_rfl) (.dp 2 (by kernel_rfl) .here) ?_
  with_reducible refine EWs.nil ?_
  refine c_holds_address W h0 h1 h2 ?_
  rwa [show coversB oa ol qa ql b = holdsB oa ol qa b by unfold coversB; rw [hb]; rfl] at h
end
section
variable {P : Params} {mg mb : Str → Option Value} {prog : Program} {w : World} {h₀ : Heap} {k : Nat} {σ : Sto}

abbrev Rg := Int × Int × Bool
noncomputable abbrev rngD (r : Rg) : D := .tup [D.key [r.1, r.2.1], .bool r.2.2]
noncomputable abbrev optD : Option Rg → D
  | none => .none
  | some r => rngD r
noncomputable def rangeStep (qa ql : Int) (f : Option Rg) (r : Rg) : Option Rg := if coversB r.1 r.2.1 qa ql 5 && (match f with | none => true | some g => decide (g.2.1 < r.2.1)) then some r else f
theorem rangeStep_no {qa ql : Int} {f : Option Rg} {r : Rg} (hb : coversB r.1 r.2.1 qa ql 5 = false) : rangeStep qa ql f r = f := by simp [rangeStep, hb]
theorem rangeStep_none {qa ql : Int} {r : Rg} (hb : coversB r.1 r.2.1 qa ql 5 = true) : rangeStep qa ql none r = some r := by simp [rangeStep, hb]
theorem rangeStep_lt {qa ql : Int} {g r : Rg} (hb : coversB r.1 r.2.1 qa ql 5 = true) (hc : decide (g.2.1 < r.2.1) = true) : rangeStep qa ql (some g) r = some r := by simp only [rangeStep, hb, hc]; rfl
theorem rangeStep_ge {qa ql : Int} {g r : Rg} (hb : coversB r.1 r.2.1 qa ql 5 = true) (hc : decide (g.2.1 < r.2.1) = false) : rangeStep qa ql (some g) r = some g := by simp only [rangeStep, hb, hc]; rfl
noncomputable def rangeOf (rs : List Rg) (qa ql : Int) : Option Rg := rs.foldl (rangeStep qa ql) none
noncomputable def OkP (a l : Int) : Prop := 0 ≤ l ∧ l ≤ 5
set_option maxHeartbeats 1000000 in
theorem c_range_of (W : Wd (KH P) mg mb h₀) {ar : Addr} {rs : List Rg} {qa ql : Int} {Q : D → Sto → Prop} (hm : (ar, .lst (rs.map rngD)) ∈ σ) (hl : ∀ r ∈ rs, OkP r.1 r.2.1) (h : Q (optD (rangeOf rs qa ql)) σ) :
    FnW prog w h₀ (k + 4) 49 [D.key [qa, ql], .ref ar, .int 5] σ Q := by
  refine FnW.go W (names := ["prefix", "ranges", "bits"]) rfl rfl rfl (by dsimp only) rfl rfl rfl (by kernel_rfl) rfl rfl rfl (par3 fun a b c => by rfl) rfl (by decide +kernel) (by kernel_rfl) (by simp only [List.zip_cons_cons, List.zip_nil_right]; exact rfl) ?_
  intro L cl q fn cd fr hcells
  with_reducible refine SW.cons ?_
  refine XW.assignName ?_
  with_reducible refine EW.none ?_
  refine BW.loc (by kernel_rfl) ?_
  with_reducible refine SW.cons ?_
  refine XW.for ?_
  refine EW.loc (by kernel_rfl) (.dp 2 (by kernel_rfl) .here) ?_
  refine ⟨_, _, fun (rest : List D) (ρ' : Rho) (σ' : Sto) => σ' = σ ∧ ∃ (rs' : List Rg) (f : Option Rg), rest = rs'.map rngD ∧ (∀ r ∈ rs', OkP r.1 r.2.1) ∧ rs'.foldl (rangeStep qa ql) f = rangeOf rs qa ql ∧ Has ρ' "prefix" (D.key [qa, ql]) ∧ Has ρ' "bits" (.int 5) ∧ Has ρ' "found" (optD f), Src.list (ds := rs.map rngD), ?_, ?_, ?_, ?_⟩
  · exact ⟨rfl, rs, none, rfl, hl, rfl, (.dp 1 (by kernel_rfl) .here), (.dp 3 (by kernel_rfl) .here), .here⟩
  · rintro rest ρ' σ' ⟨rfl, _⟩
    exact hm
  · rintro d' rest ρ' σ' ⟨rfl, rs', f, he, hl', hf, h1, h2, h3⟩
    cases rs' with
    | nil => exact absurd he (List.cons_ne_nil _ _)
    | cons r rs' =>
    obtain ⟨rfl, rfl⟩ := List.cons.inj he
    have hr := hl' r (.head _)
    have hl2 : ∀ r ∈ rs', OkP r.1 r.2.1 := fun r hr => hl' r (.tail _ hr)
    refine AW.name (BW.loc (by kernel_rfl) ?_)
    with_reducible refine SW.cons ?_
    with_reducible refine XW.ifs ?_
    with_reducible refine TW.boolop ?_
    with_reducible refine AllW.and ?_
    with_reducible refine TW.call ?_
    refine EW.callF W 42 (by kernel_rfl) (by kernel_rfl) (by kernel_rfl) ?_
    with_reducible refine EWs.cons ?_
    refine EW.sub ?_
    refine EW.loc (by kernel_rfl) .here ?_
    with_reducible refine EW.int ?_
    refine SubW.tup (j := 0) (by rfl) (by rfl) ?_
    with_reducible refine EWs.cons ?_
    refine EW.loc (by kernel_rfl) (.dp 1 (by kernel_rfl) (by assumption)) ?_
    with_reducible refine EWs.cons ?_
    refine EW.loc (by kernel_rfl) (.dp 1 (by kernel_rfl) (by assumption)) ?_
    with_reducible refine EWs.nil ?_
    refine c_covers W hr.1 hr.2 (by decide) ?_
    with_reducible refine boolP ?_
    rw [List.foldl_cons] at hf
    refine ⟨fun hb => ?_, fun hb => ?_⟩
    · refine ⟨fun hb => absurd hb fnt, fun _ => ?_⟩
      with_reducible refine SW.nil ?_
      with_reducible refine SW.nil ?_
      refine ⟨rfl, rs', f, rfl, hl2, ?_, (.dp 1 (by kernel_rfl) (by assumption)), (.dp 1 (by kernel_rfl) (by assumption)), (.dp 1 (by kernel_rfl) (by assumption))⟩
      rwa [rangeStep_no hb] at hf
    · with_reducible refine AllW.and ?_
      with_reducible refine TW.boolop ?_
      with_reducible refine AllW.or ?_
      with_reducible refine TW.cmp ?_ (by kernel_rfl)
      refine EW.loc (by kernel_rfl) (.dp 1 (by kernel_rfl) (by assumption)) ?_
      with_reducible refine EW.none ?_
      with_reducible refine OpW.isNone ?_
      with_reducible refine boolP ?_
      cases f with
      | none =>
        refine ⟨fun _ => ?_, fun hb => absurd hb tnf⟩
        refine ⟨fun hb => absurd hb tnf, fun _ => ?_⟩
        with_reducible refine AllW.nil ?_
        refine ⟨fun _ => ?_, fun hb => absurd hb tnf⟩
        with_reducible refine SW.cons ?_
        refine XW.assignName ?_
        refine EW.loc (by kernel_rfl) .here ?_
        refine BW.loc (by kernel_rfl) ?_
        with_reducible refine SW.nil ?_
        with_reducible refine SW.nil ?_
        exact ⟨rfl, rs', some r, rfl, hl2, by rwa [rangeStep_none hb] at hf, (.dp 2 (by kernel_rfl) (by assumption)), (.dp 2 (by kernel_rfl) (by assumption)), .here⟩
      | some g =>
        refine ⟨fun hb => absurd hb fnt, fun _ => ?_⟩
        with_reducible refine AllW.or ?_
        with_reducible refine TW.cmp ?_ (by kernel_rfl)
        refine EW.sub ?_
        refine EW.sub ?_
        refine EW.loc (by kernel_rfl) .here ?_
        with_reducible refine EW.int ?_
        refine SubW.tup (j := 0) (by rfl) (by rfl) ?_
        with_reducible refine EW.int ?_
        refine SubW.tup (j := 1) (by rfl) (by rfl) ?_
        refine EW.sub ?_
        refine EW.sub ?_
        refine EW.loc (by kernel_rfl) (.dp 1 (by kernel_rfl) (by assumption)) ?_
        with_reducible refine EW.int ?_
        refine SubW.tup (j := 0) (by rfl) (by rfl) ?_
        with_reducible refine EW.int ?_
        refine SubW.tup (j := 1) (by rfl) (by rfl) ?_
        with_reducible refine OpW.gt ?_
        with_reducible refine boolP ?_
        refine ⟨fun hc => ?_, fun hc => ?_⟩
        · refine ⟨fun hb => absurd hb tnf, fun _ => ?_⟩
          with_reducible refine AllW.nil ?_
          refine ⟨fun _ => ?_, fun hb => absurd hb tnf⟩
          with_reducible refine SW.cons ?_
          refine XW.assignName ?_
          refine EW.loc (by kernel_rfl) .here ?_
          refine BW.loc (by kernel_rfl) ?_
          with_reducible refine SW.nil ?_
          with_reducible refine SW.nil ?_
          refine ⟨rfl, rs', some r, rfl, hl2, ?_, (.dp 2 (by kernel_rfl) (by assumption)), (.dp 2 (by kernel_rfl) (by assumption)), .here⟩
          rwa [rangeStep_lt hb hc] at hf
        · with_reducible refine AllW.nil ?_
          refine ⟨fun _ => ?_, fun hb => absurd hb fnt⟩
          refine ⟨fun hb => absurd hb fnt, fun _ => ?_⟩
          with_reducible refine SW.nil ?_
          with_reducible refine SW.nil ?_
          refine ⟨rfl, rs', some g, rfl, hl2, ?_, (.dp 1 (by kernel_rfl) (by assumption)), (.dp 1 (by kernel_rfl) (by assumption)), (.dp 1 (by kernel_rfl) (by assumption))⟩
          rwa [rangeStep_ge hb hc] at hf
  · rintro ρ' σ' ⟨rfl, rs', f, he, hl', hf, h1, h2, h3⟩
    with_reducible refine SW.cons ?_
    with_reducible refine XW.ret ?_
    refine EW.loc (by kernel_rfl) (by assumption) ?_
    cases rs' with
    | cons _ _ => exact absurd he.symm (List.cons_ne_nil _ _)
    | nil =>
    rw [← hf] at h
    exact h
end
section
variable {prog : Program} {w : World} {h₀ : Heap} {k : Nat} {env : Env} {ρ ρ' ρc : Rho} {σ σ' : Sto}
theorem SubW.hd {value slice : Expr} {ds : List D} {d : D} {P : D → Sto → Prop} (h : P d σ) (hs : NoSlice slice := by intro _ _; rfl) : SubW prog w h₀ k env ρ σ value slice (.tup (d :: ds)) (.int 0) P :=
  SubW.tup (j := 0) (by simp [seqIndex?]) rfl h hs
theorem CapOk.nil {scope : Scope} : CapOk scope env ρ [] := fun x d hx => hx.nl.elim
theorem CapOk.cons {scope : Scope} {x : Str} {d : D} (h1 : Has ρ x d) (h2 : env.kindOf x = some .cell) (h3 : (scope.names.any fun y => y.1 == x && y.2 == .free) = true) (h4 : ((relabel scope env).names.lookup x == some .local) = false) (r : CapOk scope env ρ ρc) : CapOk scope env ρ ((x, d) :: ρc) := fun y e hy => by
  cases hy with
  | here =>
    refine ⟨h1, h2, ?_, ?_⟩
    · obtain ⟨z, hz, hzz⟩ := List.any_eq_true.mp h3
      obtain ⟨z1, z2⟩ := z
      simp only [Bool.and_eq_true, beq_iff_eq] at hzz
      obtain ⟨rfl, rfl⟩ := hzz
      exact hz
    · intro e; rw [e] at h4; simp at h4
  | there _ hy => exact r y e hy
theorem CompSc.of {scope : Scope} (hk : scope.kind = .function) (hall : (scope.names.all fun y => (y.2 != .cell) && (y.2 != .local || scope.names.lookup y.1 == some .local) && (y.2 != .free || env.scope.names.lookup y.1 == some .cell)) = true)
    (hcells : ∀ x, env.scope.names.lookup x = some .cell → (env.cells.lookup x).isSome = true) : CompSc scope env where
  kind := hk
  names := fun x hx h => by
    have := List.all_eq_true.mp hall x hx
    rw [h] at this
    simpa using this
  nocell := fun x hx h => by
    have := List.all_eq_true.mp hall x hx
    rw [h] at this
    simp at this
  free := fun x hx => hcells x (by
    have := List.all_eq_true.mp hall _ hx
    simpa using this)
end
section
variable {P : Params} {mg mb : Str → Option Value} {prog : Program} {w : World} {h₀ : Heap} {k : Nat} {σ : Sto}

abbrev Rt := Int × Int × List D
noncomputable abbrev rtD (r : Rt) : D := .tup (D.key [r.1, r.2.1] :: r.2.2)
noncomputable def addK (acc : List (List Int)) (q : List Int) : List (List Int) := if q ∈ acc then acc else acc ++ [q]
noncomputable def actStep (rs : List Rg) (acc : List (List Int)) (net : Int × Int) : List (List Int) := match rangeOf rs net.1 net.2 with
  | none => acc
  | some g => addK acc [g.1, g.2.1]
noncomputable def actKeys (rs : List Rg) (nets : List (Int × Int)) : List (List Int) := nets.foldl (actStep rs) []
theorem addK_len {acc : List (List Int)} {q : List Int} : (addK acc q).length ≤ acc.length + 1 := by
  unfold addK; split <;> simp
theorem actStep_len {rs : List Rg} {acc : List (List Int)} {net : Int × Int} : (actStep rs acc net).length ≤ acc.length + 1 := by
  unfold actStep
  split
  · omega
  · exact addK_len
theorem actKeys_go {rs : List Rg} : ∀ {nets : List (Int × Int)} {acc : List (List Int)}, (nets.foldl (actStep rs) acc).length ≤ acc.length + nets.length
  | [], acc => by simp
  | n :: nets, acc => by
    have h1 := actKeys_go (rs := rs) (nets := nets) (acc := actStep rs acc n)
    have h2 := actStep_len (rs := rs) (acc := acc) (net := n)
    rw [List.foldl_cons, List.length_cons]
    omega
theorem actKeys_len {rs : List Rg} {nets : List (Int × Int)} : (actKeys rs nets).length ≤ nets.length := by
  have := actKeys_go (rs := rs) (nets := nets) (acc := [])
  simpa [actKeys] using this
theorem addK_two {acc : List (List Int)} {x y : Int} (h : ∀ q ∈ acc, q.length = 2) : ∀ q ∈ addK acc [x, y], q.length = 2 := by
  unfold addK
  split
  · exact h
  · intro q hq
    rcases List.mem_append.mp hq with hq | hq
    · exact h q hq
    · rw [List.mem_singleton.mp hq]; rfl
theorem look_true {acc : List (List Int)} {q : List Int} : (look (acc.map fun q => (q, D.bool true)) q).isSome = decide (q ∈ acc) := by
  unfold look
  induction acc with
  | nil => rfl
  | cons x acc ih =>
    rw [List.map_cons]
    by_cases h : x = q
    · rw [List.find?_cons_of_pos (by simpa using h)]
      simp [h]
    · rw [List.find?_cons_of_neg (by simpa using h)]
      simp only [List.mem_cons, Ne.symm h, false_or]
      exact ih
theorem put_true {acc : List (List Int)} {q : List Int} : put (acc.map fun q => (q, D.bool true)) q (.bool true) = (addK acc q).map fun q => (q, D.bool true) := by
  unfold put addK
  rw [look_true]
  by_cases h : q ∈ acc
  · simp only [h, decide_true, if_true, List.map_map]
    refine List.map_congr_left fun x _ => ?_
    simp only [Function.comp_apply]
    split <;> rfl
  · simp [h]
set_option maxHeartbeats 1000000 in
theorem c_active_ranges (W : Wd (KH P) mg mb h₀) {art ar : Addr} {rts : List Rt} {rs : List Rg} {Q : D → Sto → Prop} (hmt : (art, .lst (rts.map rtD)) ∈ σ) (hm : (ar, .lst (rs.map rngD)) ∈ σ) (hl : ∀ r ∈ rs, OkP r.1 r.2.1) (hlen : rts.length ≤ 6)
    (h : ∀ b, ¬ dom σ b → Q (.ref b) ((b, .lst ((srtK (actKeys rs (rts.map fun r => (r.1, r.2.1)))).map D.key)) :: σ)) :
    FnW prog w h₀ (k + 5) 56 [.ref art, .ref ar, .int 5] σ Q := by
  refine FnW.drop ?_
  refine FnW.go W (names := ["routes", "ranges", "bits"]) rfl rfl rfl (by dsimp only) rfl rfl rfl (by kernel_rfl) rfl rfl rfl (par3 fun a b c => by rfl) rfl (by decide +kernel) (by kernel_rfl) (by simp only [List.zip_cons_cons, List.zip_nil_right]; exact rfl) ?_
  intro L cl q fn cd fr hcells
  with_reducible refine SW.cons ?_
  refine XW.assignName (EW.dict0 W fun a ha => ?_)
  refine BW.loc (by kernel_rfl) ?_
  with_reducible refine SW.cons ?_
  refine XW.for ?_
  refine EW.loc (by kernel_rfl) (.dp 1 (by kernel_rfl) .here) ?_
  refine ⟨_, _, fun (rest : List D) (ρ' : Rho) (σ' : Sto) => ∃ (rts' : List Rt) (acc : List (List Int)), σ' = (a, .dct (acc.map fun q => (q, D.bool true))) :: σ ∧ rest = rts'.map rtD ∧ (∀ q ∈ acc, q.length = 2) ∧ acc.length + rts'.length ≤ 6 ∧ (rts'.map fun r => (r.1, r.2.1)).foldl (actStep rs) acc = actKeys rs (rts.map fun r => (r.1, r.2.1)) ∧ Has ρ' "ranges" (.ref ar) ∧ Has ρ' "bits" (.int 5) ∧ Has ρ' "found" (.ref a),
    Src.list (ds := rts.map rtD), ?_, ?_, ?_, ?_⟩
  · exact ⟨rts, [], rfl, rfl, (fun _ hq => absurd hq List.not_mem_nil), by simpa using hlen, rfl, (.dp 2 (by kernel_rfl) .here), (.dp 3 (by kernel_rfl) .here), .here⟩
  · rintro rest ρ' σ' ⟨_, _, rfl, _⟩
    exact .tail _ hmt
  · rintro d' rest ρ' σ' ⟨rts', acc, rfl, he, hq, hle, hf, h1, h2, h3⟩
    cases rts' with
    | nil => exact absurd he (List.cons_ne_nil _ _)
    | cons r rts' =>
    obtain ⟨rfl, rfl⟩ := List.cons.inj he
    rw [List.map_cons, List.foldl_cons] at hf
    have hle' : acc.length + (rts'.length + 1) ≤ 6 := hle
    refine AW.name (BW.loc (by kernel_rfl) ?_)
    with_reducible refine SW.cons ?_
    refine XW.assignName ?_
    refine EW.callF W 49 (by kernel_rfl) (by kernel_rfl) (by kernel_rfl) ?_
    with_reducible refine EWs.cons ?_
    refine EW.sub ?_
    refine EW.loc (by kernel_rfl) .here ?_
    with_reducible refine EW.int ?_
    refine SubW.hd ?_
    with_reducible refine EWs.cons ?_
    refine EW.loc (by kernel_rfl) (.dp 1 (by kernel_rfl) (by assumption)) ?_
    with_reducible refine EWs.cons ?_
    refine EW.loc (by kernel_rfl) (.dp 1 (by kernel_rfl) (by assumption)) ?_
    with_reducible refine EWs.nil ?_
    refine c_range_of W (rs := rs) (.tail _ hm) hl ?_
    refine BW.loc (by kernel_rfl) ?_
    with_reducible refine SW.cons ?_
    with_reducible refine XW.ifs ?_
    with_reducible refine TW.cmp ?_ (by kernel_rfl)
    refine EW.loc (by kernel_rfl) .here ?_
    with_reducible refine EW.none ?_
    with_reducible refine OpW.isNotNone ?_
    with_reducible refine boolP ?_
    cases hg : rangeOf rs r.1 r.2.1 with
    | none =>
      rw [show actStep rs acc (r.1, r.2.1) = acc by simp [actStep, hg]] at hf
      refine ⟨fun hb => absurd hb fnt, fun _ => ?_⟩
      with_reducible refine SW.nil ?_
      with_reducible refine SW.nil ?_
      exact ⟨rts', acc, rfl, rfl, hq, by omega, hf, (.dp 2 (by kernel_rfl) (by assumption)), (.dp 2 (by kernel_rfl) (by assumption)), (.dp 2 (by kernel_rfl) (by assumption))⟩
    | some g =>
      rw [show actStep rs acc (r.1, r.2.1) = addK acc [g.1, g.2.1] by simp [actStep, hg]] at hf
      refine ⟨fun _ => ?_, fun hb => absurd hb tnf⟩
      with_reducible refine SW.cons ?_
      refine XW.assignSub ?_
      with_reducible refine EW.bool ?_
      refine EW.loc (by kernel_rfl) (.dp 2 (by kernel_rfl) (by assumption)) ?_
      refine EW.sub ?_
      refine EW.loc (by kernel_rfl) .here ?_
      with_reducible refine EW.int ?_
      refine SubW.tup (j := 0) (by rfl) (by rfl) ?_
      refine SetW.dct .here (by simp; omega) ?_
      with_reducible refine SW.nil ?_
      with_reducible refine SW.nil ?_
      have := addK_len (acc := acc) (q := [g.1, g.2.1])
      refine ⟨rts', addK acc [g.1, g.2.1], by rw [put_true], rfl, addK_two hq, by omega, hf, (.dp 2 (by kernel_rfl) (by assumption)), (.dp 2 (by kernel_rfl) (by assumption)), (.dp 2 (by kernel_rfl) (by assumption))⟩
  · rintro ρ' σ' ⟨rts', acc, rfl, he, hq, hle, hf, h1, h2, h3⟩
    cases rts' with
    | cons _ _ => exact absurd he.symm (List.cons_ne_nil _ _)
    | nil =>
    with_reducible refine SW.cons ?_
    with_reducible refine XW.ret ?_
    refine EW.bi W (by kernel_rfl) (by kernel_rfl) (v := .builtin "sorted") (by decide +kernel) (by decide +kernel) (.inl ⟨_, rfl⟩) ?_
    with_reducible refine EWs.cons ?_
    refine EW.loc (by kernel_rfl) (by assumption) ?_
    with_reducible refine EWs.nil ?_
    have hf' : acc = actKeys rs (rts.map fun r => (r.1, r.2.1)) := hf
    refine BiW.sortedD (.head _) ?_ (by simpa using hle) fun b hb => ?_
    · intro e he
      obtain ⟨q, hq', rfl⟩ := List.mem_map.mp he
      exact hq q hq'
    · refine ⟨_, ?_, h b fun hd => hb (.tail _ hd)⟩
      rw [List.map_map, show ((fun x => x.fst) ∘ fun q => (q, D.bool true) : List Int → List Int) = id from rfl, List.map_id, hf']
      exact .cons_cons _ (.cons _ (.refl _))

noncomputable abbrev dropD (q : List Int) : D := .tup [D.key q, .str "inter", .int 0, .int 0, .int 1, .tup []]
set_option maxHeartbeats 1000000 in
theorem c_dropped_ranges (W : Wd (KH P) mg mb h₀) {art ar : Addr} {rts : List Rt} {rs : List Rg} {Q : D → Sto → Prop} (hmt : (art, .lst (rts.map rtD)) ∈ σ) (hm : (ar, .lst (rs.map rngD)) ∈ σ) (hl : ∀ r ∈ rs, OkP r.1 r.2.1) (hlen : rts.length ≤ 6)
    (h : ∀ b, ¬ dom σ b → Q (.ref b) ((b, .lst ((srtK (actKeys rs (rts.map fun r => (r.1, r.2.1)))).map dropD)) :: σ)) :
    FnW prog w h₀ (k + 6) 61 [.ref art, .ref ar, .int 1, .int 5] σ Q := by
  refine FnW.drop ?_
  refine FnW.go W (names := ["routes", "ranges", "area", "bits"]) rfl rfl rfl (by dsimp only) rfl rfl rfl (by kernel_rfl) rfl rfl rfl (par4 fun a b c d => by rfl) rfl (by decide +kernel) (by kernel_rfl) (by simp only [List.zip_cons_cons, List.zip_nil_right]; exact rfl) ?_
  intro L cl q fn cd fr hcells
  with_reducible refine SW.cons ?_
  with_reducible refine XW.ret ?_
  refine EW.comp (ρc := [("area", .int 1)]) (.of rfl (by kernel_rfl) hcells) (.cons (.dp 2 (by kernel_rfl) .here) (by kernel_rfl) (by kernel_rfl) (by kernel_rfl) .nil) ?_
  refine EW.callF W 56 (by kernel_rfl) (by kernel_rfl) (by kernel_rfl) ?_
  with_reducible refine EWs.cons ?_
  refine EW.loc (by kernel_rfl) .here ?_
  with_reducible refine EWs.cons ?_
  refine EW.loc (by kernel_rfl) (.dp 1 (by kernel_rfl) .here) ?_
  with_reducible refine EWs.cons ?_
  refine EW.loc (by kernel_rfl) (.dp 3 (by kernel_rfl) .here) ?_
  with_reducible refine EWs.nil ?_
  refine c_active_ranges W hmt hm hl hlen fun b hb => ?_
  generalize hks : srtK (actKeys rs (rts.map fun r => (r.1, r.2.1))) = ks at h ⊢
  have hk6 : ks.length ≤ 1000 := by
    have h1 := actKeys_len (rs := rs) (nets := rts.map fun r => (r.1, r.2.1))
    rw [List.length_map] at h1
    have h2 := (srtK_perm (ks := actKeys rs (rts.map fun r => (r.1, r.2.1))) (by omega)).length_eq
    rw [hks] at h2
    omega
  refine ⟨_, _, fun (rest acc : List D) (σ' : Sto) => σ' = (b, .lst (ks.map D.key)) :: σ ∧ ∃ ks1 ks2, ks = ks1 ++ ks2 ∧ rest = ks2.map D.key ∧ acc = ks1.map dropD, Src.list (ds := ks.map D.key), by simpa using Nat.le_trans hk6 (by decide), .head _, ⟨rfl, [], ks, rfl, rfl, rfl⟩, ?_, ?_, ?_⟩
  · rintro rest acc σ' a ⟨rfl, _⟩
    exact .tail _ (.head _)
  · rintro L2 cl2 d' rest acc σ' a ⟨rfl, ks1, ks2, e1, e2, rfl⟩ ha
    cases ks2 with
    | nil => exact absurd e2 (List.cons_ne_nil _ _)
    | cons q ks2 =>
    obtain ⟨rfl, rfl⟩ := List.cons.inj e2
    refine AW.name (BW.loc (by kernel_rfl) ⟨hasAll_cons (.dp 1 (by kernel_rfl) .here) hasAll_nil, ?_⟩)
    · refine ⟨fun _ => ?_, fun hb => absurd hb tnf⟩
      with_reducible refine EW.tuple ?_ (by kernel_rfl)
      with_reducible refine EWs.cons ?_
      refine EW.loc (by kernel_rfl) .here ?_
      with_reducible refine EWs.cons ?_
      with_reducible refine EW.str ?_
      with_reducible refine EWs.cons ?_
      with_reducible refine EW.int ?_
      with_reducible refine EWs.cons ?_
      with_reducible refine EW.int ?_
      with_reducible refine EWs.cons ?_
      refine EW.cell (by kernel_rfl) (.dp 1 (by kernel_rfl) .here) ?_
      with_reducible refine EWs.cons ?_
      with_reducible refine EW.tuple ?_ (by kernel_rfl)
      with_reducible refine EWs.nil ?_
      refine ⟨Nat.le_of_ble_eq_true rfl, ?_⟩
      with_reducible refine EWs.nil ?_
      refine ⟨Nat.le_of_ble_eq_true rfl, ?_⟩
      exact ⟨_, rfl, rfl, ks1 ++ [q], ks2, by rw [e1]; simp, rfl, by simp⟩
  · rintro acc σ' a ⟨rfl, ks1, ks2, e1, e2, rfl⟩ ha
    cases ks2 with
    | cons _ _ => exact absurd e2.symm (List.cons_ne_nil _ _)
    | nil =>
    rw [List.append_nil] at e1
    subst e1
    exact ⟨_, .cons_cons _ (.cons _ (.refl _)), h a fun hd => ha (.tail _ hd)⟩
end
section
variable {prog : Program} {w : World} {h₀ : Heap} {k : Nat} {env : Env} {ρ ρ' ρc : Rho} {σ σ' : Sto}
theorem Upd.same' {a : Addr} {m m' : MO} (u : Upd σ a m m' σ') (e : m = m') : σ' = σ := by
  induction u with
  | here => rw [e]
  | there _ ih => rw [ih e]
theorem Upd.same {a : Addr} {m : MO} (u : Upd σ a m m σ') : σ' = σ := u.same' rfl
/-- a method of a global's value -/
theorem EW.methG {K : Frag} {mg mb : Str → Option Value} (W : Wd K mg mb h₀) {x : Str} {px : Pos} {a : Addr} {ob : Obj} {d1 : D} {name : Str} {T id : String} {apos pos : Pos} {e : Expr} {es : List Expr} {P : D → Sto → Prop}
    (hk : env.kindOf x = some .globalImplicit) (hn : nsIn K mainGlobals x = some (some (.ref a))) (ho : K.lookup a = some ob) (hc : ob.cls = .type T) (hdd : ob.dict = Option.none) (r1 : RV h₀ (.ref a) d1)
    (pa : PlainAttrs T) (slot : Slot T name id) (hty : typeOf (.builtin id) = Pure.pure (.type "method_descriptor"))
    (h : EWs prog w h₀ k env ρ σ (e :: es) fun ds σ2 => BiW prog w h₀ k (.builtin id) (d1 :: ds) σ2 P)
    (hs : starEach (e :: es) env = (e :: es).map fun e => (false, eval e env) := by kernel_rfl)
    (hbase : attributeBase (.Name x px) name env (eval (.Name x px) env) = eval (.Name x px) env := by rfl) (hline : (apos.endLine == pos.line) = true := by rfl) (hfew : decide ((e :: es).length + 0 + 0 < 30) = true := by rfl)
    (hdb : (x == ("__debug__" : Str)) = false := by decide +kernel) :
    EW prog w h₀ k env ρ σ (.Call (.Attribute (.Name x px) name apos) (e :: es) [] pos) P := by
  intro A s E Q hA O L hH q
  have hb := splice_eq (env := env) (pos := pos) hs
  refine wpAny_Call_method_late (trees := (e :: es).map fun e => (false, eval e env)) hbase ?_ hline hb ?_
  · rw [hb]
    have : (((e :: es).map fun e => (false, eval e env)).all fun x => !x.1) = true := by simp
    rw [this, show backToKw pos (keywordEach [] env) = [] from rfl]
    exact hfew
  refine Calls.Name_function_global L.fn hk (Calls.loadGlobal_global (mg := mg) (by rw [L.glob]; exact ns_kp (X := fun _ => False) (fun b o e _ => O.keep b o e) _root_.id W.g) (mg_of W.K W.g hn) ?_) hdb
  have ho' := O.keep _ _ (W.K _ _ ho)
  refine ⟨T, id, pa, slot, hty, ⟨ob, ho', hc⟩, fun b e => Value.ref.inj e ▸ ⟨ob, ho', hdd⟩, ?_⟩
  have hplain : (((e :: es).map fun e => (false, eval e env)).any (·.1)) = false := by simp
  rw [List.map_cons] at hplain ⊢
  refine Calls.callWith_builtin hplain (Calls.evalArgs_plain ?_)
  have := h [] A s (E) (fun vs s' => wpAny (model prog w) A (PySem.call (.builtin id) ([.ref a] ++ vs) []) Q E s') hA O L held0 fun vs ds σ2 h2 tk2 hP2 O2 g2 r2 => by
    show wpAny _ _ (PySem.call (.builtin id) (.ref a :: vs) []) _ _ _
    exact hP2 A { s with heap := h2, toks := tk2 } E Q (.ref a :: vs) hA O2 (.cons ((r1.up O.keep).grow O g2) r2) fun v d σ' h' tk hP3 O3 g3 r3 => q v d σ' h' tk hP3 O3 (g2.trans g3) r3
  rwa [List.map_cons] at this
theorem D.eqvs_self (ds : List D) : PyData.eqvAll (D.pys ds) (D.pys ds) = true := D.eqv_self (.tup ds)
end
section
variable {P : Params} {mg mb : Str → Option Value} {prog : Program} {w : World} {h₀ : Heap} {k : Nat} {σ : Sto}

theorem c_route_worth (W : Wd (KH P) mg mb h₀) {q : D} {sort : Str} {cost second area i : Int} {hops : D} {Q : D → Sto → Prop} (hs : (sort = "intra" ∧ i = 0) ∨ (sort ≠ "intra" ∧ sort = "inter" ∧ i = 1)) (h : Q (D.key [i, second, cost]) σ) :
    FnW prog w h₀ (k + 1) 69 [.tup [q, .str sort, .int cost, .int second, .int area, hops]] σ Q := by
  refine FnW.go W (names := ["route"]) rfl rfl rfl (by dsimp only) rfl rfl rfl (by kernel_rfl) rfl rfl rfl (par1 fun a => by rfl) rfl (by decide +kernel) (by kernel_rfl) (by simp only [List.zip_cons_cons, List.zip_nil_right]; exact rfl) ?_
  intro L cl q fn cd fr hcells
  with_reducible refine SW.cons ?_
  refine XW.assignTuple ?_
  refine EW.loc (by kernel_rfl) .here ?_
  refine AW.tuple rfl ?_
  refine BWs.cons (AW.name (BW.loc (by kernel_rfl) ?_))
  refine BWs.cons (AW.name (BW.loc (by kernel_rfl) ?_))
  refine BWs.cons (AW.name (BW.loc (by kernel_rfl) ?_))
  refine BWs.cons (AW.name (BW.loc (by kernel_rfl) ?_))
  refine BWs.cons (AW.name (BW.loc (by kernel_rfl) ?_))
  refine BWs.cons (AW.name (BW.loc (by kernel_rfl) ?_))
  refine BWs.nil ?_
  with_reducible refine SW.cons ?_
  with_reducible refine XW.ret ?_
  with_reducible refine EW.tuple ?_ (by kernel_rfl)
  with_reducible refine EWs.cons ?_
  refine EW.methG W (a := 62) (d1 := .tup [.str "intra", .str "inter", .str "ext1", .str "ext2"]) (by kernel_rfl) (by kernel_rfl) rfl rfl rfl (.tup (W.K 62 _ rfl) rfl rfl (.cons (.str _ _) (.cons (.str _ _) (.cons (.str _ _) (.cons (.str _ _) .nil))))) PySem.F.plainAttrs_tuple PySem.F.slot_tuple_index PySem.F.type_tuple_index ?_
  with_reducible refine EWs.cons ?_
  refine EW.loc (by kernel_rfl) (.dp 4 (by kernel_rfl) .here) ?_
  with_reducible refine EWs.nil ?_
  refine BiW.index4 hs ?_
  with_reducible refine EWs.cons ?_
  refine EW.loc (by kernel_rfl) (.dp 2 (by kernel_rfl) .here) ?_
  with_reducible refine EWs.cons ?_
  refine EW.loc (by kernel_rfl) (.dp 3 (by kernel_rfl) .here) ?_
  with_reducible refine EWs.nil ?_
  refine ⟨Nat.le_of_ble_eq_true rfl, ?_⟩
  exact h

structure Rte where
  p : List Int
  intra : Bool
  cost : Int
  second : Int
  area : Int
  hops : D
noncomputable abbrev sortS (b : Bool) : Str := if b then "intra" else "inter"
noncomputable abbrev rteD (r : Rte) : D := .tup [D.key r.p, .str (sortS r.intra), .int r.cost, .int r.second, .int r.area, r.hops]
noncomputable def tblStep (es : List (List Int × D)) (r : Rte) : List (List Int × D) := if (look es r.p).isSome then es else es ++ [(r.p, rteD r)]
theorem sortS_of (b : Bool) : (sortS b = "intra" ∧ (if b then (0 : Int) else 1) = 0) ∨ (sortS b ≠ "intra" ∧ sortS b = "inter" ∧ (if b then (0 : Int) else 1) = 1) := by
  cases b
  · exact .inr ⟨by decide +kernel, rfl, rfl⟩
  · exact .inl ⟨rfl, rfl⟩
set_option maxHeartbeats 1000000 in
theorem c_take_route (W : Wd (KH P) mg mb h₀) {a : Addr} {es : List (List Int × D)} {r : Rte} {σ' : Sto} {Q : D → Sto → Prop} (u : Upd σ a (.dct es) (.dct (tblStep es r)) σ') (hlen : es.length ≤ 1000) (hcase : look es r.p = Option.none ∨ ∃ kn : Rte, look es r.p = some (rteD kn) ∧ kn.intra = true ∧ r.intra = false)
    (h : Q .none σ') : FnW prog w h₀ (k + 2) 81 [.ref a, rteD r] σ Q := by
  refine FnW.go W (names := ["table", "route"]) rfl rfl rfl (by dsimp only) rfl rfl rfl (by kernel_rfl) rfl rfl rfl (par2 fun a b => by rfl) rfl (by decide +kernel) (by kernel_rfl) (by simp only [List.zip_cons_cons, List.zip_nil_right]; exact rfl) ?_
  intro L cl q fn cd fr hcells
  with_reducible refine SW.cons ?_
  refine XW.assignName (EW.meth PySem.F.plainAttrs_dict PySem.F.slot_dict_get PySem.F.type_dict_get ?_)
  refine EW.loc (by kernel_rfl) .here ?_
  refine ⟨.dct u.mem, ?_⟩
  with_reducible refine EWs.cons ?_
  refine EW.sub ?_
  refine EW.loc (by kernel_rfl) (.dp 1 (by kernel_rfl) .here) ?_
  with_reducible refine EW.int ?_
  refine SubW.tup (j := 0) (by rfl) (by rfl) ?_
  with_reducible refine EWs.nil ?_
  refine BiW.get1 u.mem ?_
  refine BW.loc (by kernel_rfl) ?_
  with_reducible refine SW.cons ?_
  with_reducible refine XW.ifs ?_
  with_reducible refine TW.boolop ?_
  with_reducible refine AllW.or ?_
  with_reducible refine TW.cmp ?_ (by kernel_rfl)
  refine EW.loc (by kernel_rfl) .here ?_
  with_reducible refine EW.none ?_
  with_reducible refine OpW.isNone ?_
  with_reducible refine boolP ?_
  rcases hcase with hn | ⟨kn, hs, h1, h2⟩
  · rw [hn]
    refine ⟨fun _ => ?_, fun hb => absurd hb tnf⟩
    refine ⟨fun _ => ?_, fun hb => absurd hb tnf⟩
    with_reducible refine SW.cons ?_
    refine XW.assignSub ?_
    refine EW.loc (by kernel_rfl) (.dp 2 (by kernel_rfl) .here) ?_
    refine EW.loc (by kernel_rfl) (.dp 1 (by kernel_rfl) .here) ?_
    refine EW.sub ?_
    refine EW.loc (by kernel_rfl) (.dp 2 (by kernel_rfl) .here) ?_
    with_reducible refine EW.int ?_
    refine SubW.tup (j := 0) (by rfl) (by rfl) ?_
    have e : tblStep es r = put es r.p (rteD r) := by simp [tblStep, put, hn]
    rw [e] at u
    refine SetW.dct u (by omega) ?_
    with_reducible refine SW.nil ?_
    with_reducible refine SW.nil ?_
    exact h
  · have e : tblStep es r = es := by simp [tblStep, hs]
    rw [e] at u
    obtain rfl : σ' = σ := u.same
    rw [hs]
    refine ⟨fun hb => absurd hb fnt, fun _ => ?_⟩
    with_reducible refine AllW.or ?_
    with_reducible refine TW.cmp ?_ (by kernel_rfl)
    refine EW.callF W 69 (by kernel_rfl) (by kernel_rfl) (by kernel_rfl) ?_
    with_reducible refine EWs.cons ?_
    refine EW.loc (by kernel_rfl) (.dp 2 (by kernel_rfl) .here) ?_
    with_reducible refine EWs.nil ?_
    refine c_route_worth W (sortS_of _) ?_
    refine EW.callF W 69 (by kernel_rfl) (by kernel_rfl) (by kernel_rfl) ?_
    with_reducible refine EWs.cons ?_
    refine EW.loc (by kernel_rfl) .here ?_
    with_reducible refine EWs.nil ?_
    refine c_route_worth W (sortS_of _) ?_
    rw [h1, h2]
    refine OpW.ltT rfl ?_
    with_reducible refine boolP ?_
    refine ⟨fun hb => absurd hb fnt, fun _ => ?_⟩
    with_reducible refine AllW.nil ?_
    refine ⟨fun hb => absurd hb fnt, fun _ => ?_⟩
    with_reducible refine SW.cons ?_
    with_reducible refine XW.ifs ?_
    with_reducible refine TW.cmp ?_ (by kernel_rfl)
    refine EW.callF W 69 (by kernel_rfl) (by kernel_rfl) (by kernel_rfl) ?_
    with_reducible refine EWs.cons ?_
    refine EW.loc (by kernel_rfl) (.dp 2 (by kernel_rfl) .here) ?_
    with_reducible refine EWs.nil ?_
    refine c_route_worth W (sortS_of _) ?_
    refine EW.callF W 69 (by kernel_rfl) (by kernel_rfl) (by kernel_rfl) ?_
    with_reducible refine EWs.cons ?_
    refine EW.loc (by kernel_rfl) .here ?_
    with_reducible refine EWs.nil ?_
    refine c_route_worth W (sortS_of _) ?_
    rw [h1, h2]
    refine OpW.eqD (key_pure _) (key_pure _) (by rfl) ?_
    rw [key_eqv]
    rw [show decide ([if false = true then (0 : Int) else 1, r.second, r.cost] = [if true = true then 0 else 1, kn.second, kn.cost]) = false by simp]
    with_reducible refine boolP ?_
    refine ⟨fun hb => absurd hb fnt, fun _ => ?_⟩
    with_reducible refine SW.nil ?_
    with_reducible refine SW.nil ?_
    with_reducible refine SW.nil ?_
    exact h

theorem look_append {es : List (List Int × D)} {q q' : List Int} {d : D} : look (es ++ [(q', d)]) q = if (look es q).isSome then look es q else if q' = q then some d else Option.none := by
  unfold look
  rw [List.find?_append]
  cases h : es.find? fun e => decide (e.1 = q) with
  | some x => simp
  | none => by_cases hq : q' = q <;> simp [hq]
theorem tbl_from {q : List Int} {d : D} : ∀ (rs : List Rte) (es : List (List Int × D)), look (rs.foldl tblStep es) q = some d → look es q = some d ∨ ∃ x ∈ rs, x.p = q ∧ d = rteD x
  | [], es, h => .inl h
  | r :: rs, es, h => by
    rw [List.foldl_cons] at h
    rcases tbl_from rs _ h with h1 | ⟨x, hx, h1, h2⟩
    · unfold tblStep at h1
      split at h1
      · exact .inl h1
      · rw [look_append] at h1
        split at h1
        · exact .inl h1
        · split at h1
          · rename_i hq
            exact .inr ⟨r, .head _, hq, (Option.some.inj h1).symm⟩
          · cases h1
    · exact .inr ⟨x, .tail _ hx, h1, h2⟩
theorem tbl_len : ∀ (rs : List Rte) (es : List (List Int × D)), (rs.foldl tblStep es).length ≤ es.length + rs.length
  | [], es => by simp
  | r :: rs, es => by
    have h1 := tbl_len rs (tblStep es r)
    have h2 : (tblStep es r).length ≤ es.length + 1 := by unfold tblStep; split <;> simp
    rw [List.foldl_cons, List.length_cons]; omega
noncomputable def NoClash (rs : List Rte) : Prop := rs.Pairwise fun x y => x.p = y.p → x.intra = true ∧ y.intra = false
set_option maxHeartbeats 1000000 in
theorem c_table_of (W : Wd (KH P) mg mb h₀) {art : Addr} {rts : List Rte} {Q : D → Sto → Prop} (hm : (art, .lst (rts.map rteD)) ∈ σ) (hlen : rts.length ≤ 100) (hc : NoClash rts) (h : ∀ b, ¬ dom σ b → Q (.ref b) ((b, .dct (rts.foldl tblStep [])) :: σ)) :
    FnW prog w h₀ (k + 3) 88 [.ref art] σ Q := by
  refine FnW.go W (names := ["routes"]) rfl rfl rfl (by dsimp only) rfl rfl rfl (by kernel_rfl) rfl rfl rfl (par1 fun a => by rfl) rfl (by decide +kernel) (by kernel_rfl) (by simp only [List.zip_cons_cons, List.zip_nil_right]; exact rfl) ?_
  intro L cl q fn cd fr hcells
  with_reducible refine SW.cons ?_
  refine XW.assignName (EW.dict0 W fun a ha => ?_)
  refine BW.loc (by kernel_rfl) ?_
  with_reducible refine SW.cons ?_
  refine XW.for ?_
  refine EW.loc (by kernel_rfl) (.dp 1 (by kernel_rfl) .here) ?_
  refine ⟨_, _, fun (rest : List D) (ρ' : Rho) (σ' : Sto) => ∃ (rs1 rs2 : List Rte), σ' = (a, .dct (rs1.foldl tblStep [])) :: σ ∧ rest = rs2.map rteD ∧ rts = rs1 ++ rs2 ∧ Has ρ' "found" (.ref a),
    Src.list (ds := rts.map rteD), ?_, ?_, ?_, ?_⟩
  · exact ⟨[], rts, rfl, rfl, rfl, .here⟩
  · rintro rest ρ' σ' ⟨_, _, rfl, _⟩
    exact .tail _ hm
  · rintro d' rest ρ' σ' ⟨rs1, rs2, rfl, he, hf, h3⟩
    cases rs2 with
    | nil => exact absurd he (List.cons_ne_nil _ _)
    | cons r rs2 =>
    obtain ⟨rfl, rfl⟩ := List.cons.inj he
    have hl1 := tbl_len rs1 []
    have hl2 : rs1.length ≤ 100 := by have := congrArg List.length hf; rw [List.length_append] at this; omega
    simp only [List.length_nil, Nat.zero_add] at hl1
    refine AW.name (BW.loc (by kernel_rfl) ?_)
    with_reducible refine SW.cons ?_
    refine XW.expr ?_
    refine EW.callF W 81 (by kernel_rfl) (by kernel_rfl) (by kernel_rfl) ?_
    with_reducible refine EWs.cons ?_
    refine EW.loc (by kernel_rfl) (.dp 1 (by kernel_rfl) (by assumption)) ?_
    with_reducible refine EWs.cons ?_
    refine EW.loc (by kernel_rfl) .here ?_
    with_reducible refine EWs.nil ?_
    refine c_take_route W .here (by omega) ?_ ?_
    · cases hk : look (rs1.foldl tblStep []) r.p with
      | none => exact .inl rfl
      | some d =>
        right
        rcases tbl_from rs1 [] hk with h1 | ⟨x, hx, h1, rfl⟩
        · cases h1
        · unfold NoClash at hc
          rw [hf, List.pairwise_append] at hc
          obtain ⟨h2, h3⟩ := hc.2.2 x hx r (.head _) h1
          exact ⟨x, rfl, h2, h3⟩
    · refine ⟨rfl, ?_⟩
      with_reducible refine SW.nil ?_
      exact ⟨rs1 ++ [r], rs2, by rw [List.foldl_append]; rfl, rfl, by rw [hf]; simp, (.dp 1 (by kernel_rfl) (by assumption))⟩
  · rintro ρ' σ' ⟨rs1, rs2, rfl, he, hf, h3⟩
    cases rs2 with
    | cons _ _ => exact absurd he.symm (List.cons_ne_nil _ _)
    | nil =>
    rw [List.append_nil] at hf
    subst hf
    with_reducible refine SW.cons ?_
    with_reducible refine XW.ret ?_
    refine EW.loc (by kernel_rfl) (by assumption) ?_
    exact h a ha

noncomputable def lookFrom (es : List (List Int × D)) (addr : Int) : List Int → D
  | [] => .none
  | l :: ls => match look es (prefI addr l 5) with
    | some d => d
    | none => lookFrom es addr ls
noncomputable def lookUp (es : List (List Int × D)) (addr : Int) : D := lookFrom es addr [5, 4, 3, 2, 1, 0]
theorem look_mem {es : List (List Int × D)} {q : List Int} {d : D} (h : look es q = some d) : (q, d) ∈ es := by
  unfold look at h
  obtain ⟨e, he, rfl⟩ := Option.map_eq_some_iff.mp h
  have h1 := List.find?_some he
  have h2 := List.mem_of_find?_eq_some he
  rw [← show e.1 = q by simpa using h1]
  exact h2
set_option maxHeartbeats 1000000 in
theorem c_looked_up (W : Wd (KH P) mg mb h₀) {a : Addr} {es : List (List Int × D)} {addr : Int} {Q : D → Sto → Prop} (hm : (a, .dct es) ∈ σ) (hv : ∀ e ∈ es, e.2.isNone = false) (h : Q (lookUp es addr) σ) : FnW prog w h₀ (k + 3) 95 [.ref a, .int addr, .int 5] σ Q := by
  refine FnW.go W (names := ["table", "address", "bits"]) rfl rfl rfl (by dsimp only) rfl rfl rfl (by kernel_rfl) rfl rfl rfl (par3 fun a b c => by rfl) rfl (by decide +kernel) (by kernel_rfl) (by simp only [List.zip_cons_cons, List.zip_nil_right]; exact rfl) ?_
  intro L cl q fn cd fr hcells
  with_reducible refine SW.cons ?_
  refine XW.for ?_
  refine EW.bi W (by kernel_rfl) (by kernel_rfl) (v := .type "range") (by decide +kernel) (by decide +kernel) (.inr ⟨_, rfl⟩) ?_
  with_reducible refine EWs.cons ?_
  refine EW.loc (by kernel_rfl) (.dp 2 (by kernel_rfl) .here) ?_
  with_reducible refine EWs.cons ?_
  with_reducible refine EW.unop ?_
  with_reducible refine EW.int ?_
  refine unop_neg ?_
  with_reducible refine EWs.cons ?_
  with_reducible refine EW.unop ?_
  with_reducible refine EW.int ?_
  refine unop_neg ?_
  with_reducible refine EWs.nil ?_
  refine BiW.range3 (a := 5) (b := -1) (c := -1) (by decide) (by decide) ?_
  refine ⟨_, _, fun (rest : List D) (ρ' : Rho) (σ' : Sto) => σ' = σ ∧ ∃ ls : List Int, rest = ls.map .int ∧ (∀ l ∈ ls, 0 ≤ l ∧ l ≤ 5) ∧ lookFrom es addr ls = lookUp es addr ∧ Has ρ' "table" (.ref a) ∧ Has ρ' "address" (.int addr) ∧ Has ρ' "bits" (.int 5),
    Src.range (n := 6) (by decide +kernel) (by decide +kernel), ?_, ?_, ?_, ?_⟩
  · exact ⟨rfl, [5, 4, 3, 2, 1, 0], rfl, by decide, rfl, .here, (.dp 1 (by kernel_rfl) .here), (.dp 2 (by kernel_rfl) .here)⟩
  · intro _ _ _ _; trivial
  · rintro d' rest ρ' σ' ⟨rfl, ls, he, hl, hf, h1, h2, h3⟩
    cases ls with
    | nil => exact absurd he (List.cons_ne_nil _ _)
    | cons l ls =>
    obtain ⟨rfl, rfl⟩ := List.cons.inj he
    have hl0 := hl l (.head _)
    have hls : ∀ l ∈ ls, 0 ≤ l ∧ l ≤ 5 := fun l' h' => hl l' (.tail _ h')
    refine AW.name (BW.loc (by kernel_rfl) ?_)
    with_reducible refine SW.cons ?_
    refine XW.assignName (EW.meth PySem.F.plainAttrs_dict PySem.F.slot_dict_get PySem.F.type_dict_get ?_)
    refine EW.loc (by kernel_rfl) (.dp 1 (by kernel_rfl) (by assumption)) ?_
    refine ⟨.dct hm, ?_⟩
    with_reducible refine EWs.cons ?_
    refine EW.callF W 28 (by kernel_rfl) (by kernel_rfl) (by kernel_rfl) ?_
    with_reducible refine EWs.cons ?_
    refine EW.loc (by kernel_rfl) (.dp 1 (by kernel_rfl) (by assumption)) ?_
    with_reducible refine EWs.cons ?_
    refine EW.loc (by kernel_rfl) .here ?_
    with_reducible refine EWs.cons ?_
    refine EW.loc (by kernel_rfl) (.dp 1 (by kernel_rfl) (by assumption)) ?_
    with_reducible refine EWs.nil ?_
    refine c_prefix_at W hl0.1 hl0.2 (by decide) ?_
    with_reducible refine EWs.nil ?_
    refine BiW.get1 hm ?_
    refine BW.loc (by kernel_rfl) ?_
    with_reducible refine SW.cons ?_
    with_reducible refine XW.ifs ?_
    with_reducible refine TW.cmp ?_ (by kernel_rfl)
    refine EW.loc (by kernel_rfl) .here ?_
    with_reducible refine EW.none ?_
    with_reducible refine OpW.isNotNone ?_
    with_reducible refine boolP ?_
    cases hk : look es (prefI addr l 5) with
    | none =>
      refine ⟨fun hb => absurd hb fnt, fun _ => ?_⟩
      with_reducible refine SW.nil ?_
      with_reducible refine SW.nil ?_
      refine ⟨rfl, ls, rfl, hls, ?_, (.dp 2 (by kernel_rfl) (by assumption)), (.dp 2 (by kernel_rfl) (by assumption)), (.dp 2 (by kernel_rfl) (by assumption))⟩
      rw [← hf, lookFrom, hk]
    | some d =>
      have hd := hv _ (look_mem hk)
      rw [show ((some d).getD D.none) = d from rfl]
      dsimp only at hd
      rw [hd]
      refine ⟨fun _ => ?_, fun hb => absurd hb tnf⟩
      with_reducible refine SW.cons ?_
      with_reducible refine XW.ret ?_
      refine EW.loc (by kernel_rfl) .here ?_
      rw [lookFrom, hk] at hf
      dsimp only at hf
      rw [← hf] at h
      exact h
  · rintro ρ' σ' ⟨rfl, ls, he, hl, hf, h1, h2, h3⟩
    cases ls with
    | cons _ _ => exact absurd he.symm (List.cons_ne_nil _ _)
    | nil =>
    with_reducible refine SW.cons ?_
    with_reducible refine XW.ret ?_
    with_reducible refine EW.none ?_
    rw [← hf] at h
    exact h
end
section
variable {P : Params} {mg mb : Str → Option Value} {prog : Program} {w : World} {h₀ : Heap} {k : Nat} {σ : Sto}

noncomputable def rankI (area : Int) (intra : Bool) : Int := if intra = true ∧ area ≠ 0 then 0 else 1
theorem c_rank_of (W : Wd (KH P) mg mb h₀) {area : Int} {intra : Bool} {Q : D → Sto → Prop} (h : Q (.int (rankI area intra)) σ) : FnW prog w h₀ (k + 1) 102 [.int area, .bool intra] σ Q := by
  refine FnW.go W (names := ["area", "is_intra"]) rfl rfl rfl (by dsimp only) rfl rfl rfl (by kernel_rfl) rfl rfl rfl (par2 fun a b => by rfl) rfl (by decide +kernel) (by kernel_rfl) (by simp only [List.zip_cons_cons, List.zip_nil_right]; exact rfl) ?_
  intro L cl q fn cd fr hcells
  with_reducible refine SW.cons ?_
  with_reducible refine XW.ret ?_
  with_reducible refine EW.ifexp ?_
  with_reducible refine TW.boolop ?_
  with_reducible refine AllW.and ?_
  with_reducible refine TW.name ?_
  refine EW.loc (by kernel_rfl) (.dp 1 (by kernel_rfl) .here) ?_
  with_reducible refine boolP ?_
  cases intra with
  | false =>
    refine ⟨fun _ => ?_, fun hb => absurd hb fnt⟩
    refine ⟨fun hb => absurd hb fnt, fun _ => ?_⟩
    with_reducible refine EW.int ?_
    exact h
  | true =>
    refine ⟨fun hb => absurd hb tnf, fun _ => ?_⟩
    with_reducible refine AllW.and ?_
    with_reducible refine TW.cmp ?_ (by kernel_rfl)
    refine EW.loc (by kernel_rfl) .here ?_
    refine EW.glob W (v := .int 0 318) (by kernel_rfl) (by kernel_rfl) (.int _ _) ?_
    with_reducible refine OpW.nei ?_
    with_reducible refine boolP ?_
    by_cases ha : area = 0
    · rw [show decide (area ≠ 0) = false by simp [ha]]
      refine ⟨fun _ => ?_, fun hb => absurd hb fnt⟩
      refine ⟨fun hb => absurd hb fnt, fun _ => ?_⟩
      with_reducible refine EW.int ?_
      rwa [show rankI area true = 1 by simp [rankI, ha]] at h
    · rw [show decide (area ≠ 0) = true by simp [ha]]
      refine ⟨fun hb => absurd hb tnf, fun _ => ?_⟩
      with_reducible refine AllW.nil ?_
      refine ⟨fun _ => ?_, fun hb => absurd hb tnf⟩
      with_reducible refine EW.int ?_
      rwa [show rankI area true = 0 by simp [rankI, ha]] at h
noncomputable abbrev wayD : D := .tup [.int 2, .tup [D.key [8, 1]], .int 0, .bool true]
set_option maxHeartbeats 1000000 in
theorem c_preferred_way (W : Wd (KH P) mg mb h₀) {aw : Addr} {Q : D → Sto → Prop} (hm : (aw, .lst [wayD]) ∈ σ) (h : Q wayD σ) : FnW prog w h₀ (k + 2) 109 [.ref aw] σ Q := by
  refine FnW.go W (names := ["ways"]) rfl rfl rfl (by dsimp only) rfl rfl rfl (by kernel_rfl) rfl rfl rfl (par1 fun a => by rfl) rfl (by decide +kernel) (by kernel_rfl) (by simp only [List.zip_cons_cons, List.zip_nil_right]; exact rfl) ?_
  intro L cl q fn cd fr hcells
  with_reducible refine SW.cons ?_
  refine XW.assignName ?_
  with_reducible refine EW.none ?_
  refine BW.loc (by kernel_rfl) ?_
  with_reducible refine SW.cons ?_
  refine XW.for ?_
  refine EW.loc (by kernel_rfl) (.dp 1 (by kernel_rfl) .here) ?_
  refine ⟨_, _, fun (rest : List D) (ρ' : Rho) (σ' : Sto) => σ' = σ ∧ ((rest = [wayD] ∧ Has ρ' "best" .none) ∨ (rest = [] ∧ ∃ d, Has ρ' "best" (.tup [d, wayD]))), Src.list (ds := [wayD]), ?_, ?_, ?_, ?_⟩
  · exact ⟨rfl, .inl ⟨rfl, .here⟩⟩
  · rintro _ _ _ ⟨rfl, _⟩
    exact hm
  · rintro d' rest ρ' σ' ⟨rfl, ⟨he, h1⟩ | ⟨he, _⟩⟩
    · obtain ⟨rfl, rfl⟩ := List.cons.inj he
      refine AW.name (BW.loc (by kernel_rfl) ?_)
      with_reducible refine SW.cons ?_
      refine XW.assignName ?_
      with_reducible refine EW.tuple ?_ (by kernel_rfl)
      with_reducible refine EWs.cons ?_
      refine EW.callF W 102 (by kernel_rfl) (by kernel_rfl) (by kernel_rfl) ?_
      with_reducible refine EWs.cons ?_
      refine EW.sub ?_
      refine EW.loc (by kernel_rfl) .here ?_
      with_reducible refine EW.int ?_
      refine SubW.tup (j := 2) (by rfl) (by rfl) ?_
      with_reducible refine EWs.cons ?_
      refine EW.sub ?_
      refine EW.loc (by kernel_rfl) .here ?_
      with_reducible refine EW.int ?_
      refine SubW.tup (j := 3) (by rfl) (by rfl) ?_
      with_reducible refine EWs.nil ?_
      refine c_rank_of W ?_
      with_reducible refine EWs.cons ?_
      refine EW.sub ?_
      refine EW.loc (by kernel_rfl) .here ?_
      with_reducible refine EW.int ?_
      refine SubW.tup (j := 0) (by rfl) (by rfl) ?_
      with_reducible refine EWs.cons ?_
      with_reducible refine EW.unop ?_
      refine EW.sub ?_
      refine EW.loc (by kernel_rfl) .here ?_
      with_reducible refine EW.int ?_
      refine SubW.tup (j := 2) (by rfl) (by rfl) ?_
      refine unop_neg ?_
      with_reducible refine EWs.nil ?_
      refine ⟨Nat.le_of_ble_eq_true rfl, ?_⟩
      refine BW.loc (by kernel_rfl) ?_
      with_reducible refine SW.cons ?_
      with_reducible refine XW.ifs ?_
      with_reducible refine TW.boolop ?_
      with_reducible refine AllW.or ?_
      with_reducible refine TW.cmp ?_ (by kernel_rfl)
      refine EW.loc (by kernel_rfl) (.dp 2 (by kernel_rfl) (by assumption)) ?_
      with_reducible refine EW.none ?_
      with_reducible refine OpW.isNone ?_
      with_reducible refine boolP ?_
      refine ⟨fun _ => ?_, fun hb => absurd hb tnf⟩
      refine ⟨fun _ => ?_, fun hb => absurd hb tnf⟩
      with_reducible refine SW.cons ?_
      refine XW.assignName ?_
      with_reducible refine EW.tuple ?_ (by kernel_rfl)
      with_reducible refine EWs.cons ?_
      refine EW.loc (by kernel_rfl) .here ?_
      with_reducible refine EWs.cons ?_
      refine EW.loc (by kernel_rfl) (.dp 1 (by kernel_rfl) .here) ?_
      with_reducible refine EWs.nil ?_
      refine ⟨Nat.le_of_ble_eq_true rfl, ?_⟩
      refine BW.loc (by kernel_rfl) ?_
      with_reducible refine SW.nil ?_
      with_reducible refine SW.nil ?_
      exact ⟨rfl, .inr ⟨rfl, _, .here⟩⟩
    · cases he
  · rintro ρ' σ' ⟨rfl, ⟨he, h1⟩ | ⟨he, d, h1⟩⟩
    · cases he
    with_reducible refine SW.cons ?_
    with_reducible refine XW.ret ?_
    with_reducible refine EW.ifexp ?_
    with_reducible refine TW.cmp ?_ (by kernel_rfl)
    refine EW.loc (by kernel_rfl) (by assumption) ?_
    with_reducible refine EW.none ?_
    with_reducible refine OpW.isNone ?_
    with_reducible refine boolP ?_
    refine ⟨fun hb => absurd hb fnt, fun _ => ?_⟩
    refine EW.sub ?_
    refine EW.loc (by kernel_rfl) (by assumption) ?_
    with_reducible refine EW.int ?_
    refine SubW.tup (j := 1) (by rfl) (by rfl) ?_
    exact h

noncomputable abbrev bodyD (f : Int) : D := .tup [.str "external", .int 0, .bool false, .int 4, .int f, .int 0]
noncomputable abbrev hopsD : Option (Int × Int) → D
  | none => .tup []
  | some x => .tup [D.key [x.1, x.2]]
/-- the way out by a route -/
noncomputable def outD (f : Int) (r : Rte) : Option (Int × Int) → D
  | none => .none
  | some x => .tup [.int r.cost, .tup [D.key [x.1, if x.2 = 0 then f else x.2]], .int (rankI r.area r.intra)]
theorem srtK_one {q : List Int} : srtK [q] = [q] := rfl
set_option maxHeartbeats 2000000 in
theorem c_way_out0 (W : Wd (KH P) mg mb h₀) {aw at' : Addr} {Q : D → Sto → Prop} (hm : (aw, .lst [wayD]) ∈ σ) (h : Q (.tup [.int 2, .tup [D.key [8, 1]], .int 1]) σ) : FnW prog w h₀ (k + 4) 114 [bodyD 0, .ref aw, .ref at', .int 5] σ Q := by
  refine FnW.go W (names := ["body", "ways", "table", "bits"]) rfl rfl rfl (by dsimp only) rfl rfl rfl (by kernel_rfl) rfl rfl rfl (par4 fun a b c d => by rfl) rfl (by decide +kernel) (by kernel_rfl) (by simp only [List.zip_cons_cons, List.zip_nil_right]; exact rfl) ?_
  intro L cl q fn cd fr hcells
  with_reducible refine SW.cons ?_
  refine XW.assignTuple (EW.sliceT (n := 6) ?_)
  refine EW.loc (by kernel_rfl) .here ?_
  refine ⟨_, rfl, by decide, by decide, ?_⟩
  refine AW.tuple rfl ?_
  refine BWs.cons (AW.name (BW.loc (by kernel_rfl) ?_))
  refine BWs.cons (AW.name (BW.loc (by kernel_rfl) ?_))
  refine BWs.cons (AW.name (BW.loc (by kernel_rfl) ?_))
  refine BWs.cons (AW.name (BW.loc (by kernel_rfl) ?_))
  refine BWs.cons (AW.name (BW.cell (by kernel_rfl) rfl (hcells _ (by kernel_rfl)) ?_))
  refine BWs.cons (AW.name (BW.loc (by kernel_rfl) ?_))
  refine BWs.nil ?_
  with_reducible refine SW.cons ?_
  with_reducible refine XW.ifs ?_
  with_reducible refine TW.cmp ?_ (by kernel_rfl)
  refine EW.cell (by kernel_rfl) (.dp 1 (by kernel_rfl) .here) ?_
  with_reducible refine EW.int ?_
  with_reducible refine OpW.eqi ?_
  with_reducible refine boolP ?_
  refine ⟨fun _ => ?_, fun hb => absurd hb tnf⟩
  with_reducible refine SW.cons ?_
  refine XW.assignName ?_
  refine EW.callF W 109 (by kernel_rfl) (by kernel_rfl) (by kernel_rfl) ?_
  with_reducible refine EWs.cons ?_
  refine EW.loc (by kernel_rfl) (.dp 7 (by kernel_rfl) .here) ?_
  with_reducible refine EWs.nil ?_
  refine c_preferred_way W hm ?_
  refine BW.loc (by kernel_rfl) ?_
  with_reducible refine SW.cons ?_
  with_reducible refine XW.ret ?_
  with_reducible refine EW.ifexp ?_
  with_reducible refine TW.cmp ?_ (by kernel_rfl)
  refine EW.loc (by kernel_rfl) .here ?_
  with_reducible refine EW.none ?_
  with_reducible refine OpW.isNone ?_
  with_reducible refine boolP ?_
  refine ⟨fun hb => absurd hb fnt, fun _ => ?_⟩
  with_reducible refine EW.tuple ?_ (by kernel_rfl)
  with_reducible refine EWs.cons ?_
  refine EW.sub ?_
  refine EW.loc (by kernel_rfl) .here ?_
  with_reducible refine EW.int ?_
  refine SubW.tup (j := 0) (by rfl) (by rfl) ?_
  with_reducible refine EWs.cons ?_
  refine EW.sub ?_
  refine EW.loc (by kernel_rfl) .here ?_
  with_reducible refine EW.int ?_
  refine SubW.tup (j := 1) (by rfl) (by rfl) ?_
  with_reducible refine EWs.cons ?_
  refine EW.callF W 102 (by kernel_rfl) (by kernel_rfl) (by kernel_rfl) ?_
  with_reducible refine EWs.cons ?_
  refine EW.sub ?_
  refine EW.loc (by kernel_rfl) .here ?_
  with_reducible refine EW.int ?_
  refine SubW.tup (j := 2) (by rfl) (by rfl) ?_
  with_reducible refine EWs.cons ?_
  refine EW.sub ?_
  refine EW.loc (by kernel_rfl) .here ?_
  with_reducible refine EW.int ?_
  refine SubW.tup (j := 3) (by rfl) (by rfl) ?_
  with_reducible refine EWs.nil ?_
  refine c_rank_of W ?_
  with_reducible refine EWs.nil ?_
  refine ⟨Nat.le_of_ble_eq_true rfl, ?_⟩
  exact h
set_option maxHeartbeats 2000000 in
theorem c_way_out (W : Wd (KH P) mg mb h₀) {aw at' : Addr} {es : List (List Int × D)} {f : Int} {Q : D → Sto → Prop} (hf : 0 < f) (hm : (at', .dct es) ∈ σ) (hv : ∀ e ∈ es, e.2.isNone = false)
    (h : (lookUp es f = .none ∧ Q .none σ) ∨ ∃ (r : Rte) (o : Option (Int × Int)), lookUp es f = rteD r ∧ r.hops = hopsD o ∧ Q (outD f r o) σ) : FnW prog w h₀ (k + 4) 114 [bodyD f, .ref aw, .ref at', .int 5] σ Q := by
  refine FnW.drop ?_
  refine FnW.go W (names := ["body", "ways", "table", "bits"]) rfl rfl rfl (by dsimp only) rfl rfl rfl (by kernel_rfl) rfl rfl rfl (par4 fun a b c d => by rfl) rfl (by decide +kernel) (by kernel_rfl) (by simp only [List.zip_cons_cons, List.zip_nil_right]; exact rfl) ?_
  intro L cl q fn cd fr hcells
  with_reducible refine SW.cons ?_
  refine XW.assignTuple (EW.sliceT (n := 6) ?_)
  refine EW.loc (by kernel_rfl) .here ?_
  refine ⟨_, rfl, Nat.le_of_ble_eq_true rfl, Nat.le_of_ble_eq_true rfl, ?_⟩
  refine AW.tuple rfl ?_
  refine BWs.cons (AW.name (BW.loc (by kernel_rfl) ?_))
  refine BWs.cons (AW.name (BW.loc (by kernel_rfl) ?_))
  refine BWs.cons (AW.name (BW.loc (by kernel_rfl) ?_))
  refine BWs.cons (AW.name (BW.loc (by kernel_rfl) ?_))
  refine BWs.cons (AW.name (BW.cell (by kernel_rfl) rfl (hcells _ (by kernel_rfl)) ?_))
  refine BWs.cons (AW.name (BW.loc (by kernel_rfl) ?_))
  refine BWs.nil ?_
  with_reducible refine SW.cons ?_
  with_reducible refine XW.ifs ?_
  with_reducible refine TW.cmp ?_ (by kernel_rfl)
  refine EW.cell (by kernel_rfl) (.dp 1 (by kernel_rfl) .here) ?_
  with_reducible refine EW.int ?_
  with_reducible refine OpW.eqi ?_
  with_reducible refine boolP ?_
  rw [show decide (f = 0) = false by simp; omega]
  refine ⟨fun hb => absurd hb fnt, fun _ => ?_⟩
  with_reducible refine SW.nil ?_
  with_reducible refine SW.cons ?_
  refine XW.assignName ?_
  refine EW.callF W 95 (by kernel_rfl) (by kernel_rfl) (by kernel_rfl) ?_
  with_reducible refine EWs.cons ?_
  refine EW.loc (by kernel_rfl) (.dp 8 (by kernel_rfl) .here) ?_
  with_reducible refine EWs.cons ?_
  refine EW.cell (by kernel_rfl) (.dp 1 (by kernel_rfl) .here) ?_
  with_reducible refine EWs.cons ?_
  refine EW.loc (by kernel_rfl) (.dp 9 (by kernel_rfl) .here) ?_
  with_reducible refine EWs.nil ?_
  refine c_looked_up W hm hv ?_
  refine BW.loc (by kernel_rfl) ?_
  with_reducible refine SW.cons ?_
  with_reducible refine XW.ifs ?_
  with_reducible refine TW.boolop ?_
  with_reducible refine AllW.or ?_
  with_reducible refine TW.cmp ?_ (by kernel_rfl)
  refine EW.loc (by kernel_rfl) .here ?_
  with_reducible refine EW.none ?_
  with_reducible refine OpW.isNone ?_
  with_reducible refine boolP ?_
  rcases h with ⟨e, h⟩ | ⟨r, o, e, hr, h⟩
  · rw [e]
    refine ⟨fun _ => ?_, fun hb => absurd hb tnf⟩
    refine ⟨fun _ => ?_, fun hb => absurd hb tnf⟩
    with_reducible refine SW.cons ?_
    with_reducible refine XW.ret ?_
    with_reducible refine EW.none ?_
    exact ⟨_, .refl _, h⟩
  rw [e]
  refine ⟨fun hb => absurd hb fnt, fun _ => ?_⟩
  with_reducible refine AllW.or ?_
  with_reducible refine TW.cmp ?_ (by kernel_rfl)
  refine EW.sub ?_
  refine EW.loc (by kernel_rfl) .here ?_
  with_reducible refine EW.int ?_
  refine SubW.tup (j := 1) (by rfl) (by rfl) ?_
  with_reducible refine EW.tuple ?_ (by kernel_rfl)
  with_reducible refine EWs.cons ?_
  with_reducible refine EW.str ?_
  with_reducible refine EWs.cons ?_
  with_reducible refine EW.str ?_
  with_reducible refine EWs.nil ?_
  refine ⟨Nat.le_of_ble_eq_true rfl, ?_⟩
  refine OpW.notinT (by decide +kernel) ?_ ?_ ?_
  · cases r.intra <;> decide +kernel
  · cases r.intra <;> decide +kernel
  with_reducible refine boolP ?_
  rw [show (([D.str "intra", D.str "inter"] : List D).any fun e => PyData.eqv e.py (D.str (sortS r.intra)).py) = true by cases r.intra <;> decide +kernel]
  refine ⟨fun hb => absurd hb fnt, fun _ => ?_⟩
  with_reducible refine AllW.or ?_
  with_reducible refine TW.cmp ?_ (by kernel_rfl)
  refine EW.bi W (by kernel_rfl) (by kernel_rfl) (v := .builtin "len") (by decide +kernel) (by decide +kernel) (.inl ⟨_, rfl⟩) ?_
  with_reducible refine EWs.cons ?_
  refine EW.sub ?_
  refine EW.loc (by kernel_rfl) .here ?_
  with_reducible refine EW.int ?_
  refine SubW.tup (j := 5) (by rfl) (by rfl) ?_
  with_reducible refine EWs.nil ?_
  rw [hr]
  cases o with
  | none =>
    refine BiW.lenT (Nat.le_of_ble_eq_true rfl) ?_
    with_reducible refine EW.int ?_
    with_reducible refine OpW.eqi ?_
    with_reducible refine boolP ?_
    refine ⟨fun _ => ?_, fun hb => absurd hb tnf⟩
    refine ⟨fun _ => ?_, fun hb => absurd hb tnf⟩
    with_reducible refine SW.cons ?_
    with_reducible refine XW.ret ?_
    with_reducible refine EW.none ?_
    exact ⟨_, .refl _, h⟩
  | some x =>
    refine BiW.lenT (Nat.le_of_ble_eq_true rfl) ?_
    with_reducible refine EW.int ?_
    with_reducible refine OpW.eqi ?_
    with_reducible refine boolP ?_
    refine ⟨fun hb => absurd hb fnt, fun _ => ?_⟩
    with_reducible refine AllW.nil ?_
    refine ⟨fun hb => absurd hb fnt, fun _ => ?_⟩
    with_reducible refine SW.nil ?_
    with_reducible refine SW.cons ?_
    refine XW.assignName ?_
    refine EW.bi W (by kernel_rfl) (by kernel_rfl) (v := .type "dict") (by decide +kernel) (by decide +kernel) (.inr ⟨_, rfl⟩) ?_
    refine EWs.cons ?_
    refine EW.comp (ρc := [("forward", .int f)]) (.of rfl (by kernel_rfl) hcells) (.cons (.dp 2 (by kernel_rfl) .here) (by kernel_rfl) (by kernel_rfl) (by kernel_rfl) .nil) ?_
    refine EW.sub ?_
    refine EW.loc (by kernel_rfl) .here ?_
    with_reducible refine EW.int ?_
    refine SubW.tup (j := 5) (by rfl) (by rfl) ?_
    rw [hr]
    refine ⟨_, _, fun (rest acc : List D) (σ' : Sto) => σ' = σ ∧ ((rest = [D.key [x.1, x.2]] ∧ acc = []) ∨ (rest = [] ∧ acc = [.tup [D.key [x.1, if x.2 = 0 then f else x.2], .bool true]])), Src.tuple, Nat.le_of_ble_eq_true rfl, trivial, ⟨rfl, .inl ⟨rfl, rfl⟩⟩, ?_, ?_, ?_⟩
    · intro _ _ _ _ _; trivial
    · rintro L2 cl2 d' rest acc σ' a ⟨rfl, ⟨e1, rfl⟩ | ⟨e1, _⟩⟩ ha
      · obtain ⟨rfl, rfl⟩ := List.cons.inj e1
        refine AW.tuple rfl ?_
        refine BWs.cons (AW.name (BW.loc (by kernel_rfl) ?_))
        refine BWs.cons (AW.name (BW.loc (by kernel_rfl) ?_))
        refine BWs.nil ⟨hasAll_cons (.dp 2 (by kernel_rfl) .here) hasAll_nil, ?_⟩
        · refine ⟨fun _ => ?_, fun hb => absurd hb tnf⟩
          with_reducible refine EW.tuple ?_ (by kernel_rfl)
          with_reducible refine EWs.cons ?_
          with_reducible refine EW.tuple ?_ (by kernel_rfl)
          with_reducible refine EWs.cons ?_
          refine EW.loc (by kernel_rfl) (.dp 1 (by kernel_rfl) .here) ?_
          with_reducible refine EWs.cons ?_
          with_reducible refine EW.ifexp ?_
          with_reducible refine TW.cmp ?_ (by kernel_rfl)
          refine EW.loc (by kernel_rfl) .here ?_
          with_reducible refine EW.int ?_
          with_reducible refine OpW.eqi ?_
          with_reducible refine boolP ?_
          by_cases hx : x.2 = 0
          · rw [show decide (x.2 = 0) = true by simp [hx]]
            refine ⟨fun _ => ?_, fun hb => absurd hb tnf⟩
            refine EW.cell (by kernel_rfl) (.dp 2 (by kernel_rfl) .here) ?_
            with_reducible refine EWs.nil ?_
            refine ⟨Nat.le_of_ble_eq_true rfl, ?_⟩
            with_reducible refine EWs.cons ?_
            with_reducible refine EW.bool ?_
            with_reducible refine EWs.nil ?_
            refine ⟨Nat.le_of_ble_eq_true rfl, ?_⟩
            exact ⟨_, rfl, rfl, .inr ⟨rfl, by rw [if_pos hx]; rfl⟩⟩
          · rw [show decide (x.2 = 0) = false by simp [hx]]
            refine ⟨fun hb => absurd hb fnt, fun _ => ?_⟩
            refine EW.loc (by kernel_rfl) .here ?_
            with_reducible refine EWs.nil ?_
            refine ⟨Nat.le_of_ble_eq_true rfl, ?_⟩
            with_reducible refine EWs.cons ?_
            with_reducible refine EW.bool ?_
            with_reducible refine EWs.nil ?_
            refine ⟨Nat.le_of_ble_eq_true rfl, ?_⟩
            exact ⟨_, rfl, rfl, .inr ⟨rfl, by rw [if_neg hx]; rfl⟩⟩
      · cases e1
    · rintro acc σ' a ⟨rfl, ⟨e1, _⟩ | ⟨_, rfl⟩⟩ ha
      · cases e1
      with_reducible refine EWs.nil ?_
      refine BiW.dictPairs1 W (.head _) fun b hb => ?_
      refine BW.loc (by kernel_rfl) ?_
      with_reducible refine SW.cons ?_
      with_reducible refine XW.ret ?_
      with_reducible refine EW.tuple ?_ (by kernel_rfl)
      with_reducible refine EWs.cons ?_
      refine EW.sub ?_
      refine EW.loc (by kernel_rfl) (.dp 1 (by kernel_rfl) .here) ?_
      with_reducible refine EW.int ?_
      refine SubW.tup (j := 2) (by rfl) (by rfl) ?_
      with_reducible refine EWs.cons ?_
      refine EW.bi W (by kernel_rfl) (by kernel_rfl) (v := .type "tuple") (by decide +kernel) (by decide +kernel) (.inr ⟨_, rfl⟩) ?_
      refine EWs.cons ?_
      refine EW.bi W (by kernel_rfl) (by kernel_rfl) (v := .builtin "sorted") (by decide +kernel) (by decide +kernel) (.inl ⟨_, rfl⟩) ?_
      with_reducible refine EWs.cons ?_
      refine EW.loc (by kernel_rfl) .here ?_
      with_reducible refine EWs.nil ?_
      refine BiW.sortedD (.head _) (fun e he => by rw [List.mem_singleton.mp he]; rfl) (Nat.le_of_ble_eq_true rfl) fun c hc => ?_
      with_reducible refine EWs.nil ?_
      refine BiW.tupleL (.head _) (Nat.le_of_ble_eq_true rfl) ?_
      with_reducible refine EWs.cons ?_
      refine EW.callF W 102 (by kernel_rfl) (by kernel_rfl) (by kernel_rfl) ?_
      with_reducible refine EWs.cons ?_
      refine EW.sub ?_
      refine EW.loc (by kernel_rfl) (.dp 1 (by kernel_rfl) .here) ?_
      with_reducible refine EW.int ?_
      refine SubW.tup (j := 4) (by rfl) (by rfl) ?_
      with_reducible refine EWs.cons ?_
      with_reducible refine EW.cmp ?_ (by kernel_rfl)
      refine EW.sub ?_
      refine EW.loc (by kernel_rfl) (.dp 1 (by kernel_rfl) .here) ?_
      with_reducible refine EW.int ?_
      refine SubW.tup (j := 1) (by rfl) (by rfl) ?_
      with_reducible refine EW.str ?_
      refine OpW.eqD (by cases r.intra <;> decide +kernel) (by decide +kernel) (by rfl) ?_
      rw [show PyData.eqv (D.str (sortS r.intra)).py (D.str "intra").py = r.intra by cases r.intra <;> decide +kernel]
      with_reducible refine EWs.nil ?_
      refine c_rank_of W ?_
      with_reducible refine EWs.nil ?_
      refine ⟨Nat.le_of_ble_eq_true rfl, ?_⟩
      exact ⟨_, .cons _ (.cons _ (.cons _ (.refl _))), h⟩

theorem c_external_worth (W : Wd (KH P) mg mb h₀) {f cost rk : Int} {hp : D} {Q : D → Sto → Prop} (h : Q (D.key [0, 0, rk, cost + 4]) σ) : FnW prog w h₀ (k + 1) 121 [bodyD f, .tup [.int cost, hp, .int rk]] σ Q := by
  refine FnW.go W (names := ["body", "way"]) rfl rfl rfl (by dsimp only) rfl rfl rfl (by kernel_rfl) rfl rfl rfl (par2 fun a b => by rfl) rfl (by decide +kernel) (by kernel_rfl) (by simp only [List.zip_cons_cons, List.zip_nil_right]; exact rfl) ?_
  intro L cl q fn cd fr hcells
  with_reducible refine SW.cons ?_
  with_reducible refine XW.ifs ?_
  with_reducible refine TW.sub ?_
  refine EW.sub ?_
  refine EW.loc (by kernel_rfl) .here ?_
  with_reducible refine EW.int ?_
  refine SubW.tup (j := 2) (by rfl) (by rfl) ?_
  with_reducible refine boolP ?_
  refine ⟨fun hb => absurd hb fnt, fun _ => ?_⟩
  with_reducible refine SW.nil ?_
  with_reducible refine SW.cons ?_
  with_reducible refine XW.ret ?_
  with_reducible refine EW.tuple ?_ (by kernel_rfl)
  with_reducible refine EWs.cons ?_
  with_reducible refine EW.int ?_
  with_reducible refine EWs.cons ?_
  with_reducible refine EW.int ?_
  with_reducible refine EWs.cons ?_
  refine EW.sub ?_
  refine EW.loc (by kernel_rfl) (.dp 1 (by kernel_rfl) .here) ?_
  with_reducible refine EW.int ?_
  refine SubW.tup (j := 2) (by rfl) (by rfl) ?_
  with_reducible refine EWs.cons ?_
  with_reducible refine EW.binop ?_
  refine EW.sub ?_
  refine EW.loc (by kernel_rfl) (.dp 1 (by kernel_rfl) .here) ?_
  with_reducible refine EW.int ?_
  refine SubW.tup (j := 0) (by rfl) (by rfl) ?_
  refine EW.sub ?_
  refine EW.loc (by kernel_rfl) .here ?_
  with_reducible refine EW.int ?_
  refine SubW.tup (j := 3) (by rfl) (by rfl) ?_
  with_reducible refine OpW.add ?_
  with_reducible refine EWs.nil ?_
  refine ⟨Nat.le_of_ble_eq_true rfl, ?_⟩
  exact h
theorem c_route_told (W : Wd (KH P) mg mb h₀) {rk cost : Int} {ah : Addr} {q hop : List Int} {Q : D → Sto → Prop} (hh : hop.length = 2) (hm : (ah, .lst [D.key hop]) ∈ σ) (h : Q (.tup [D.key q, .str "ext1", .int cost, .int 0, .int 0, .tup [D.key hop]]) σ) :
    FnW prog w h₀ (k + 1) 133 [D.key q, .tup [D.key [0, 0, rk, cost], .ref ah]] σ Q := by
  refine FnW.drop ?_
  refine FnW.go W (names := ["prefix", "found"]) rfl rfl rfl (by dsimp only) rfl rfl rfl (by kernel_rfl) rfl rfl rfl (par2 fun a b => by rfl) rfl (by decide +kernel) (by kernel_rfl) (by simp only [List.zip_cons_cons, List.zip_nil_right]; exact rfl) ?_
  intro L cl q fn cd fr hcells
  with_reducible refine SW.cons ?_
  refine XW.assignTuple ?_
  refine EW.loc (by kernel_rfl) (.dp 1 (by kernel_rfl) .here) ?_
  refine AW.tuple rfl ?_
  refine BWs.cons (AW.name (BW.loc (by kernel_rfl) ?_))
  refine BWs.cons (AW.name (BW.loc (by kernel_rfl) ?_))
  refine BWs.nil ?_
  with_reducible refine SW.cons ?_
  with_reducible refine XW.ifs ?_
  with_reducible refine TW.cmp ?_ (by kernel_rfl)
  refine EW.sub ?_
  refine EW.loc (by kernel_rfl) (.dp 1 (by kernel_rfl) .here) ?_
  with_reducible refine EW.int ?_
  refine SubW.tup (j := 0) (by rfl) (by rfl) ?_
  with_reducible refine EW.int ?_
  with_reducible refine OpW.eqi ?_
  with_reducible refine boolP ?_
  refine ⟨fun hb => absurd hb fnt, fun _ => ?_⟩
  with_reducible refine SW.nil ?_
  with_reducible refine SW.cons ?_
  with_reducible refine XW.ret ?_
  with_reducible refine EW.tuple ?_ (by kernel_rfl)
  with_reducible refine EWs.cons ?_
  refine EW.loc (by kernel_rfl) (.dp 2 (by kernel_rfl) .here) ?_
  with_reducible refine EWs.cons ?_
  with_reducible refine EW.str ?_
  with_reducible refine EWs.cons ?_
  refine EW.sub ?_
  refine EW.loc (by kernel_rfl) (.dp 1 (by kernel_rfl) .here) ?_
  with_reducible refine EW.int ?_
  refine SubW.tup (j := 3) (by rfl) (by rfl) ?_
  with_reducible refine EWs.cons ?_
  with_reducible refine EW.int ?_
  with_reducible refine EWs.cons ?_
  refine EW.glob W (v := .int 0 318) (by kernel_rfl) (by kernel_rfl) (.int _ _) ?_
  refine EWs.cons ?_
  refine EW.bi W (by kernel_rfl) (by kernel_rfl) (v := .type "tuple") (by decide +kernel) (by decide +kernel) (.inr ⟨_, rfl⟩) ?_
  refine EWs.cons ?_
  refine EW.bi W (by kernel_rfl) (by kernel_rfl) (v := .builtin "sorted") (by decide +kernel) (by decide +kernel) (.inl ⟨_, rfl⟩) ?_
  with_reducible refine EWs.cons ?_
  refine EW.loc (by kernel_rfl) .here ?_
  with_reducible refine EWs.nil ?_
  refine BiW.sortedL hm (sortOk_two (ds := [hop].map D.key) (twoOk_keys fun q hq => by rw [List.mem_singleton.mp hq]; exact hh)) (Nat.le_of_ble_eq_true rfl) fun b hb => ?_
  with_reducible refine EWs.nil ?_
  refine BiW.tupleL (.head _) (Nat.le_of_ble_eq_true rfl) ?_
  with_reducible refine EWs.nil ?_
  refine ⟨Nat.le_of_ble_eq_true rfl, ?_⟩
  exact ⟨_, .cons _ (.refl _), h⟩
noncomputable abbrev headD : D := .tup [.int 0, .int 0, .int 5, .int 0, .int 9, .int 1, .int 0]
noncomputable abbrev rowD (f : Int) : D := .tup [headD, bodyD f]
/-- what is told of an external way -/
noncomputable def toldD : Option (Int × List Int) → List D
  | none => []
  | some x => [.tup [D.key [0, 0], .str "ext1", .int (x.1 + 4), .int 0, .int 0, .tup [D.key x.2]]]
theorem prefI_zero : prefI 0 0 5 = [0, 0] := by decide +kernel
set_option maxHeartbeats 4000000 in
theorem c_external_routes (W : Wd (KH P) mg mb h₀) {arow al at' aw : Addr} {f : Int} {Q : D → Sto → Prop} (hmr : (arow, .lst [rowD f]) ∈ σ) (hml : (al, .dci [(9, .ref aw)]) ∈ σ) (o : Option (Int × List Int)) (ho : ∀ x, o = some x → x.2.length = 2)
    (hw : ∀ (σ1 : Sto) (Q1 : D → Sto → Prop), (∀ p ∈ σ, p ∈ σ1) → (∀ rk, Q1 (match o with | none => .none | some x => .tup [.int x.1, .tup [D.key x.2], .int rk]) σ1) → FnW prog w h₀ (k + 4) 114 [bodyD f, .ref aw, .ref at', .int 5] σ1 Q1)
    (h : ∀ b, ¬ dom σ b → Q (.ref b) ((b, .lst (toldD o)) :: σ)) : FnW prog w h₀ (k + 5) 126 [.ref arow, .int 1, .ref al, .ref at', .int 5] σ Q := by
  refine FnW.drop ?_
  refine FnW.go W (names := ["rows", "own", "leading", "table", "bits"]) rfl rfl rfl (by dsimp only) rfl rfl rfl (by kernel_rfl) rfl rfl rfl (par5 fun a b c d e => by rfl) rfl (by decide +kernel) (by kernel_rfl) (by simp only [List.zip_cons_cons, List.zip_nil_right]; exact rfl) ?_
  intro L cl q fn cd fr hcells
  with_reducible refine SW.cons ?_
  refine XW.assignName (EW.dict0 W fun a ha => ?_)
  refine BW.cell (by kernel_rfl) rfl (hcells _ (by kernel_rfl)) ?_
  with_reducible refine SW.cons ?_
  refine XW.for ?_
  refine EW.loc (by kernel_rfl) (.dp 1 (by kernel_rfl) .here) ?_
  refine ⟨_, _, fun (rest : List D) (ρ' : Rho) (σ' : Sto) => Has ρ' "own" (.int 1) ∧ Has ρ' "leading" (.ref al) ∧ Has ρ' "table" (.ref at') ∧ Has ρ' "bits" (.int 5) ∧ Has ρ' "best" (.ref a) ∧ ((rest = [rowD f] ∧ σ' = (a, .dct []) :: σ) ∨ (rest = [] ∧ ((o = none ∧ σ' = (a, .dct []) :: σ) ∨ ∃ x rk b, o = some x ∧ σ' = (b, .lst [D.key x.2]) :: (a, .dct [([0, 0], .tup [D.key [0, 0, rk, x.1 + 4], .ref b])]) :: σ))),
    Src.list (ds := [rowD f]), ?_, ?_, ?_, ?_⟩
  · exact ⟨(.dp 2 (by kernel_rfl) .here), (.dp 3 (by kernel_rfl) .here), (.dp 4 (by kernel_rfl) .here), (.dp 5 (by kernel_rfl) .here), .here, .inl ⟨rfl, rfl⟩⟩
  · rintro rest ρ' σ' ⟨_, _, _, _, _, ⟨_, rfl⟩ | ⟨_, ⟨_, rfl⟩ | ⟨_, _, _, _, rfl⟩⟩⟩
    · exact .tail _ hmr
    · exact .tail _ hmr
    · exact .tail _ (.tail _ hmr)
  · rintro d' rest ρ' σ' ⟨h1, h2, h3, h4, h5, ⟨he, rfl⟩ | ⟨he, _⟩⟩
    · obtain ⟨rfl, rfl⟩ := List.cons.inj he
      refine AW.tuple rfl ?_
      refine BWs.cons (AW.name (BW.loc (by kernel_rfl) ?_))
      refine BWs.cons (AW.name (BW.loc (by kernel_rfl) ?_))
      refine BWs.nil ?_
      with_reducible refine SW.cons ?_
      refine XW.assignTuple (EW.sliceT (n := 5) ?_)
      refine EW.loc (by kernel_rfl) (.dp 1 (by kernel_rfl) .here) ?_
      refine ⟨_, rfl, Nat.le_of_ble_eq_true rfl, Nat.le_of_ble_eq_true rfl, ?_⟩
      refine AW.tuple rfl ?_
      refine BWs.cons (AW.name (BW.loc (by kernel_rfl) ?_))
      refine BWs.cons (AW.name (BW.loc (by kernel_rfl) ?_))
      refine BWs.cons (AW.name (BW.loc (by kernel_rfl) ?_))
      refine BWs.cons (AW.name (BW.loc (by kernel_rfl) ?_))
      refine BWs.cons (AW.name (BW.loc (by kernel_rfl) ?_))
      refine BWs.nil ?_
      with_reducible refine SW.cons ?_
      with_reducible refine XW.ifs ?_
      with_reducible refine TW.boolop ?_
      with_reducible refine AllW.or ?_
      with_reducible refine TW.cmp ?_ (by kernel_rfl)
      refine EW.loc (by kernel_rfl) (.dp 2 (by kernel_rfl) .here) ?_
      refine EW.glob W (v := .int 5 316) (by kernel_rfl) (by kernel_rfl) (.int _ _) ?_
      with_reducible refine OpW.nei ?_
      with_reducible refine boolP ?_
      refine ⟨fun hb => absurd hb fnt, fun _ => ?_⟩
      with_reducible refine AllW.or ?_
      with_reducible refine TW.cmp ?_ (by kernel_rfl)
      refine EW.loc (by kernel_rfl) (.dp 4 (by kernel_rfl) .here) ?_
      refine EW.glob W (v := .int 3600 312) (by kernel_rfl) (by kernel_rfl) (.int _ _) ?_
      with_reducible refine OpW.ge ?_
      with_reducible refine boolP ?_
      refine ⟨fun hb => absurd hb fnt, fun _ => ?_⟩
      with_reducible refine AllW.or ?_
      with_reducible refine TW.cmp ?_ (by kernel_rfl)
      refine EW.loc (by kernel_rfl) .here ?_
      refine EW.loc (by kernel_rfl) (.dp 7 (by kernel_rfl) (by assumption)) ?_
      with_reducible refine OpW.eqi ?_
      with_reducible refine boolP ?_
      refine ⟨fun hb => absurd hb fnt, fun _ => ?_⟩
      with_reducible refine AllW.or ?_
      with_reducible refine TW.cmp ?_ (by kernel_rfl)
      refine EW.sub ?_
      refine EW.loc (by kernel_rfl) (.dp 5 (by kernel_rfl) .here) ?_
      with_reducible refine EW.int ?_
      refine SubW.tup (j := 3) (by rfl) (by rfl) ?_
      refine EW.glob W (v := .int 16777215 255) (by kernel_rfl) (by kernel_rfl) (.int _ _) ?_
      with_reducible refine OpW.ge ?_
      with_reducible refine boolP ?_
      refine ⟨fun hb => absurd hb fnt, fun _ => ?_⟩
      with_reducible refine AllW.or ?_
      with_reducible refine TW.cmp ?_ (by kernel_rfl)
      refine EW.loc (by kernel_rfl) .here ?_
      refine EW.loc (by kernel_rfl) (.dp 7 (by kernel_rfl) (by assumption)) ?_
      refine OpW.notinI (.tail _ hml) ?_
      with_reducible refine boolP ?_
      refine ⟨fun hb => absurd hb fnt, fun _ => ?_⟩
      with_reducible refine AllW.nil ?_
      refine ⟨fun hb => absurd hb fnt, fun _ => ?_⟩
      with_reducible refine SW.nil ?_
      with_reducible refine SW.cons ?_
      refine XW.assignName ?_
      refine EW.callF W 114 (by kernel_rfl) (by kernel_rfl) (by kernel_rfl) ?_
      with_reducible refine EWs.cons ?_
      refine EW.loc (by kernel_rfl) (.dp 5 (by kernel_rfl) .here) ?_
      with_reducible refine EWs.cons ?_
      refine EW.sub ?_
      refine EW.loc (by kernel_rfl) (.dp 7 (by kernel_rfl) (by assumption)) ?_
      refine EW.loc (by kernel_rfl) .here ?_
      refine SubW.dci (.tail _ hml) ?_
      with_reducible refine EWs.cons ?_
      refine EW.loc (by kernel_rfl) (.dp 7 (by kernel_rfl) (by assumption)) ?_
      with_reducible refine EWs.cons ?_
      refine EW.loc (by kernel_rfl) (.dp 7 (by kernel_rfl) (by assumption)) ?_
      with_reducible refine EWs.nil ?_
      refine hw _ _ (fun p hp => .tail _ hp) fun rk => ?_
      refine BW.loc (by kernel_rfl) ?_
      with_reducible refine SW.cons ?_
      with_reducible refine XW.ifs ?_
      with_reducible refine TW.cmp ?_ (by kernel_rfl)
      refine EW.loc (by kernel_rfl) .here ?_
      with_reducible refine EW.none ?_
      with_reducible refine OpW.isNone ?_
      with_reducible refine boolP ?_
      cases ho' : o with
      | none =>
        refine ⟨fun _ => ?_, fun hb => absurd hb tnf⟩
        with_reducible refine SW.cons ?_
        refine XW.cont ?_
        exact ⟨(.dp 8 (by kernel_rfl) (by assumption)), (.dp 8 (by kernel_rfl) (by assumption)), (.dp 8 (by kernel_rfl) (by assumption)), (.dp 8 (by kernel_rfl) (by assumption)), (.dp 8 (by kernel_rfl) (by assumption)), .inr ⟨rfl, .inl ⟨rfl, rfl⟩⟩⟩
      | some x =>
        refine ⟨fun hb => absurd hb fnt, fun _ => ?_⟩
        with_reducible refine SW.nil ?_
        with_reducible refine SW.cons ?_
        refine XW.assignTuple ?_
        refine EW.tuple (EWs.cons ?_)
        refine EW.callF W 28 (by kernel_rfl) (by kernel_rfl) (by kernel_rfl) ?_
        with_reducible refine EWs.cons ?_
        refine EW.loc (by kernel_rfl) (.dp 2 (by kernel_rfl) .here) ?_
        with_reducible refine EWs.cons ?_
        refine EW.sub ?_
        refine EW.loc (by kernel_rfl) (.dp 6 (by kernel_rfl) .here) ?_
        with_reducible refine EW.int ?_
        refine SubW.tup (j := 1) (by rfl) (by rfl) ?_
        with_reducible refine EWs.cons ?_
        refine EW.loc (by kernel_rfl) (.dp 8 (by kernel_rfl) (by assumption)) ?_
        with_reducible refine EWs.nil ?_
        refine c_prefix_at W (by decide) (by decide) (by decide) ?_
        rw [prefI_zero]
        refine EWs.cons ?_
        refine EW.callF W 121 (by kernel_rfl) (by kernel_rfl) (by kernel_rfl) ?_
        with_reducible refine EWs.cons ?_
        refine EW.loc (by kernel_rfl) (.dp 6 (by kernel_rfl) .here) ?_
        with_reducible refine EWs.cons ?_
        refine EW.loc (by kernel_rfl) .here ?_
        with_reducible refine EWs.nil ?_
        refine c_external_worth W ?_
        with_reducible refine EWs.nil ?_
        refine ⟨Nat.le_of_ble_eq_true rfl, ?_⟩
        refine AW.tuple rfl ?_
        refine BWs.cons (AW.name (BW.cell (by kernel_rfl) rfl (hcells _ (by kernel_rfl)) ?_))
        refine BWs.cons (AW.name (BW.loc (by kernel_rfl) ?_))
        refine BWs.nil ?_
        with_reducible refine SW.cons ?_
        with_reducible refine XW.ifs ?_
        with_reducible refine TW.boolop ?_
        with_reducible refine AllW.or ?_
        with_reducible refine TW.cmp ?_ (by kernel_rfl)
        refine EW.cell (by kernel_rfl) (.dp 1 (by kernel_rfl) .here) ?_
        refine EW.cell (by kernel_rfl) (.dp 10 (by kernel_rfl) (by assumption)) ?_
        refine OpW.notinD (.head _) ?_
        with_reducible refine boolP ?_
        refine ⟨fun _ => ?_, fun hb => absurd hb tnf⟩
        refine ⟨fun _ => ?_, fun hb => absurd hb tnf⟩
        with_reducible refine SW.cons ?_
        refine XW.assignSub ?_
        refine EW.tuple (EWs.cons ?_)
        refine EW.loc (by kernel_rfl) .here ?_
        with_reducible refine EWs.cons ?_
        refine EW.bi W (by kernel_rfl) (by kernel_rfl) (v := .type "list") (by decide +kernel) (by decide +kernel) (.inr ⟨_, rfl⟩) ?_
        with_reducible refine EWs.cons ?_
        refine EW.sub ?_
        refine EW.loc (by kernel_rfl) (.dp 2 (by kernel_rfl) .here) ?_
        with_reducible refine EW.int ?_
        refine SubW.tup (j := 1) (by rfl) (by rfl) ?_
        with_reducible refine EWs.nil ?_
        refine BiW.listT (Nat.le_of_ble_eq_true rfl) fun b hb => ?_
        with_reducible refine EWs.nil ?_
        refine ⟨Nat.le_of_ble_eq_true rfl, ?_⟩
        refine EW.cell (by kernel_rfl) (.dp 10 (by kernel_rfl) (by assumption)) ?_
        refine EW.cell (by kernel_rfl) (.dp 1 (by kernel_rfl) .here) ?_
        refine SetW.dct (.there .here) (Nat.le_of_ble_eq_true rfl) ?_
        with_reducible refine SW.nil ?_
        with_reducible refine SW.nil ?_
        exact ⟨(.dp 10 (by kernel_rfl) (by assumption)), (.dp 10 (by kernel_rfl) (by assumption)), (.dp 10 (by kernel_rfl) (by assumption)), (.dp 10 (by kernel_rfl) (by assumption)), (.dp 10 (by kernel_rfl) (by assumption)), .inr ⟨rfl, .inr ⟨x, rk, b, rfl, rfl⟩⟩⟩
    · cases he
  · rintro ρ' σ' ⟨h1, h2, h3, h4, h5, ⟨he, _⟩ | ⟨_, ⟨rfl, rfl⟩ | ⟨x, rk, b, rfl, rfl⟩⟩⟩
    · cases he
    · with_reducible refine SW.cons ?_
      with_reducible refine XW.ret ?_
      refine EW.comp (ρc := [("best", .ref a)]) (.of rfl (by kernel_rfl) hcells) (.cons (by assumption) (by kernel_rfl) (by kernel_rfl) (by kernel_rfl) .nil) ?_
      refine EW.bi W (by kernel_rfl) (by kernel_rfl) (v := .builtin "sorted") (by decide +kernel) (by decide +kernel) (.inl ⟨_, rfl⟩) ?_
      with_reducible refine EWs.cons ?_
      refine EW.cell (by kernel_rfl) (by assumption) ?_
      with_reducible refine EWs.nil ?_
      refine BiW.sortedD (.head _) (fun e he => absurd he List.not_mem_nil) (Nat.le_of_ble_eq_true rfl) fun c hc => ?_
      refine ⟨[], _, fun (rest acc : List D) (σ' : Sto) => σ' = (c, .lst []) :: (a, .dct []) :: σ ∧ rest = [] ∧ acc = [], Src.list, Nat.le_of_ble_eq_true rfl, .head _, ⟨rfl, rfl, rfl⟩, ?_, ?_, ?_⟩
      · rintro _ _ _ _ ⟨rfl, _⟩
        exact .tail _ (.head _)
      · rintro _ _ _ _ _ _ _ ⟨_, he, _⟩
        cases he
      · rintro acc σ' b ⟨rfl, _, rfl⟩ hb
        exact ⟨_, .cons_cons _ (.cons _ (.cons _ (.refl _))), h b fun hd => hb (.tail _ (.tail _ hd))⟩
    · with_reducible refine SW.cons ?_
      with_reducible refine XW.ret ?_
      refine EW.comp (ρc := [("best", .ref a)]) (.of rfl (by kernel_rfl) hcells) (.cons (by assumption) (by kernel_rfl) (by kernel_rfl) (by kernel_rfl) .nil) ?_
      refine EW.bi W (by kernel_rfl) (by kernel_rfl) (v := .builtin "sorted") (by decide +kernel) (by decide +kernel) (.inl ⟨_, rfl⟩) ?_
      with_reducible refine EWs.cons ?_
      refine EW.cell (by kernel_rfl) (by assumption) ?_
      with_reducible refine EWs.nil ?_
      refine BiW.sortedD (.tail _ (.head _)) (fun e he => by rw [List.mem_singleton.mp he]; rfl) (Nat.le_of_ble_eq_true rfl) fun c hc => ?_
      refine ⟨[D.key [0, 0]], _, fun (rest acc : List D) (σ' : Sto) => ((rest = [D.key [0, 0]] ∧ acc = []) ∨ (rest = [] ∧ acc = toldD (some x))) ∧ σ' = (c, .lst [D.key [0, 0]]) :: (b, .lst [D.key x.2]) :: (a, .dct [([0, 0], .tup [D.key [0, 0, rk, x.1 + 4], .ref b])]) :: σ, Src.list, Nat.le_of_ble_eq_true rfl, .head _, ⟨.inl ⟨rfl, rfl⟩, rfl⟩, ?_, ?_, ?_⟩
      · rintro _ _ _ _ ⟨_, rfl⟩
        exact .tail _ (.head _)
      · rintro L2 cl2 d' rest acc σ' g ⟨⟨he, rfl⟩ | ⟨he, _⟩, rfl⟩ hg
        · obtain ⟨rfl, rfl⟩ := List.cons.inj he
          refine AW.name (BW.loc (by kernel_rfl) ⟨hasAll_cons (.dp 1 (by kernel_rfl) .here) hasAll_nil, ?_⟩)
          · refine ⟨fun _ => ?_, fun hb => absurd hb tnf⟩
            refine EW.callF W 133 (by kernel_rfl) (by kernel_rfl) (by kernel_rfl) ?_
            with_reducible refine EWs.cons ?_
            refine EW.loc (by kernel_rfl) .here ?_
            with_reducible refine EWs.cons ?_
            refine EW.sub ?_
            refine EW.cell (by kernel_rfl) (.dp 1 (by kernel_rfl) .here) ?_
            refine EW.loc (by kernel_rfl) .here ?_
            refine SubW.dct (q := [0, 0]) (.tail _ (.tail _ (.tail _ (.head _)))) rfl ?_
            with_reducible refine EWs.nil ?_
            refine c_route_told W (ho x rfl) (.tail _ (.tail _ (.head _))) ?_
            exact ⟨_, rfl, .inr ⟨rfl, rfl⟩, rfl⟩
        · cases he
      · rintro acc σ' g ⟨⟨he, _⟩ | ⟨_, rfl⟩, rfl⟩ hg
        · cases he
        exact ⟨_, .cons_cons _ (.cons _ (.cons _ (.cons _ (.refl _)))), h g fun hd => hg (.tail _ (.tail _ (.tail _ hd)))⟩
end
section
variable {prog : Program} {w : World} {h₀ h h' : Heap} {k : Nat} {env : Env} {ρ ρ' ρc : Rho} {σ σ' : Sto}
theorem Loc.sub (L : Loc h₀ env ρ σ h) (hs : σ'.Sublist σ) : Loc h₀ env ρ σ' h :=
  { L with offL := fun hb => L.offL (dom_sub hs hb), offC := fun y c hc hb => L.offC y c hc (dom_sub hs hb) }
theorem FlowW.drop {t : Sem Flow} {N C : Rho → Sto → Prop} {Rt : D → Sto → Prop} (x : FlowW prog w h₀ k env ρ σ t (fun r s => ∃ s2, s2.Sublist s ∧ N r s2) (fun r s => ∃ s2, s2.Sublist s ∧ C r s2) (fun r s => ∃ s2, s2.Sublist s ∧ Rt r s2)) : FlowW prog w h₀ k env ρ σ t N C Rt :=
  fun A s E Q hA O L q => x A s E Q hA O L fun f σ' h' tk p O' g => by
    have gg := fun (s2 : Sto) (hs : s2.Sublist σ') => (⟨g.keep, fun b hb => g.new b (dom_sub hs hb)⟩ : GrowS env σ s.heap s2 h')
    cases f with
    | next => exact let ⟨r, ⟨s2, hs, hn⟩, l⟩ := p; q .next s2 h' tk ⟨r, hn, l.sub hs⟩ (O'.sub hs) (gg s2 hs)
    | cont => exact let ⟨r, ⟨s2, hs, hn⟩, l⟩ := p; q .cont s2 h' tk ⟨r, hn, l.sub hs⟩ (O'.sub hs) (gg s2 hs)
    | brk => exact p.elim
    | ret v => exact let ⟨d, ⟨s2, hs, hn⟩, r⟩ := p; q (.ret v) s2 h' tk ⟨d, hn, r⟩ (O'.sub hs) (gg s2 hs)
end
section
variable {P : Params} {mg mb : Str → Option Value} {prog : Program} {w : World} {h₀ : Heap} {k : Nat} {σ : Sto}

theorem fmod_in {a m : Int} (hm : 0 < m) : 0 ≤ Int.fmod a m ∧ Int.fmod a m < m := by
  rw [Int.fmod_eq_emod_of_nonneg a (by omega)]
  exact ⟨Int.emod_nonneg _ (by omega), Int.emod_lt_of_pos _ hm⟩
/-- a store with a pool in it -/
structure PoolF (σf : Int → Sto) (pool p0 : Addr) (ns : List Int) : Prop where
  upd : ∀ s s', Upd (σf s) pool (.arr [.ref p0, .int s]) (.arr [.ref p0, .int s']) (σf s')
  cells : ∀ s, (p0, .lst (ns.map .int)) ∈ σf s
  len : ns.length ≤ 100
set_option maxHeartbeats 1000000 in
theorem c_draw (W : Wd (KH P) mg mb h₀) {σf : Int → Sto} {pool p0 : Addr} {ns : List Int} (F : PoolF σf pool p0 ns) {spot many : Int} {Q : D → Sto → Prop} (h0 : 0 ≤ spot) (hmany : 0 < many) (h : ∀ v, 0 ≤ v → v < many → Q (.int v) (σf (spot + 1))) :
    FnW prog w h₀ (k + 1) 140 [.ref pool, .int many] (σf spot) Q := by
  have hl := F.len
  refine FnW.go W (names := ["pool", "many"]) rfl rfl rfl (by dsimp only) rfl rfl rfl (by kernel_rfl) rfl rfl rfl (par2 fun a b => by rfl) rfl (by decide +kernel) (by kernel_rfl) (by simp only [List.zip_cons_cons, List.zip_nil_right]; exact rfl) ?_
  intro L cl q fn cd fr hcells
  with_reducible refine SW.cons ?_
  refine XW.assignName ?_
  refine EW.sub ?_
  refine EW.loc (by kernel_rfl) .here ?_
  with_reducible refine EW.int ?_
  refine SubW.arr (F.upd spot spot).mem (by decide) rfl ?_
  refine BW.loc (by kernel_rfl) ?_
  with_reducible refine SW.cons ?_
  refine XW.assignSub ?_
  with_reducible refine EW.binop ?_
  refine EW.loc (by kernel_rfl) .here ?_
  with_reducible refine EW.int ?_
  with_reducible refine OpW.add ?_
  refine EW.loc (by kernel_rfl) (.dp 1 (by kernel_rfl) .here) ?_
  with_reducible refine EW.int ?_
  refine SetW.arr (F.upd spot (spot + 1)) (by decide) (by show (1 : Int) < 2; omega) (by decide) ?_
  with_reducible refine SW.cons ?_
  with_reducible refine XW.ifs ?_
  with_reducible refine TW.cmp ?_ (by kernel_rfl)
  refine EW.loc (by kernel_rfl) .here ?_
  refine EW.bi W (by kernel_rfl) (by kernel_rfl) (v := .builtin "len") (by decide +kernel) (by decide +kernel) (.inl ⟨_, rfl⟩) ?_
  with_reducible refine EWs.cons ?_
  refine EW.sub ?_
  refine EW.loc (by kernel_rfl) (.dp 1 (by kernel_rfl) .here) ?_
  with_reducible refine EW.int ?_
  refine SubW.arr (F.upd (spot + 1) spot).mem (by decide) rfl ?_
  with_reducible refine EWs.nil ?_
  refine BiW.lenL (F.cells _) (by simpa using Nat.le_trans hl (by decide)) ?_
  with_reducible refine OpW.lt ?_
  with_reducible refine boolP ?_
  rw [List.length_map]
  refine ⟨fun hc => ?_, fun hc => ?_⟩
  · have hlt : spot < ns.length := of_decide_eq_true hc
    with_reducible refine SW.cons ?_
    with_reducible refine XW.ret ?_
    with_reducible refine EW.binop ?_
    refine EW.bi W (by kernel_rfl) (by kernel_rfl) (v := .builtin "abs") (by decide +kernel) (by decide +kernel) (.inl ⟨_, rfl⟩) ?_
    with_reducible refine EWs.cons ?_
    refine EW.sub ?_
    refine EW.sub ?_
    refine EW.loc (by kernel_rfl) (.dp 1 (by kernel_rfl) .here) ?_
    with_reducible refine EW.int ?_
    refine SubW.arr (F.upd (spot + 1) spot).mem (by decide) rfl ?_
    refine EW.loc (by kernel_rfl) .here ?_
    have hi : spot.toNat < ns.length := by omega
    refine SubW.lst (d := .int ns[spot.toNat]) (F.cells _) h0 (by rw [List.getElem?_map, List.getElem?_eq_getElem hi]; rfl) ?_ (hhi := by omega)
    with_reducible refine EWs.nil ?_
    refine BiW.abs ?_
    refine EW.loc (by kernel_rfl) (.dp 2 (by kernel_rfl) .here) ?_
    refine OpW.mod (by omega) ?_
    exact h _ (fmod_in hmany).1 (fmod_in hmany).2
  · with_reducible refine SW.nil ?_
    with_reducible refine SW.cons ?_
    with_reducible refine XW.ret ?_
    with_reducible refine EW.binop ?_
    with_reducible refine EW.binop ?_
    with_reducible refine EW.binop ?_
    with_reducible refine EW.binop ?_
    with_reducible refine EW.int ?_
    refine EW.loc (by kernel_rfl) .here ?_
    refine OpW.mul (.inl (by decide)) ?_
    with_reducible refine EW.binop ?_
    refine EW.loc (by kernel_rfl) .here ?_
    with_reducible refine EW.int ?_
    refine OpW.floordiv (by decide) (PyProof.noPylong_small (by decide)) ?_
    with_reducible refine OpW.add ?_
    with_reducible refine EW.int ?_
    with_reducible refine OpW.add ?_
    refine EW.loc (by kernel_rfl) (.dp 2 (by kernel_rfl) .here) ?_
    refine OpW.mod (by omega) ?_
    exact h _ (fmod_in hmany).1 (fmod_in hmany).2
set_option maxHeartbeats 1000000 in
theorem c_prefix (W : Wd (KH P) mg mb h₀) {σf : Int → Sto} {pool p0 : Addr} {ns : List Int} (F : PoolF σf pool p0 ns) {spot : Int} {Q : D → Sto → Prop} (h0 : 0 ≤ spot)
    (h : ∀ x l, 1 ≤ l → l ≤ 4 → 0 ≤ x → x < 2 ^ l.toNat → Q (D.key [x * 2 ^ (5 - l).toNat, l]) (σf (spot + 1 + 1))) :
    FnW prog w h₀ (k + 2) 147 [.ref pool] (σf spot) Q := by
  refine FnW.go W (names := ["pool"]) rfl rfl rfl (by dsimp only) rfl rfl rfl (by kernel_rfl) rfl rfl rfl (par1 fun a => by rfl) rfl (by decide +kernel) (by kernel_rfl) (by simp only [List.zip_cons_cons, List.zip_nil_right]; exact rfl) ?_
  intro L cl q fn cd fr hcells
  with_reducible refine SW.cons ?_
  refine XW.assignName ?_
  with_reducible refine EW.binop ?_
  with_reducible refine EW.int ?_
  refine EW.callF W 140 (by kernel_rfl) (by kernel_rfl) (by kernel_rfl) ?_
  with_reducible refine EWs.cons ?_
  refine EW.loc (by kernel_rfl) .here ?_
  with_reducible refine EWs.cons ?_
  with_reducible refine EW.int ?_
  with_reducible refine EWs.nil ?_
  refine c_draw W F h0 (by decide) fun v hv0 hv1 => ?_
  with_reducible refine OpW.add ?_
  refine BW.loc (by kernel_rfl) ?_
  with_reducible refine SW.cons ?_
  with_reducible refine XW.ret ?_
  with_reducible refine EW.tuple ?_ (by kernel_rfl)
  with_reducible refine EWs.cons ?_
  with_reducible refine EW.binop ?_
  refine EW.callF W 140 (by kernel_rfl) (by kernel_rfl) (by kernel_rfl) ?_
  with_reducible refine EWs.cons ?_
  refine EW.loc (by kernel_rfl) (.dp 1 (by kernel_rfl) .here) ?_
  with_reducible refine EWs.cons ?_
  with_reducible refine EW.binop ?_
  with_reducible refine EW.int ?_
  refine EW.loc (by kernel_rfl) .here ?_
  refine OpW.pow (by omega) (by omega) (by decide) ?_
  with_reducible refine EWs.nil ?_
  refine c_draw W F (by omega) (Int.pow_pos (by decide)) fun x hx0 hx1 => ?_
  with_reducible refine EW.binop ?_
  with_reducible refine EW.int ?_
  with_reducible refine EW.binop ?_
  with_reducible refine EW.int ?_
  refine EW.loc (by kernel_rfl) .here ?_
  with_reducible refine OpW.sub ?_
  refine OpW.pow (by omega) (by omega) (by decide) ?_
  refine OpW.mul (.inl ?_) ?_
  · have : (2 : Int) ^ (1 + v).toNat ≤ 2 ^ 4 := by
      have : (2 : Nat) ^ (1 + v).toNat ≤ 2 ^ 4 := Nat.pow_le_pow_right (by decide) (by omega)
      exact_mod_cast this
    have e4 : (2 : Int) ^ 4 = 16 := by decide
    have e5 : (16 : Nat) < 2 ^ 62 := by decide
    omega
  with_reducible refine EWs.cons ?_
  refine EW.loc (by kernel_rfl) .here ?_
  with_reducible refine EWs.nil ?_
  refine ⟨Nat.le_of_ble_eq_true rfl, ?_⟩
  exact h x (1 + v) (by omega) (by omega) hx0 hx1
noncomputable def holdsL (pa pl a l : Int) : Bool := decide (pl ≤ l) && decide (Int.fdiv a (2 ^ (5 - pl).toNat) * 2 ^ (5 - pl).toNat = pa)
theorem pow_small {pl : Int} (h0 : 0 ≤ pl) (h1 : pl ≤ 5) : (0 : Int) < 2 ^ (5 - pl).toNat ∧ (2 : Int) ^ (5 - pl).toNat ≤ 32 := by
  refine ⟨Int.pow_pos (by decide), ?_⟩
  have : (2 : Nat) ^ (5 - pl).toNat ≤ 2 ^ 5 := Nat.pow_le_pow_right (by decide) (by omega)
  have e : (2 : Nat) ^ 5 = 32 := by decide
  rw [e] at this
  exact_mod_cast this
theorem c_holds (W : Wd (KH P) mg mb h₀) {pa pl a l : Int} {Q : D → Sto → Prop} (h0 : 0 ≤ pl) (h1 : pl ≤ 5) (h : Q (.bool (holdsL pa pl a l)) σ) : FnW prog w h₀ (k + 1) 154 [D.key [pa, pl], .int a, .int l] σ Q := by
  have hp := pow_small h0 h1
  refine FnW.go W (names := ["prefix", "address", "length"]) rfl rfl rfl (by dsimp only) rfl rfl rfl (by kernel_rfl) rfl rfl rfl (par3 fun a b c => by rfl) rfl (by decide +kernel) (by kernel_rfl) (by simp only [List.zip_cons_cons, List.zip_nil_right]; exact rfl) ?_
  intro L cl q fn cd fr hcells
  with_reducible refine SW.cons ?_
  refine XW.assignName ?_
  with_reducible refine EW.binop ?_
  with_reducible refine EW.int ?_
  with_reducible refine EW.binop ?_
  with_reducible refine EW.int ?_
  refine EW.sub ?_
  refine EW.loc (by kernel_rfl) .here ?_
  with_reducible refine EW.int ?_
  refine SubW.tup (j := 1) (by rfl) (by rfl) ?_
  with_reducible refine OpW.sub ?_
  refine OpW.pow (by omega) (by omega) (by decide) ?_
  refine BW.loc (by kernel_rfl) ?_
  with_reducible refine SW.cons ?_
  with_reducible refine XW.ret ?_
  with_reducible refine EW.and2 ?_
  with_reducible refine EW.cmp ?_ (by kernel_rfl)
  refine EW.loc (by kernel_rfl) (.dp 3 (by kernel_rfl) .here) ?_
  refine EW.sub ?_
  refine EW.loc (by kernel_rfl) (.dp 1 (by kernel_rfl) .here) ?_
  with_reducible refine EW.int ?_
  refine SubW.tup (j := 1) (by rfl) (by rfl) ?_
  with_reducible refine OpW.ge ?_
  with_reducible refine boolP ?_
  refine ⟨fun hb => ?_, fun hb => ?_⟩
  · rwa [show holdsL pa pl a l = false by unfold holdsL; rw [hb]; rfl] at h
  with_reducible refine EW.cmp ?_ (by kernel_rfl)
  with_reducible refine EW.binop ?_
  with_reducible refine EW.binop ?_
  refine EW.loc (by kernel_rfl) (.dp 2 (by kernel_rfl) .here) ?_
  refine EW.loc (by kernel_rfl) .here ?_
  refine OpW.floordiv (by omega) (PyProof.noPylong_small (by omega)) ?_
  refine EW.loc (by kernel_rfl) .here ?_
  have e5 : (32 : Nat) < 2 ^ 62 := by decide
  refine OpW.mul (.inr (by omega)) ?_
  refine EW.sub ?_
  refine EW.loc (by kernel_rfl) (.dp 1 (by kernel_rfl) .here) ?_
  with_reducible refine EW.int ?_
  refine SubW.tup (j := 0) (by rfl) (by rfl) ?_
  with_reducible refine OpW.eqi ?_
  rwa [show holdsL pa pl a l = decide (Int.fdiv a (2 ^ (5 - pl).toNat) * 2 ^ (5 - pl).toNat = pa) by unfold holdsL; rw [hb]; rfl] at h

abbrev Pr := Int × Int
noncomputable abbrev kD (r : Pr) : D := D.key [r.1, r.2]
noncomputable abbrev lkD (r : Pr) : D := .tup [.int r.2, kD r]
/-- what the law takes of the ranges that hold a net -/
noncomputable def lastOf (S : List Pr) : Option Pr := List.casesOn S none fun r s => List.casesOn s (some r) fun t _ => if t.2 < r.2 then some r else some t
theorem lastOf_none {S : List Pr} (h : lastOf S = none) : S = [] := by
  cases S with
  | nil => rfl
  | cons r s =>
    cases s with
    | nil => exact absurd h (Option.some_ne_none r)
    | cons t u =>
      replace h : (if t.2 < r.2 then some r else some t) = none := h
      split at h
      · exact absurd h (Option.some_ne_none r)
      · exact absurd h (Option.some_ne_none t)
noncomputable def lawStep (rs : List Pr) (acc : List (List Int)) (net : Pr) : List (List Int) := (lastOf (rs.filter fun r => holdsL r.1 r.2 net.1 net.2)).elim acc fun g => addK acc [g.1, g.2]
noncomputable def lawKeys (rs : List Pr) (nets : List Pr) : List (List Int) := nets.foldl (lawStep rs) []
theorem getLast_sorted {S : List Pr} (hS : S.length ≤ 2) (g : Pr) (hg : lastOf S = some g) : (srtBy ltTwo (S.map lkD)).getLast? = some (lkD g) := by
  cases S with
  | nil => exact absurd hg.symm (Option.some_ne_none g)
  | cons r s =>
    cases s with
    | nil => rw [← Option.some.inj hg]; rfl
    | cons t u =>
      obtain rfl : u = [] := List.length_eq_zero_iff.mp (Nat.le_zero.mp (Nat.le_of_succ_le_succ (Nat.le_of_succ_le_succ hS)))
      replace hg : (if t.2 < r.2 then some r else some t) = some g := hg
      have e : srtBy ltTwo ([r, t].map lkD) = (if (ltTwo (lkD t) (lkD r)) = true then [1, 0] else [0, 1]).map fun i => ([lkD r, lkD t] : List D).getD i .none := congrArg (List.map fun i => ([lkD r, lkD t] : List D).getD i .none) srtP_two
      have e2 : ltTwo (lkD t) (lkD r) = decide (t.2 < r.2) := by
        by_cases h : t.2 = r.2
        · exact (if_pos h).trans (decide_eq_false (h ▸ Int.lt_irrefl _)).symm
        · exact if_neg h
      rw [e, e2]
      by_cases h : t.2 < r.2
      · rw [if_pos h] at hg
        rw [if_pos (decide_eq_true h), ← Option.some.inj hg]; rfl
      · rw [if_neg h] at hg
        rw [if_neg (fun h' => h (of_decide_eq_true h')), ← Option.some.inj hg]; rfl
theorem lk_two {S : List Pr} (hSame : ∀ x ∈ S, ∀ y ∈ S, x.2 = y.2 → x = y) : TwoOk (S.map lkD) := by
  intro i j hi hj
  have hi' : i < S.length := List.length_map (f := lkD) ▸ hi
  have hj' : j < S.length := List.length_map (f := lkD) ▸ hj
  refine ⟨S[i].2, S[j].2, kD S[i], kD S[j], (by rw [getD_at hi, List.getElem_map]), (by rw [getD_at hj, List.getElem_map]), .inr ⟨key_pure _, key_pure _, by rfl, rfl, fun e => ?_⟩⟩
  rw [hSame S[i] (List.getElem_mem _) S[j] (List.getElem_mem _) e]
  exact D.eqv_self _
theorem keys_any {acc : List (List Int)} {q : List Int} : ((acc.map D.key).any fun e => PyData.eqv e.py (D.key q).py) = decide (q ∈ acc) := by
  induction acc with
  | nil => rfl
  | cons x acc ih =>
    rw [List.map_cons, List.any_cons, ih, key_eqv]
    by_cases h : x = q <;> simp [h, List.mem_cons]
    exact fun e => absurd e.symm h
theorem keys_pures {acc : List (List Int)} : D.pures (acc.map D.key) = true := by
  rw [D.pures_all, List.all_eq_true]
  intro d hd
  obtain ⟨q, _, rfl⟩ := List.mem_map.mp hd
  exact key_pure q
theorem lks_pures {S : List Pr} : D.pures (S.map lkD) = true := by
  rw [D.pures_all]
  simp only [List.all_map, List.all_eq_true]
  intro x _
  rfl
set_option maxHeartbeats 4000000 in
theorem c_active (W : Wd (KH P) mg mb h₀) {an ar : Addr} {nets rs : List Pr} {Q : D → Sto → Prop} (hmn : (an, .lst (nets.map kD)) ∈ σ) (hmr : (ar, .lst (rs.map kD)) ∈ σ) (hn : nets.length ≤ 6) (hr : rs.length ≤ 2) (hok : ∀ r ∈ rs, OkP r.1 r.2)
    (hSame : ∀ net ∈ nets, ∀ x ∈ rs.filter (fun r => holdsL r.1 r.2 net.1 net.2), ∀ y ∈ rs.filter (fun r => holdsL r.1 r.2 net.1 net.2), x.2 = y.2 → x = y)
    (h : ∀ b, ¬ dom σ b → Q (.ref b) ((b, .lst ((srtK (lawKeys rs nets)).map D.key)) :: σ)) : FnW prog w h₀ (k + 2) 159 [.ref an, .ref ar] σ Q := by
  refine FnW.drop ?_
  refine FnW.go W (names := ["nets", "ranges"]) rfl rfl rfl (by dsimp only) rfl rfl rfl (by kernel_rfl) rfl rfl rfl (par2 fun a b => by rfl) rfl (by decide +kernel) (by kernel_rfl) (by simp only [List.zip_cons_cons, List.zip_nil_right]; exact rfl) ?_
  intro L cl q fn cd fr hcells
  with_reducible refine SW.cons ?_
  refine XW.assignName (EW.list (EWs.nil ⟨Nat.le_of_ble_eq_true rfl, fun a ha => ?_⟩))
  refine BW.loc (by kernel_rfl) ?_
  with_reducible refine SW.cons ?_
  refine XW.for ?_
  refine EW.loc (by kernel_rfl) (.dp 1 (by kernel_rfl) .here) ?_
  refine ⟨_, _, fun (rest : List D) (ρ' : Rho) (σ' : Sto) => ∃ (nets' : List Pr) (acc : List (List Int)), (∀ n ∈ nets', n ∈ nets) ∧ σ' = (a, .lst (acc.map D.key)) :: σ ∧ rest = nets'.map kD ∧ (∀ q ∈ acc, q.length = 2) ∧ acc.length + nets'.length ≤ 6 ∧ nets'.foldl (lawStep rs) acc = lawKeys rs nets ∧ Has ρ' "ranges" (.ref ar) ∧ Has ρ' "found" (.ref a),
    Src.list (ds := nets.map kD), ?_, ?_, ?_, ?_⟩
  · exact ⟨nets, [], fun _ h => h, rfl, rfl, (fun _ hq => absurd hq List.not_mem_nil), by simpa using hn, rfl, (.dp 2 (by kernel_rfl) .here), .here⟩
  · rintro rest ρ' σ' ⟨_, _, _, rfl, _⟩
    exact .tail _ hmn
  · rintro d' rest ρ' σ' ⟨nets', acc, hsub, rfl, he, hq, hle, hf, h1, h2⟩
    cases nets' with
    | nil => exact absurd he (List.cons_ne_nil _ _)
    | cons net nets' =>
    obtain ⟨rfl, rfl⟩ := List.cons.inj he
    rw [List.foldl_cons] at hf
    have hle' : acc.length + (nets'.length + 1) ≤ 6 := hle
    have hS := hSame net (hsub _ (.head _))
    have hsub' : ∀ n ∈ nets', n ∈ nets := fun n h => hsub n (.tail _ h)
    refine AW.tuple rfl ?_
    refine BWs.cons (AW.name (BW.cell (by kernel_rfl) rfl (hcells _ (by kernel_rfl)) ?_))
    refine BWs.cons (AW.name (BW.cell (by kernel_rfl) rfl (hcells _ (by kernel_rfl)) ?_))
    refine BWs.nil ?_
    refine FlowW.drop ?_
    with_reducible refine SW.cons ?_
    refine XW.assignName ?_
    refine EW.bi W (by kernel_rfl) (by kernel_rfl) (v := .builtin "sorted") (by decide +kernel) (by decide +kernel) (.inl ⟨_, rfl⟩) ?_
    refine EWs.cons ?_
    refine EW.comp (ρc := [("address", .int net.1), ("length", .int net.2)]) (.of rfl (by kernel_rfl) hcells) (.cons (.dp 1 (by kernel_rfl) .here) (by kernel_rfl) (by kernel_rfl) (by kernel_rfl) (.cons .here (by kernel_rfl) (by kernel_rfl) (by kernel_rfl) .nil)) ?_
    refine EW.loc (by kernel_rfl) (.dp 2 (by kernel_rfl) (by assumption)) ?_
    refine ⟨_, _, fun (rest ac : List D) (σ' : Sto) => σ' = (a, .lst (acc.map D.key)) :: σ ∧ ∃ rs1 rs2 : List Pr, rs = rs1 ++ rs2 ∧ rest = rs2.map kD ∧ ac = (rs1.filter fun r => holdsL r.1 r.2 net.1 net.2).map lkD, Src.list (ds := rs.map kD), by simpa using Nat.le_trans hr (by decide), .tail _ hmr, ⟨rfl, [], rs, rfl, rfl, rfl⟩, ?_, ?_, ?_⟩
    · rintro _ _ _ _ ⟨rfl, _⟩
      exact .tail _ (.tail _ hmr)
    · rintro L2 cl2 d' rest ac σ' c ⟨rfl, rs1, rs2, e1, e2, rfl⟩ hc
      cases rs2 with
      | nil => exact absurd e2 (List.cons_ne_nil _ _)
      | cons r rs2 =>
      obtain ⟨rfl, rfl⟩ := List.cons.inj e2
      have hro := hok r (e1 ▸ List.mem_append_right _ (.head _))
      refine AW.name (BW.loc (by kernel_rfl) ⟨hasAll_cons ?_ (hasAll_cons ?_ hasAll_nil), ?_⟩)
      · exact (.dp 1 (by kernel_rfl) .here)
      · exact (.dp 2 (by kernel_rfl) .here)
      · refine TW.call ?_
        refine EW.callF W 154 (by kernel_rfl) (by kernel_rfl) (by kernel_rfl) ?_
        with_reducible refine EWs.cons ?_
        refine EW.loc (by kernel_rfl) .here ?_
        with_reducible refine EWs.cons ?_
        refine EW.cell (by kernel_rfl) (.dp 1 (by kernel_rfl) .here) ?_
        with_reducible refine EWs.cons ?_
        refine EW.cell (by kernel_rfl) (.dp 2 (by kernel_rfl) .here) ?_
        with_reducible refine EWs.nil ?_
        refine c_holds W hro.1 hro.2 ?_
        with_reducible refine boolP ?_
        refine ⟨fun hb => ?_, fun hb => ?_⟩
        · with_reducible refine EW.tuple ?_ (by kernel_rfl)
          with_reducible refine EWs.cons ?_
          refine EW.sub ?_
          refine EW.loc (by kernel_rfl) .here ?_
          with_reducible refine EW.int ?_
          refine SubW.tup (j := 1) (by rfl) (by rfl) ?_
          with_reducible refine EWs.cons ?_
          refine EW.loc (by kernel_rfl) .here ?_
          with_reducible refine EWs.nil ?_
          refine ⟨Nat.le_of_ble_eq_true rfl, ?_⟩
          exact ⟨_, rfl, rfl, rs1 ++ [r], rs2, by rw [e1, List.append_assoc]; rfl, rfl, by rw [List.filter_append, List.map_append]; simp [hb]⟩
        · exact ⟨_, rfl, rfl, rs1 ++ [r], rs2, by rw [e1, List.append_assoc]; rfl, rfl, by rw [List.filter_append, List.map_append]; simp [hb]⟩
    · rintro ac σ' c ⟨rfl, rs1, rs2, e1, e2, rfl⟩ hc
      cases rs2 with
      | cons _ _ => exact absurd e2.symm (List.cons_ne_nil _ _)
      | nil =>
      rw [List.append_nil] at e1
      subst e1
      generalize hSS : (rs.filter fun r => holdsL r.1 r.2 net.1 net.2) = S at hS ⊢
      have hSl : S.length ≤ 2 := by rw [← hSS]; exact Nat.le_trans (List.length_filter_le _ _) hr
      with_reducible refine EWs.nil ?_
      refine BiW.sortedL (.head _) (sortOk_two (lk_two hS)) (by simpa using Nat.le_trans hSl (by decide)) fun e hee => ?_
      refine BW.loc (by kernel_rfl) ?_
      with_reducible refine SW.cons ?_
      with_reducible refine XW.ifs ?_
      with_reducible refine TW.boolop ?_
      with_reducible refine AllW.and ?_
      with_reducible refine TW.cmp ?_ (by kernel_rfl)
      refine EW.loc (by kernel_rfl) .here ?_
      with_reducible refine EW.list ?_ (by kernel_rfl)
      with_reducible refine EWs.nil ?_
      refine ⟨Nat.le_of_ble_eq_true rfl, ?_⟩
      intro n hnn
      have hperm : (srtBy ltTwo (S.map lkD)).Perm (S.map lkD) := srtBy_perm (by simpa using Nat.le_trans hSl (by decide))
      refine OpW.neL (ds := srtBy ltTwo (S.map lkD)) (es := []) (.tail _ (.head _)) (.head _) (by rw [D.pures_all, List.all_eq_true]; intro x hx; exact List.all_eq_true.mp (by have := lks_pures (S := S); rwa [D.pures_all] at this) x (hperm.mem_iff.mp hx)) rfl (Nat.le_of_ble_eq_true rfl) ?_
      cases hlast : lastOf S with
      | none =>
        have hS0 : S = [] := lastOf_none hlast
        rw [show lawStep rs acc net = acc by unfold lawStep; rw [hSS, hlast]; rfl] at hf
        subst hS0
        rw [show (!PyData.eqvAll (D.pys (srtBy ltTwo (([] : List Pr).map lkD))) (D.pys [])) = false from rfl]
        with_reducible refine boolP ?_
        refine ⟨fun _ => ?_, fun hb => absurd hb fnt⟩
        refine ⟨fun hb => absurd hb fnt, fun _ => ?_⟩
        with_reducible refine SW.nil ?_
        with_reducible refine SW.nil ?_
        exact ⟨_, .cons _ (.cons _ (.cons _ (.refl _))), nets', acc, hsub', rfl, rfl, hq, by omega, hf, (.dp 3 (by kernel_rfl) (by assumption)), (.dp 3 (by kernel_rfl) (by assumption))⟩
      | some g =>
        have hg := getLast_sorted hSl g hlast
        rw [show lawStep rs acc net = addK acc [g.1, g.2] by unfold lawStep; rw [hSS, hlast]; rfl] at hf
        rw [show (!PyData.eqvAll (D.pys (srtBy ltTwo (S.map lkD))) (D.pys [])) = true by
          cases hx : srtBy ltTwo (S.map lkD) with
          | nil => rw [hx] at hg; cases hg
          | cons y ys => rfl]
        with_reducible refine boolP ?_
        refine ⟨fun hb => absurd hb tnf, fun _ => ?_⟩
        with_reducible refine AllW.and ?_
        with_reducible refine TW.cmp ?_ (by kernel_rfl)
        refine EW.sub ?_
        refine EW.sub ?_
        refine EW.loc (by kernel_rfl) .here ?_
        with_reducible refine EW.unop ?_
        with_reducible refine EW.int ?_
        refine unop_neg ?_
        refine SubW.last (.tail _ (.head _)) hg ?_
        with_reducible refine EW.int ?_
        refine SubW.tup (j := 1) (by rfl) (by rfl) ?_
        refine EW.loc (by kernel_rfl) (.dp 3 (by kernel_rfl) (by assumption)) ?_
        refine OpW.notinL (.tail _ (.tail _ (.tail _ (.head _)))) keys_pures (key_pure _) (by rfl) ?_
        rw [keys_any]
        by_cases hmem : [g.1, g.2] ∈ acc
        · rw [show decide ([g.1, g.2] ∈ acc) = true by simpa using hmem]
          rw [show addK acc [g.1, g.2] = acc from if_pos hmem] at hf
          with_reducible refine boolP ?_
          refine ⟨fun _ => ?_, fun hb => absurd hb fnt⟩
          refine ⟨fun hb => absurd hb fnt, fun _ => ?_⟩
          with_reducible refine SW.nil ?_
          with_reducible refine SW.nil ?_
          exact ⟨_, .cons _ (.cons _ (.cons _ (.refl _))), nets', acc, hsub', rfl, rfl, hq, by omega, hf, (.dp 3 (by kernel_rfl) (by assumption)), (.dp 3 (by kernel_rfl) (by assumption))⟩
        · rw [show decide ([g.1, g.2] ∈ acc) = false by simpa using hmem]
          with_reducible refine boolP ?_
          refine ⟨fun hb => absurd hb tnf, fun _ => ?_⟩
          with_reducible refine AllW.nil ?_
          refine ⟨fun _ => ?_, fun hb => absurd hb tnf⟩
          with_reducible refine SW.cons ?_
          refine XW.expr (EW.meth PySem.F.plainAttrs_list PySem.F.slot_list_append PySem.F.type_list_append ?_)
          refine EW.loc (by kernel_rfl) (.dp 3 (by kernel_rfl) (by assumption)) ?_
          refine ⟨.lst (.tail _ (.tail _ (.tail _ (.head _)))), ?_⟩
          with_reducible refine EWs.cons ?_
          refine EW.sub ?_
          refine EW.sub ?_
          refine EW.loc (by kernel_rfl) .here ?_
          with_reducible refine EW.unop ?_
          with_reducible refine EW.int ?_
          refine unop_neg ?_
          refine SubW.last (.tail _ (.head _)) hg ?_
          with_reducible refine EW.int ?_
          refine SubW.tup (j := 1) (by rfl) (by rfl) ?_
          with_reducible refine EWs.nil ?_
          refine BiW.append (.there (.there (.there .here))) (by simp; omega) ⟨rfl, ?_⟩
          with_reducible refine SW.nil ?_
          with_reducible refine SW.nil ?_
          have hadd : addK acc [g.1, g.2] = acc ++ [[g.1, g.2]] := if_neg hmem
          exact ⟨_, .cons _ (.cons _ (.cons _ (.refl _))), nets', addK acc [g.1, g.2], hsub', by rw [hadd, List.map_append]; rfl, rfl, addK_two hq, by rw [hadd]; simp; omega, hf, (.dp 3 (by kernel_rfl) (by assumption)), (.dp 3 (by kernel_rfl) (by assumption))⟩
  · rintro ρ' σ' ⟨nets', acc, _, rfl, he, hq, hle, hf, h1, h2⟩
    cases nets' with
    | cons _ _ => exact absurd he.symm (List.cons_ne_nil _ _)
    | nil =>
    with_reducible refine SW.cons ?_
    with_reducible refine XW.ret ?_
    refine EW.bi W (by kernel_rfl) (by kernel_rfl) (v := .builtin "sorted") (by decide +kernel) (by decide +kernel) (.inl ⟨_, rfl⟩) ?_
    with_reducible refine EWs.cons ?_
    refine EW.loc (by kernel_rfl) (by assumption) ?_
    with_reducible refine EWs.nil ?_
    have hf' : acc = lawKeys rs nets := hf
    refine BiW.sortedL (.head _) (sortOk_two (twoOk_keys hq)) (by simpa using hle) fun b hb => ?_
    rw [srtBy_keys hle, hf']
    exact ⟨_, .cons_cons _ (.cons _ (.refl _)), h b fun hd => hb (.tail _ hd)⟩
end
section
variable {P : Params} {mg mb : Str → Option Value} {prog : Program} {w : World} {h₀ : Heap} {k : Nat} {σ : Sto}

noncomputable def hk (q : List Int) (addr : Int) : Bool := holdsL (q.getD 0 0) (q.getD 1 0) addr 5
noncomputable def dueStep (addr : Int) (best : Option (List Int)) (q : List Int) : Option (List Int) := if hk q addr && best.all fun b => decide (b.getD 1 0 < q.getD 1 0) then some q else best
/-- all keys: the nets', then the active ranges' that are no nets' -/
noncomputable def allKeys (es : List (List Int × D)) (act : List (List Int)) : List (List Int) := es.map (·.1) ++ act.filter fun q => !(look es q).isSome
noncomputable def dueBest (es : List (List Int × D)) (act : List (List Int)) (addr : Int) : Option (List Int) := (srtK (allKeys es act)).foldl (dueStep addr) none
noncomputable def dueD (es : List (List Int × D)) (act : List (List Int)) (addr : Int) : D := Option.casesOn (dueBest es act addr) .none fun q => (look es q).getD (dropD q)
noncomputable abbrev bestD (b : Option (List Int)) : D := Option.casesOn b .none fun q => D.key q
noncomputable def Okk (q : List Int) : Prop := ∃ x y, q = [x, y] ∧ OkP x y
theorem dueStep_no {addr : Int} {b : Option (List Int)} {q : List Int} (h : hk q addr = false) : dueStep addr b q = b := by unfold dueStep; rw [h]; rfl
theorem dueStep_none {addr : Int} {q : List Int} (h : hk q addr = true) : dueStep addr none q = some q := by unfold dueStep; rw [h]; rfl
theorem dueStep_lt {addr : Int} {b q : List Int} (h : hk q addr = true) (hc : decide (b.getD 1 0 < q.getD 1 0) = true) : dueStep addr (some b) q = some q := by
  unfold dueStep
  rw [h, show ((some b).all fun b => decide (b.getD 1 0 < q.getD 1 0)) = true from hc]; rfl
theorem dueStep_ge {addr : Int} {b q : List Int} (h : hk q addr = true) (hc : decide (b.getD 1 0 < q.getD 1 0) = false) : dueStep addr (some b) q = some b := by
  unfold dueStep
  rw [h, show ((some b).all fun b => decide (b.getD 1 0 < q.getD 1 0)) = false from hc]; rfl
set_option maxHeartbeats 4000000 in
theorem c_due (W : Wd (KH P) mg mb h₀) {ah aa : Addr} {es : List (List Int × D)} {act : List (List Int)} {addr : Int} {Q : D → Sto → Prop} (hmh : (ah, .dct es) ∈ σ) (hma : (aa, .lst (act.map D.key)) ∈ σ) (hl : es.length + act.length ≤ 6) (hk1 : ∀ e ∈ es, Okk e.1) (hk2 : ∀ q ∈ act, Okk q)
    (h : Q (dueD es act addr) σ) : FnW prog w h₀ (k + 2) 164 [.ref ah, .ref aa, .int addr] σ Q := by
  have hall : ∀ q ∈ allKeys es act, Okk q := by
    intro q hq
    rcases List.mem_append.mp hq with hq | hq
    · obtain ⟨e, he, rfl⟩ := List.mem_map.mp hq; exact hk1 e he
    · exact hk2 q (List.mem_filter.mp hq).1
  have hlen : (allKeys es act).length ≤ 6 := by
    have := List.length_filter_le (fun q => !(look es q).isSome) act
    unfold allKeys
    rw [List.length_append, List.length_map]
    omega
  have htwo : ∀ q ∈ allKeys es act, q.length = 2 := fun q hq => by obtain ⟨x, y, rfl, _⟩ := hall q hq; rfl
  refine FnW.drop ?_
  refine FnW.go W (names := ["held", "active", "address"]) rfl rfl rfl (by dsimp only) rfl rfl rfl (by kernel_rfl) rfl rfl rfl (par3 fun a b c => by rfl) rfl (by decide +kernel) (by kernel_rfl) (by simp only [List.zip_cons_cons, List.zip_nil_right]; exact rfl) ?_
  intro L cl q fn cd fr hcells
  with_reducible refine SW.cons ?_
  refine XW.assignName ?_
  with_reducible refine EW.none ?_
  refine BW.loc (by kernel_rfl) ?_
  with_reducible refine SW.cons ?_
  refine XW.for ?_
  refine EW.bi W (by kernel_rfl) (by kernel_rfl) (v := .builtin "sorted") (by decide +kernel) (by decide +kernel) (.inl ⟨_, rfl⟩) ?_
  refine EWs.cons ?_
  refine EW.binop ?_
  refine EW.bi W (by kernel_rfl) (by kernel_rfl) (v := .type "list") (by decide +kernel) (by decide +kernel) (.inr ⟨_, rfl⟩) ?_
  with_reducible refine EWs.cons ?_
  refine EW.cell (by kernel_rfl) (.dp 1 (by kernel_rfl) .here) ?_
  with_reducible refine EWs.nil ?_
  refine BiW.listD hmh (by omega) fun a ha => ?_
  refine EW.comp (ρc := [("held", .ref ah)]) (.of rfl (by kernel_rfl) hcells) (.cons (.dp 1 (by kernel_rfl) .here) (by kernel_rfl) (by kernel_rfl) (by kernel_rfl) .nil) ?_
  refine EW.loc (by kernel_rfl) (.dp 2 (by kernel_rfl) .here) ?_
  refine ⟨_, _, fun (rest ac : List D) (σ' : Sto) => σ' = (a, .lst (es.map fun e => D.key e.1)) :: σ ∧ ∃ q1 q2 : List (List Int), act = q1 ++ q2 ∧ rest = q2.map D.key ∧ ac = (q1.filter fun q => !(look es q).isSome).map D.key, Src.list (ds := act.map D.key), by simp; omega, .tail _ hma, ⟨rfl, [], act, rfl, rfl, rfl⟩, ?_, ?_, ?_⟩
  · rintro _ _ _ _ ⟨rfl, _⟩
    exact .tail _ (.tail _ hma)
  · rintro L2 cl2 d' rest ac σ' c ⟨rfl, q1, q2, e1, e2, rfl⟩ hc
    cases q2 with
    | nil => exact absurd e2 (List.cons_ne_nil _ _)
    | cons q q2 =>
    obtain ⟨rfl, rfl⟩ := List.cons.inj e2
    refine AW.name (BW.loc (by kernel_rfl) ⟨hasAll_cons ?_ hasAll_nil, ?_⟩)
    · exact (.dp 1 (by kernel_rfl) .here)
    · refine TW.cmp ?_
      refine EW.loc (by kernel_rfl) .here ?_
      refine EW.cell (by kernel_rfl) (.dp 1 (by kernel_rfl) .here) ?_
      refine OpW.notinD (.tail _ (.tail _ hmh)) ?_
      with_reducible refine boolP ?_
      refine ⟨fun hb => ?_, fun hb => ?_⟩
      · refine EW.loc (by kernel_rfl) .here ?_
        exact ⟨_, rfl, rfl, q1 ++ [q], q2, by rw [e1, List.append_assoc]; rfl, rfl, by rw [List.filter_append, List.map_append, List.filter_cons_of_pos (p := fun q => !(look es q).isSome) hb]; rfl⟩
      · exact ⟨_, rfl, rfl, q1 ++ [q], q2, by rw [e1, List.append_assoc]; rfl, rfl, by rw [List.filter_append, List.map_append, List.filter_cons_of_neg (p := fun q => !(look es q).isSome) (by rw [hb]; decide)]; simp⟩
  · rintro ac σ' c ⟨rfl, q1, q2, e1, e2, rfl⟩ hc
    cases q2 with
    | cons _ _ => exact absurd e2.symm (List.cons_ne_nil _ _)
    | nil =>
    rw [List.append_nil] at e1
    subst e1
    have hfl := List.length_filter_le (fun q => !(look es q).isSome) act
    refine OpW.addL (.tail _ (.head _)) (.head _) (by rw [List.length_map, List.length_map]; omega) fun e hee => ?_
    have hke : (es.map fun e => D.key e.1) ++ (act.filter fun q => !(look es q).isSome).map D.key = (allKeys es act).map D.key := by
      unfold allKeys
      rw [List.map_append, List.map_map]; rfl
    rw [hke]
    with_reducible refine EWs.nil ?_
    refine BiW.sortedL (.head _) (sortOk_two (twoOk_keys htwo)) (by simpa using hlen) fun f hff => ?_
    rw [srtBy_keys hlen]
    have hperm := srtK_perm hlen
    generalize hσ' : ((f, MO.lst ((srtK (allKeys es act)).map D.key)) :: (e, MO.lst ((allKeys es act).map D.key)) :: (c, MO.lst ((act.filter fun q => !(look es q).isSome).map D.key)) :: (a, MO.lst (es.map fun e => D.key e.1)) :: σ) = σ2
    have hmf : (f, MO.lst ((srtK (allKeys es act)).map D.key)) ∈ σ2 := by rw [← hσ']; exact .head _
    have hmh2 : (ah, MO.dct es) ∈ σ2 := by rw [← hσ']; exact .tail _ (.tail _ (.tail _ (.tail _ hmh)))
    have hsub : σ.Sublist σ2 := by rw [← hσ']; exact .cons _ (.cons _ (.cons _ (.cons _ (.refl _))))
    refine ⟨_, _, fun (rest : List D) (ρ' : Rho) (σ' : Sto) => σ' = σ2 ∧ ∃ (ks : List (List Int)) (b : Option (List Int)), rest = ks.map D.key ∧ (∀ q ∈ ks, Okk q) ∧ ks.foldl (dueStep addr) b = dueBest es act addr ∧ Has ρ' "held" (.ref ah) ∧ Has ρ' "address" (.int addr) ∧ Has ρ' "best" (bestD b) ∧ (∀ q, b = some q → Okk q), Src.list (ds := (srtK (allKeys es act)).map D.key), ?_, ?_, ?_, ?_⟩
    · exact ⟨rfl, _, none, rfl, fun q hq => hall q (hperm.mem_iff.mp hq), rfl, (.dp 1 (by kernel_rfl) .here), (.dp 3 (by kernel_rfl) .here), .here, fun q hq => absurd hq.symm (Option.some_ne_none q)⟩
    · rintro _ _ _ ⟨rfl, _⟩
      exact hmf
    · rintro d' rest ρ' σ' ⟨rfl, ks, b, he, hq, hf, h1, h2, h3, hb⟩
      cases ks with
      | nil => exact absurd he (List.cons_ne_nil _ _)
      | cons q ks =>
      obtain ⟨rfl, rfl⟩ := List.cons.inj he
      have hq0 := hq q (.head _)
      have hqs : ∀ q ∈ ks, Okk q := fun x hx => hq x (.tail _ hx)
      rw [List.foldl_cons] at hf
      obtain ⟨x, y, rfl, hxy⟩ := hq0
      refine AW.name (BW.loc (by kernel_rfl) ?_)
      with_reducible refine SW.cons ?_
      with_reducible refine XW.ifs ?_
      with_reducible refine TW.boolop ?_
      with_reducible refine AllW.and ?_
      with_reducible refine TW.call ?_
      refine EW.callF W 154 (by kernel_rfl) (by kernel_rfl) (by kernel_rfl) ?_
      with_reducible refine EWs.cons ?_
      refine EW.loc (by kernel_rfl) .here ?_
      with_reducible refine EWs.cons ?_
      refine EW.loc (by kernel_rfl) (.dp 1 (by kernel_rfl) (by assumption)) ?_
      with_reducible refine EWs.cons ?_
      with_reducible refine EW.int ?_
      with_reducible refine EWs.nil ?_
      refine c_holds W hxy.1 hxy.2 ?_
      with_reducible refine boolP ?_
      refine ⟨fun hh => ?_, fun hh => ?_⟩
      · rw [dueStep_no (show hk [x, y] addr = false from hh)] at hf
        refine ⟨fun hb => absurd hb fnt, fun _ => ?_⟩
        with_reducible refine SW.nil ?_
        with_reducible refine SW.nil ?_
        exact ⟨rfl, ks, b, rfl, hqs, hf, (.dp 1 (by kernel_rfl) (by assumption)), (.dp 1 (by kernel_rfl) (by assumption)), (.dp 1 (by kernel_rfl) (by assumption)), hb⟩
      · with_reducible refine AllW.and ?_
        with_reducible refine TW.boolop ?_
        with_reducible refine AllW.or ?_
        with_reducible refine TW.cmp ?_ (by kernel_rfl)
        refine EW.loc (by kernel_rfl) (.dp 1 (by kernel_rfl) (by assumption)) ?_
        with_reducible refine EW.none ?_
        with_reducible refine OpW.isNone ?_
        with_reducible refine boolP ?_
        cases b with
        | none =>
          rw [dueStep_none (show hk [x, y] addr = true from hh)] at hf
          refine ⟨fun _ => ?_, fun hb => absurd hb tnf⟩
          refine ⟨fun hb => absurd hb tnf, fun _ => ?_⟩
          with_reducible refine AllW.nil ?_
          refine ⟨fun _ => ?_, fun hb => absurd hb tnf⟩
          with_reducible refine SW.cons ?_
          refine XW.assignName ?_
          refine EW.loc (by kernel_rfl) .here ?_
          refine BW.loc (by kernel_rfl) ?_
          with_reducible refine SW.nil ?_
          with_reducible refine SW.nil ?_
          exact ⟨rfl, ks, some [x, y], rfl, hqs, hf, (.dp 2 (by kernel_rfl) (by assumption)), (.dp 2 (by kernel_rfl) (by assumption)), .here, fun q e => Option.some.inj e ▸ ⟨x, y, rfl, hxy⟩⟩
        | some g =>
          obtain ⟨gx, gy, rfl, hg⟩ := hb g rfl
          refine ⟨fun hb => absurd hb fnt, fun _ => ?_⟩
          with_reducible refine AllW.or ?_
          with_reducible refine TW.cmp ?_ (by kernel_rfl)
          refine EW.sub ?_
          refine EW.loc (by kernel_rfl) .here ?_
          with_reducible refine EW.int ?_
          refine SubW.tup (j := 1) (by rfl) (by rfl) ?_
          refine EW.sub ?_
          refine EW.loc (by kernel_rfl) (.dp 1 (by kernel_rfl) (by assumption)) ?_
          with_reducible refine EW.int ?_
          refine SubW.tup (j := 1) (by rfl) (by rfl) ?_
          with_reducible refine OpW.gt ?_
          with_reducible refine boolP ?_
          refine ⟨fun hc => ?_, fun hc => ?_⟩
          · rw [dueStep_lt (b := [gx, gy]) (show hk [x, y] addr = true from hh) hc] at hf
            refine ⟨fun hb => absurd hb tnf, fun _ => ?_⟩
            with_reducible refine AllW.nil ?_
            refine ⟨fun _ => ?_, fun hb => absurd hb tnf⟩
            with_reducible refine SW.cons ?_
            refine XW.assignName ?_
            refine EW.loc (by kernel_rfl) .here ?_
            refine BW.loc (by kernel_rfl) ?_
            with_reducible refine SW.nil ?_
            with_reducible refine SW.nil ?_
            exact ⟨rfl, ks, some [x, y], rfl, hqs, hf, (.dp 2 (by kernel_rfl) (by assumption)), (.dp 2 (by kernel_rfl) (by assumption)), .here, fun q e => Option.some.inj e ▸ ⟨x, y, rfl, hxy⟩⟩
          · rw [dueStep_ge (b := [gx, gy]) (show hk [x, y] addr = true from hh) hc] at hf
            with_reducible refine AllW.nil ?_
            refine ⟨fun _ => ?_, fun hb => absurd hb fnt⟩
            refine ⟨fun hb => absurd hb fnt, fun _ => ?_⟩
            with_reducible refine SW.nil ?_
            with_reducible refine SW.nil ?_
            exact ⟨rfl, ks, some [gx, gy], rfl, hqs, hf, (.dp 1 (by kernel_rfl) (by assumption)), (.dp 1 (by kernel_rfl) (by assumption)), (.dp 1 (by kernel_rfl) (by assumption)), hb⟩
    · rintro ρ' σ' ⟨rfl, ks, b, he, hq, hf, h1, h2, h3, hb⟩
      cases ks with
      | cons _ _ => exact absurd he.symm (List.cons_ne_nil _ _)
      | nil =>
      have hf' : b = dueBest es act addr := hf
      unfold dueD at h
      rw [← hf'] at h
      cases b with
      | none =>
        with_reducible refine SW.cons ?_
        with_reducible refine XW.ret ?_
        with_reducible refine EW.ifexp ?_
        with_reducible refine TW.cmp ?_ (by kernel_rfl)
        refine EW.loc (by kernel_rfl) (by assumption) ?_
        with_reducible refine EW.none ?_
        with_reducible refine OpW.isNone ?_
        with_reducible refine boolP ?_
        refine ⟨fun _ => ?_, fun hb => absurd hb tnf⟩
        with_reducible refine EW.none ?_
        exact ⟨_, hsub, h⟩
      | some g =>
        with_reducible refine SW.cons ?_
        with_reducible refine XW.ret ?_
        with_reducible refine EW.ifexp ?_
        with_reducible refine TW.cmp ?_ (by kernel_rfl)
        refine EW.loc (by kernel_rfl) (by assumption) ?_
        with_reducible refine EW.none ?_
        with_reducible refine OpW.isNone ?_
        with_reducible refine boolP ?_
        refine ⟨fun hb => absurd hb fnt, fun _ => ?_⟩
        refine EW.meth PySem.F.plainAttrs_dict PySem.F.slot_dict_get PySem.F.type_dict_get ?_
        refine EW.cell (by kernel_rfl) (by assumption) ?_
        refine ⟨.dct hmh2, ?_⟩
        with_reducible refine EWs.cons ?_
        refine EW.loc (by kernel_rfl) (by assumption) ?_
        with_reducible refine EWs.cons ?_
        with_reducible refine EW.tuple ?_ (by kernel_rfl)
        with_reducible refine EWs.cons ?_
        refine EW.loc (by kernel_rfl) (by assumption) ?_
        with_reducible refine EWs.cons ?_
        with_reducible refine EW.str ?_
        with_reducible refine EWs.cons ?_
        with_reducible refine EW.int ?_
        with_reducible refine EWs.cons ?_
        with_reducible refine EW.int ?_
        with_reducible refine EWs.cons ?_
        with_reducible refine EW.int ?_
        with_reducible refine EWs.cons ?_
        with_reducible refine EW.tuple ?_ (by kernel_rfl)
        with_reducible refine EWs.nil ?_
        refine ⟨Nat.le_of_ble_eq_true rfl, ?_⟩
        with_reducible refine EWs.nil ?_
        refine ⟨Nat.le_of_ble_eq_true rfl, ?_⟩
        with_reducible refine EWs.nil ?_
        refine BiW.get2 hmh2 ?_
        exact ⟨_, hsub, h⟩
end
noncomputable def bodyOf (K : Frag) (f : Addr) : List Stmt := match K.lookup f with
  | some ⟨_, _, .func fd, _⟩ => (match fd.body with | .stmts b => b | _ => [])
  | _ => []
noncomputable def scopeOf (K : Frag) (f : Addr) : Scope := match K.lookup f with
  | some ⟨_, _, .func fd, _⟩ => fd.scope
  | _ => { kind := .function, names := [], isGenerator := false, isCoroutine := false }
section
variable {prog : Program} {w : World} {h₀ h h' : Heap} {k : Nat} {env : Env} {ρ ρ' ρc : Rho} {σ σ' : Sto}
theorem FlowW.pre {t : Sem Flow} {N C : Rho → Sto → Prop} {Rt : D → Sto → Prop} (hs : σ'.Sublist σ) (x : FlowW prog w h₀ k env ρ σ' t N C Rt) : FlowW prog w h₀ k env ρ σ t N C Rt :=
  FlowW.weakS (fun _ O => O.sub hs) (fun _ hb => dom_sub hs hb) x
theorem PoolF.cons {σf : Int → Sto} {pool p0 : Addr} {ns : List Int} (F : PoolF σf pool p0 ns) (p : Addr × MO) : PoolF (fun s => p :: σf s) pool p0 ns :=
  ⟨fun s s' => .there (F.upd s s'), fun s => .tail _ (F.cells s), F.len⟩
end
theorem told_pure {o : Option (Int × List Int)} : D.pures (toldD o) = true := by
  rw [D.pures_all]
  cases o with
  | none => rfl
  | some x => simp [toldD, D.pure, D.pures, key_pure]; decide +kernel
theorem rte_pure {r : Rte} {o : Option (Int × Int)} (h : r.hops = hopsD o) : (rteD r).pure = true := by
  have h1 : (D.str (sortS r.intra)).pure = true := by cases r.intra <;> decide +kernel
  have h2 : (hopsD o).pure = true := by cases o with
    | none => rfl
    | some x => simp [hopsD, D.pure, D.pures, key_pure]
  show ((D.key r.p).pure && ((D.str (sortS r.intra)).pure && (r.hops.pure && true))) = true
  rw [h, key_pure, h1, h2]; rfl
theorem rte_depth {r : Rte} {o : Option (Int × Int)} (h : r.hops = hopsD o) (hp : r.p.length = 2) : Nat.ble (rteD r).py.depth 30 = true := by
  obtain ⟨p, i, c, s, a, hh⟩ := r
  subst h
  obtain ⟨x, y, rfl⟩ := len_two hp
  cases o <;> rfl
section
variable {P : Params} {mg mb : Str → Option Value} {prog : Program} {w : World} {h₀ : Heap} {k : Nat} {σ : Sto}

/-- what a due route is -/
noncomputable def DueIs (d : D) : Prop := d = .none ∨ ∃ (r : Rte) (o : Option (Int × Int)), d = rteD r ∧ r.hops = hopsD o ∧ r.p.length = 2
structure LawC (es tbl : List (List Int × D)) (act : List (List Int)) : Prop where
  eq : ∀ addr, 0 ≤ addr → addr < 32 → lookUp tbl addr = dueD es act addr
  is : ∀ addr, 0 ≤ addr → addr < 32 → DueIs (dueD es act addr)
  val : ∀ e ∈ tbl, e.2.isNone = false
  len : es.length + act.length ≤ 6
  k1 : ∀ e ∈ es, Okk e.1
  k2 : ∀ q ∈ act, Okk q
theorem due_ne {d : D} {env : Env} {ρ : Rho} {Q : D → Sto → Prop} (hd : DueIs d) (h : Q (.bool false) σ) : OpW prog w h₀ k env ρ σ (compareOp .NotEq) d d Q := by
  have e : (!PyData.eqv d.py d.py) = false := by rw [D.eqv_self]; rfl
  rcases hd with rfl | ⟨r, o, rfl, h1, h2⟩
  · exact OpW.neD rfl rfl (by rfl) (by rw [e]; exact h)
  · exact OpW.neD (rte_pure h1) (rte_pure h1) (rte_depth h1 h2) (by rw [e]; exact h)
theorem told_depth (o : Option (Int × List Int)) (ho : ∀ x, o = some x → x.2.length = 2) : PyData.depthAll (D.pys (toldD o)) ≤ 28 := by
  cases o with
  | none => exact Nat.le_of_ble_eq_true rfl
  | some x =>
    obtain ⟨c, q⟩ := x
    obtain ⟨x, y, rfl⟩ := len_two (ho _ rfl)
    exact Nat.le_of_ble_eq_true rfl
theorem told_ne {o : Option (Int × List Int)} {a b : Addr} {env : Env} {ρ : Rho} {Q : D → Sto → Prop} (ho : ∀ x, o = some x → x.2.length = 2) (ha : (a, .lst (toldD o)) ∈ σ) (hb : (b, .lst (toldD o)) ∈ σ) (h : Q (.bool false) σ) : OpW prog w h₀ k env ρ σ (compareOp .NotEq) (.ref a) (.ref b) Q := by
  have e : (!PyData.eqvAll (D.pys (toldD o)) (D.pys (toldD o))) = false := by rw [D.eqvs_self]; rfl
  exact OpW.neL ha hb told_pure told_pure (told_depth o ho) (by rw [e]; exact h)

/-- what is told for a forward address -/
noncomputable def fwdO (d : D) (f : Int) : Option (Int × List Int) := if (d.kid 5).kids.isEmpty then none else some ((d.kid 2).int!, [(((d.kid 5).kid 0).kid 0).int!, if (((d.kid 5).kid 0).kid 1).int! = 0 then f else (((d.kid 5).kid 0).kid 1).int!])
theorem fwdO_none (f : Int) : fwdO .none f = none := rfl
theorem fwdO_rte (r : Rte) (o : Option (Int × Int)) (h : r.hops = hopsD o) (f : Int) : fwdO (rteD r) f = o.map fun x => (r.cost, [x.1, if x.2 = 0 then f else x.2]) := by
  obtain ⟨p, i, c, s, a, hh⟩ := r
  subst h
  cases o <;> rfl
theorem fwdO_two {d : D} {f : Int} {x : Int × List Int} (h : fwdO d f = some x) : x.2.length = 2 := by
  unfold fwdO at h
  split at h
  · exact absurd h.symm (Option.some_ne_none x)
  · rw [← Option.some.inj h]; rfl
set_option maxHeartbeats 8000000 in
theorem law_C (W : Wd (KH P) mg mb h₀) {es tbl : List (List Int × D)} {act : List (List Int)} (X : LawC es tbl act) {σf : Int → Sto} {pool p0 ah aa at' : Addr} {ns : List Int} (F : PoolF σf pool p0 ns) {spot : Int} (h0 : 0 ≤ spot)
    (hmh : ∀ s, (ah, .dct es) ∈ σf s) (hma : ∀ s, (aa, .lst (act.map D.key)) ∈ σf s) (hmt : ∀ s, (at', .dct tbl) ∈ σf s) {L : Addr} {cl : List (Str × Addr)} {q : Str} {fn : Addr} {cd : Value} {fr : Option Addr} {ρ : Rho}
    (hcells : ∀ x, (scopeOf (KH P) 169).names.lookup x = some .cell → (cl.lookup x).isSome = true) (r1 : Has ρ "pool" (.ref pool)) (r2 : Has ρ "held" (.ref ah)) (r3 : Has ρ "active" (.ref aa)) (r4 : Has ρ "table" (.ref at')) {N C : Rho → Sto → Prop} :
    SW prog w h₀ (k + 6) (mkEnv (scopeOf (KH P) 169) L cl q (some fn) cd fr) ρ (σf spot) ((bodyOf (KH P) 169).drop 10) N C (fun d _ => d = .bool true) := by
  conv in (List.drop _ _) => whnf
  conv in (scopeOf _ _) => whnf
  conv at hcells in (scopeOf _ _) => whnf
  with_reducible refine SW.cons ?_
  refine XW.for ?_
  refine EW.bi W (by kernel_rfl) (by kernel_rfl) (v := .type "range") (by decide +kernel) (by decide +kernel) (.inr ⟨_, rfl⟩) ?_
  with_reducible refine EWs.cons ?_
  with_reducible refine EW.int ?_
  with_reducible refine EWs.nil ?_
  refine BiW.range1 ?_
  refine ⟨_, _, fun (rest : List D) (ρ' : Rho) (σ' : Sto) => σ' = σf spot ∧ ∃ ts : List Int, rest = ts.map .int ∧ (∀ t ∈ ts, 0 ≤ t ∧ t < 32) ∧ Has ρ' "pool" (.ref pool) ∧ Has ρ' "held" (.ref ah) ∧ Has ρ' "active" (.ref aa) ∧ Has ρ' "table" (.ref at'),
    Src.range (n := 32) (by decide +kernel) (by decide +kernel), ?_, ?_, ?_, ?_⟩
  · exact ⟨rfl, (List.range 32).map fun i : Nat => (0 : Int) + (i : Int) * 1, by rw [List.map_map]; rfl, by decide +kernel, r1, r2, r3, r4⟩
  · intro _ _ _ _; trivial
  · rintro d' rest ρ' σ' ⟨rfl, ts, he, ht, r1, r2, r3, r4⟩
    cases ts with
    | nil => exact absurd he (List.cons_ne_nil _ _)
    | cons t ts =>
    obtain ⟨rfl, rfl⟩ := List.cons.inj he
    have htt := ht t (.head _)
    refine AW.name (BW.loc (by kernel_rfl) ?_)
    with_reducible refine SW.cons ?_
    with_reducible refine XW.ifs ?_
    with_reducible refine TW.cmp ?_ (by kernel_rfl)
    refine EW.callF W 95 (by kernel_rfl) (by kernel_rfl) (by kernel_rfl) ?_
    with_reducible refine EWs.cons ?_
    refine EW.loc (by kernel_rfl) (.dp 1 (by kernel_rfl) (by assumption)) ?_
    with_reducible refine EWs.cons ?_
    refine EW.loc (by kernel_rfl) .here ?_
    with_reducible refine EWs.cons ?_
    with_reducible refine EW.int ?_
    with_reducible refine EWs.nil ?_
    refine c_looked_up W (hmt _) X.val ?_
    refine EW.callF W 164 (by kernel_rfl) (by kernel_rfl) (by kernel_rfl) ?_
    with_reducible refine EWs.cons ?_
    refine EW.cell (by kernel_rfl) (.dp 1 (by kernel_rfl) (by assumption)) ?_
    with_reducible refine EWs.cons ?_
    refine EW.loc (by kernel_rfl) (.dp 1 (by kernel_rfl) (by assumption)) ?_
    with_reducible refine EWs.cons ?_
    refine EW.loc (by kernel_rfl) .here ?_
    with_reducible refine EWs.nil ?_
    refine c_due W (hmh _) (hma _) X.len X.k1 X.k2 ?_
    rw [X.eq t htt.1 htt.2]
    refine due_ne (X.is t htt.1 htt.2) ?_
    with_reducible refine boolP ?_
    refine ⟨fun hb => absurd hb fnt, fun _ => ?_⟩
    with_reducible refine SW.nil ?_
    with_reducible refine SW.nil ?_
    exact ⟨rfl, ts, rfl, fun x hx => ht x (.tail _ hx), (.dp 1 (by kernel_rfl) (by assumption)), (.dp 1 (by kernel_rfl) (by assumption)), (.dp 1 (by kernel_rfl) (by assumption)), (.dp 1 (by kernel_rfl) (by assumption))⟩
  · rintro ρ' σ' ⟨rfl, _, _, _, r1, r2, r3, r4⟩
    with_reducible refine SW.cons ?_
    refine XW.for ?_
    refine EW.tuple (EWs.cons ?_)
    with_reducible refine EW.binop ?_
    with_reducible refine EW.int ?_
    refine EW.callF W 140 (by kernel_rfl) (by kernel_rfl) (by kernel_rfl) ?_
    with_reducible refine EWs.cons ?_
    refine EW.cell (by kernel_rfl) (by assumption) ?_
    with_reducible refine EWs.cons ?_
    with_reducible refine EW.int ?_
    with_reducible refine EWs.nil ?_
    refine c_draw W F h0 (by decide) fun v1 hv1 hv1' => ?_
    with_reducible refine OpW.add ?_
    with_reducible refine EWs.cons ?_
    with_reducible refine EW.binop ?_
    with_reducible refine EW.int ?_
    refine EW.callF W 140 (by kernel_rfl) (by kernel_rfl) (by kernel_rfl) ?_
    with_reducible refine EWs.cons ?_
    refine EW.cell (by kernel_rfl) (by assumption) ?_
    with_reducible refine EWs.cons ?_
    with_reducible refine EW.int ?_
    with_reducible refine EWs.nil ?_
    refine c_draw W F (by omega) (by decide) fun v2 hv2 hv2' => ?_
    with_reducible refine OpW.add ?_
    with_reducible refine EWs.cons ?_
    with_reducible refine EW.int ?_
    with_reducible refine EWs.nil ?_
    refine ⟨Nat.le_of_ble_eq_true rfl, ?_⟩
    generalize hσ : σf (spot + 1 + 1) = σ
    have mh : (ah, MO.dct es) ∈ σ := hσ ▸ hmh _
    have ma : (aa, MO.lst (act.map D.key)) ∈ σ := hσ ▸ hma _
    have mt : (at', MO.dct tbl) ∈ σ := hσ ▸ hmt _
    refine ⟨_, _, fun (rest : List D) (ρ' : Rho) (σ' : Sto) => σ' = σ ∧ ∃ ts : List Int, rest = ts.map .int ∧ (∀ t ∈ ts, 0 ≤ t ∧ t < 32) ∧ Has ρ' "held" (.ref ah) ∧ Has ρ' "active" (.ref aa) ∧ Has ρ' "table" (.ref at'), Src.tuple, ?_, ?_, ?_, ?_⟩
    · exact ⟨rfl, [1 + v1, 1 + v2, 0], rfl, fun t ht => by
        rcases List.mem_cons.mp ht with rfl | ht
        · omega
        rcases List.mem_cons.mp ht with rfl | ht
        · omega
        rw [List.mem_singleton.mp ht]; omega, r2, r3, r4⟩
    · intro _ _ _ _; trivial
    · rintro d' rest ρ' σ' ⟨rfl, ts, he, ht, r2, r3, r4⟩
      cases ts with
      | nil => exact absurd he (List.cons_ne_nil _ _)
      | cons f ts =>
      obtain ⟨rfl, rfl⟩ := List.cons.inj he
      have hf := ht f (.head _)
      have hts : ∀ t ∈ ts, 0 ≤ t ∧ t < 32 := fun x hx => ht x (.tail _ hx)
      refine AW.name (BW.loc (by kernel_rfl) ?_)
      refine FlowW.drop ?_
      with_reducible refine SW.cons ?_
      refine XW.assignName ?_
      with_reducible refine EW.tuple ?_ (by kernel_rfl)
      with_reducible refine EWs.cons ?_
      with_reducible refine EW.str ?_
      with_reducible refine EWs.cons ?_
      with_reducible refine EW.int ?_
      with_reducible refine EWs.cons ?_
      with_reducible refine EW.bool ?_
      with_reducible refine EWs.cons ?_
      with_reducible refine EW.int ?_
      with_reducible refine EWs.cons ?_
      refine EW.loc (by kernel_rfl) .here ?_
      with_reducible refine EWs.cons ?_
      with_reducible refine EW.int ?_
      with_reducible refine EWs.nil ?_
      refine ⟨Nat.le_of_ble_eq_true rfl, ?_⟩
      refine BW.loc (by kernel_rfl) ?_
      with_reducible refine SW.cons ?_
      refine XW.assignName ?_
      refine EW.callF W 126 (by kernel_rfl) (by kernel_rfl) (by kernel_rfl) ?_
      refine EWs.cons ?_
      with_reducible refine EW.list ?_ (by kernel_rfl)
      with_reducible refine EWs.cons ?_
      with_reducible refine EW.tuple ?_ (by kernel_rfl)
      with_reducible refine EWs.cons ?_
      with_reducible refine EW.tuple ?_ (by kernel_rfl)
      with_reducible refine EWs.cons ?_
      with_reducible refine EW.int ?_
      with_reducible refine EWs.cons ?_
      with_reducible refine EW.int ?_
      with_reducible refine EWs.cons ?_
      with_reducible refine EW.int ?_
      with_reducible refine EWs.cons ?_
      with_reducible refine EW.int ?_
      with_reducible refine EWs.cons ?_
      with_reducible refine EW.int ?_
      with_reducible refine EWs.cons ?_
      with_reducible refine EW.int ?_
      with_reducible refine EWs.cons ?_
      with_reducible refine EW.int ?_
      with_reducible refine EWs.nil ?_
      refine ⟨Nat.le_of_ble_eq_true rfl, ?_⟩
      with_reducible refine EWs.cons ?_
      refine EW.loc (by kernel_rfl) .here ?_
      with_reducible refine EWs.nil ?_
      refine ⟨Nat.le_of_ble_eq_true rfl, ?_⟩
      with_reducible refine EWs.nil ?_
      refine ⟨Nat.le_of_ble_eq_true rfl, ?_⟩
      intro arow harow
      with_reducible refine EWs.cons ?_
      with_reducible refine EW.int ?_
      with_reducible refine EWs.cons ?_
      refine EW.dict1 W ?_
      with_reducible refine EW.list ?_ (by kernel_rfl)
      with_reducible refine EWs.cons ?_
      with_reducible refine EW.tuple ?_ (by kernel_rfl)
      with_reducible refine EWs.cons ?_
      with_reducible refine EW.int ?_
      with_reducible refine EWs.cons ?_
      with_reducible refine EW.tuple ?_ (by kernel_rfl)
      with_reducible refine EWs.cons ?_
      with_reducible refine EW.tuple ?_ (by kernel_rfl)
      with_reducible refine EWs.cons ?_
      with_reducible refine EW.int ?_
      with_reducible refine EWs.cons ?_
      with_reducible refine EW.int ?_
      with_reducible refine EWs.nil ?_
      refine ⟨Nat.le_of_ble_eq_true rfl, ?_⟩
      with_reducible refine EWs.nil ?_
      refine ⟨Nat.le_of_ble_eq_true rfl, ?_⟩
      with_reducible refine EWs.cons ?_
      with_reducible refine EW.int ?_
      with_reducible refine EWs.cons ?_
      with_reducible refine EW.bool ?_
      with_reducible refine EWs.nil ?_
      refine ⟨Nat.le_of_ble_eq_true rfl, ?_⟩
      with_reducible refine EWs.nil ?_
      refine ⟨Nat.le_of_ble_eq_true rfl, ?_⟩
      intro aw haw al hal
      with_reducible refine EWs.cons ?_
      refine EW.loc (by kernel_rfl) (.dp 2 (by kernel_rfl) (by assumption)) ?_
      with_reducible refine EWs.cons ?_
      with_reducible refine EW.int ?_
      with_reducible refine EWs.nil ?_
      -- the due route
      let dd : D := if f > 0 then dueD es act f else .tup [D.key [0, 0], .str "intra", .int 2, .int 0, .int 0, .tup [D.key [8, 1]]]
      have hsubm : ∀ p ∈ σ', p ∈ ((al, MO.dci [(9, D.ref aw)]) :: (aw, MO.lst [wayD]) :: (arow, MO.lst [rowD f]) :: σ') := fun p hp => .tail _ (.tail _ (.tail _ hp))
      refine c_external_routes W (f := f) (.tail _ (.tail _ (.head _))) (.head _) (fwdO dd f) (fun x hx => fwdO_two hx) ?_ fun b hb => ?_
      · intro σ1 Q1 hm1 hQ1
        by_cases hpos : 0 < f
        · have hdd : dd = dueD es act f := if_pos hpos
          rw [hdd] at hQ1
          refine c_way_out W hpos (hm1 _ (hsubm _ mt)) X.val ?_
          rw [X.eq f hf.1 hf.2]
          rcases X.is f hf.1 hf.2 with e | ⟨r, o, e, e1, e2⟩
          · rw [e] at hQ1 ⊢
            exact .inl ⟨rfl, hQ1 0⟩
          · rw [e, fwdO_rte r o e1] at hQ1
            rw [e]
            refine .inr ⟨r, o, rfl, e1, ?_⟩
            cases o with
            | none => exact hQ1 0
            | some x => exact hQ1 _
        · have hf0 : f = 0 := by omega
          subst hf0
          refine c_way_out0 W (hm1 _ (.tail _ (.head _))) ?_
          exact hQ1 1
      refine BW.loc (by kernel_rfl) ?_
      with_reducible refine SW.cons ?_
      refine FlowW.pre (σ' := (b, .lst (toldD (fwdO dd f))) :: σ') (.cons_cons _ (.cons _ (.cons _ (.cons _ (.refl _))))) ?_
      have hdue : DueIs dd := by
        by_cases hpos : 0 < f
        · rw [show dd = dueD es act f from if_pos hpos]; exact X.is f hf.1 hf.2
        · rw [show dd = _ from if_neg hpos]
          exact .inr ⟨⟨[0, 0], true, 2, 0, 0, .tup [D.key [8, 1]]⟩, some (8, 1), rfl, rfl, rfl⟩
      refine XW.assignName (WP.mono (P := fun d s => d = dd ∧ s = (b, .lst (toldD (fwdO dd f))) :: σ') ?_ ?_)
      · with_reducible refine EW.ifexp ?_
        with_reducible refine TW.cmp ?_ (by kernel_rfl)
        refine EW.loc (by kernel_rfl) (.dp 2 (by kernel_rfl) .here) ?_
        with_reducible refine EW.int ?_
        with_reducible refine OpW.gt ?_
        with_reducible refine boolP ?_
        refine ⟨fun hc => ?_, fun hc => ?_⟩
        · have hpos : 0 < f := of_decide_eq_true hc
          refine EW.callF W 164 (by kernel_rfl) (by kernel_rfl) (by kernel_rfl) ?_
          with_reducible refine EWs.cons ?_
          refine EW.cell (by kernel_rfl) (.dp 3 (by kernel_rfl) (by assumption)) ?_
          with_reducible refine EWs.cons ?_
          refine EW.loc (by kernel_rfl) (.dp 3 (by kernel_rfl) (by assumption)) ?_
          with_reducible refine EWs.cons ?_
          refine EW.loc (by kernel_rfl) (.dp 2 (by kernel_rfl) .here) ?_
          with_reducible refine EWs.nil ?_
          refine c_due W (.tail _ mh) (.tail _ ma) X.len X.k1 X.k2 ?_
          exact ⟨(if_pos hpos).symm, rfl⟩
        · have hpos : ¬ 0 < f := of_decide_eq_false hc
          with_reducible refine EW.tuple ?_ (by kernel_rfl)
          with_reducible refine EWs.cons ?_
          with_reducible refine EW.tuple ?_ (by kernel_rfl)
          with_reducible refine EWs.cons ?_
          with_reducible refine EW.int ?_
          with_reducible refine EWs.cons ?_
          with_reducible refine EW.int ?_
          with_reducible refine EWs.nil ?_
          refine ⟨Nat.le_of_ble_eq_true rfl, ?_⟩
          with_reducible refine EWs.cons ?_
          with_reducible refine EW.str ?_
          with_reducible refine EWs.cons ?_
          with_reducible refine EW.int ?_
          with_reducible refine EWs.cons ?_
          with_reducible refine EW.int ?_
          with_reducible refine EWs.cons ?_
          with_reducible refine EW.int ?_
          with_reducible refine EWs.cons ?_
          with_reducible refine EW.tuple ?_ (by kernel_rfl)
          with_reducible refine EWs.cons ?_
          with_reducible refine EW.tuple ?_ (by kernel_rfl)
          with_reducible refine EWs.cons ?_
          with_reducible refine EW.int ?_
          with_reducible refine EWs.cons ?_
          with_reducible refine EW.int ?_
          with_reducible refine EWs.nil ?_
          refine ⟨Nat.le_of_ble_eq_true rfl, ?_⟩
          with_reducible refine EWs.nil ?_
          refine ⟨Nat.le_of_ble_eq_true rfl, ?_⟩
          with_reducible refine EWs.nil ?_
          refine ⟨Nat.le_of_ble_eq_true rfl, ?_⟩
          exact ⟨(if_neg hpos).symm, rfl⟩
      rintro _ _ ⟨rfl, rfl⟩
      refine BW.loc (by kernel_rfl) ?_
      with_reducible refine SW.cons ?_
      refine XW.assignName (EW.list (EWs.nil ⟨Nat.le_of_ble_eq_true rfl, fun dl hdl => ?_⟩))
      refine BW.loc (by kernel_rfl) ?_
      with_reducible refine SW.cons ?_
      with_reducible refine XW.ifs ?_
      with_reducible refine TW.boolop ?_
      with_reducible refine AllW.and ?_
      with_reducible refine TW.cmp ?_ (by kernel_rfl)
      refine EW.loc (by kernel_rfl) (.dp 1 (by kernel_rfl) .here) ?_
      with_reducible refine EW.none ?_
      with_reducible refine OpW.isNotNone ?_
      with_reducible refine boolP ?_
      clear_value dd
      rcases hdue with rfl | ⟨⟨p, i, c, s, ar, hh⟩, o, rfl, hho, hpp⟩
      · refine ⟨fun _ => ?_, fun hb => absurd hb fnt⟩
        refine ⟨fun hb => absurd hb fnt, fun _ => ?_⟩
        with_reducible refine SW.nil ?_
        with_reducible refine SW.cons ?_
        with_reducible refine XW.ifs ?_
        with_reducible refine TW.cmp ?_ (by kernel_rfl)
        refine EW.loc (by kernel_rfl) (.dp 2 (by kernel_rfl) .here) ?_
        refine EW.loc (by kernel_rfl) .here ?_
        refine told_ne (o := fwdO _ f) (fun x hx => fwdO_two hx) (List.Mem.tail _ (List.Mem.head _)) (List.Mem.head _) ?_
        with_reducible refine boolP ?_
        refine ⟨fun hb => absurd hb fnt, fun _ => ?_⟩
        with_reducible refine SW.nil ?_
        with_reducible refine SW.nil ?_
        exact ⟨σ', .cons _ (.cons _ (.refl _)), rfl, ts, rfl, hts, (.dp 5 (by kernel_rfl) (by assumption)), (.dp 5 (by kernel_rfl) (by assumption)), (.dp 5 (by kernel_rfl) (by assumption))⟩
      · dsimp only at hho
        subst hho
        refine ⟨fun hb => absurd hb tnf, fun _ => ?_⟩
        with_reducible refine AllW.and ?_
        with_reducible refine TW.cmp ?_ (by kernel_rfl)
        refine EW.sub ?_
        refine EW.loc (by kernel_rfl) (.dp 1 (by kernel_rfl) .here) ?_
        with_reducible refine EW.int ?_
        refine SubW.tup (j := 5) (by rfl) (by rfl) ?_
        with_reducible refine EW.tuple ?_ (by kernel_rfl)
        with_reducible refine EWs.nil ?_
        refine ⟨Nat.le_of_ble_eq_true rfl, ?_⟩
        cases o with
        | none =>
          refine OpW.neD rfl rfl (by rfl) ?_
          with_reducible refine boolP ?_
          refine ⟨fun _ => ?_, fun hb => absurd hb fnt⟩
          refine ⟨fun hb => absurd hb fnt, fun _ => ?_⟩
          with_reducible refine SW.nil ?_
          with_reducible refine SW.cons ?_
          with_reducible refine XW.ifs ?_
          with_reducible refine TW.cmp ?_ (by kernel_rfl)
          refine EW.loc (by kernel_rfl) (.dp 2 (by kernel_rfl) .here) ?_
          refine EW.loc (by kernel_rfl) .here ?_
          refine told_ne (o := fwdO _ f) (fun x hx => fwdO_two hx) (List.Mem.tail _ (List.Mem.head _)) (List.Mem.head _) ?_
          with_reducible refine boolP ?_
          refine ⟨fun hb => absurd hb fnt, fun _ => ?_⟩
          with_reducible refine SW.nil ?_
          with_reducible refine SW.nil ?_
          exact ⟨σ', .cons _ (.cons _ (.refl _)), rfl, ts, rfl, hts, (.dp 5 (by kernel_rfl) (by assumption)), (.dp 5 (by kernel_rfl) (by assumption)), (.dp 5 (by kernel_rfl) (by assumption))⟩
        | some x =>
          refine OpW.neD (by simp [hopsD, D.pure, D.pures, key_pure]) rfl (by rfl) ?_
          with_reducible refine boolP ?_
          refine ⟨fun hb => absurd hb tnf, fun _ => ?_⟩
          with_reducible refine AllW.nil ?_
          refine ⟨fun _ => ?_, fun hb => absurd hb tnf⟩
          with_reducible refine SW.cons ?_
          refine XW.assignTuple ?_
          refine EW.sub ?_
          refine EW.sub ?_
          refine EW.loc (by kernel_rfl) (.dp 1 (by kernel_rfl) .here) ?_
          with_reducible refine EW.int ?_
          refine SubW.tup (j := 5) (by rfl) (by rfl) ?_
          with_reducible refine EW.int ?_
          refine SubW.tup (j := 0) (by rfl) (by rfl) ?_
          refine AW.tuple rfl ?_
          refine BWs.cons (AW.name (BW.loc (by kernel_rfl) ?_))
          refine BWs.cons (AW.name (BW.loc (by kernel_rfl) ?_))
          refine BWs.nil ?_
          with_reducible refine SW.cons ?_
          refine XW.assignName ?_
          with_reducible refine EW.list ?_ (by kernel_rfl)
          with_reducible refine EWs.cons ?_
          with_reducible refine EW.tuple ?_ (by kernel_rfl)
          with_reducible refine EWs.cons ?_
          with_reducible refine EW.tuple ?_ (by kernel_rfl)
          with_reducible refine EWs.cons ?_
          with_reducible refine EW.int ?_
          with_reducible refine EWs.cons ?_
          with_reducible refine EW.int ?_
          with_reducible refine EWs.nil ?_
          refine ⟨Nat.le_of_ble_eq_true rfl, ?_⟩
          with_reducible refine EWs.cons ?_
          with_reducible refine EW.str ?_
          with_reducible refine EWs.cons ?_
          with_reducible refine EW.binop ?_
          refine EW.sub ?_
          refine EW.loc (by kernel_rfl) (.dp 3 (by kernel_rfl) .here) ?_
          with_reducible refine EW.int ?_
          refine SubW.tup (j := 2) (by rfl) (by rfl) ?_
          with_reducible refine EW.int ?_
          with_reducible refine OpW.add ?_
          with_reducible refine EWs.cons ?_
          with_reducible refine EW.int ?_
          with_reducible refine EWs.cons ?_
          with_reducible refine EW.int ?_
          with_reducible refine EWs.cons ?_
          with_reducible refine EW.tuple ?_ (by kernel_rfl)
          with_reducible refine EWs.cons ?_
          with_reducible refine EW.tuple ?_ (by kernel_rfl)
          with_reducible refine EWs.cons ?_
          refine EW.loc (by kernel_rfl) (.dp 1 (by kernel_rfl) .here) ?_
          with_reducible refine EWs.cons ?_
          with_reducible refine EW.ifexp ?_
          with_reducible refine TW.cmp ?_ (by kernel_rfl)
          refine EW.loc (by kernel_rfl) .here ?_
          with_reducible refine EW.int ?_
          with_reducible refine OpW.eqi ?_
          with_reducible refine boolP ?_
          refine ⟨fun hc => ?_, fun hc => ?_⟩
          · refine EW.loc (by kernel_rfl) (.dp 6 (by kernel_rfl) .here) ?_
            with_reducible refine EWs.nil ?_
            refine ⟨Nat.le_of_ble_eq_true rfl, ?_⟩
            with_reducible refine EWs.nil ?_
            refine ⟨Nat.le_of_ble_eq_true rfl, ?_⟩
            with_reducible refine EWs.nil ?_
            refine ⟨Nat.le_of_ble_eq_true rfl, ?_⟩
            with_reducible refine EWs.nil ?_
            refine ⟨Nat.le_of_ble_eq_true rfl, ?_⟩
            intro d2 hd2
            refine BW.loc (by kernel_rfl) ?_
            with_reducible refine SW.nil ?_
            with_reducible refine SW.cons ?_
            with_reducible refine XW.ifs ?_
            with_reducible refine TW.cmp ?_ (by kernel_rfl)
            refine EW.loc (by kernel_rfl) (.dp 5 (by kernel_rfl) .here) ?_
            refine EW.loc (by kernel_rfl) .here ?_
            have e : fwdO (rteD ⟨p, i, c, s, ar, hopsD (some x)⟩) f = some (c, [x.1, f]) := by
              show some (c, [x.1, if x.2 = 0 then f else x.2]) = _
              rw [if_pos (of_decide_eq_true hc)]
            rw [e]
            refine told_ne (o := some (c, [x.1, f])) (fun y hy => Option.some.inj hy ▸ rfl) (List.Mem.tail _ (List.Mem.tail _ (List.Mem.head _))) (List.Mem.head _) ?_
            with_reducible refine boolP ?_
            refine ⟨fun hb => absurd hb fnt, fun _ => ?_⟩
            with_reducible refine SW.nil ?_
            with_reducible refine SW.nil ?_
            exact ⟨σ', .cons _ (.cons _ (.cons _ (.refl _))), rfl, ts, rfl, hts, (.dp 8 (by kernel_rfl) (by assumption)), (.dp 8 (by kernel_rfl) (by assumption)), (.dp 8 (by kernel_rfl) (by assumption))⟩
          · refine EW.loc (by kernel_rfl) .here ?_
            with_reducible refine EWs.nil ?_
            refine ⟨Nat.le_of_ble_eq_true rfl, ?_⟩
            with_reducible refine EWs.nil ?_
            refine ⟨Nat.le_of_ble_eq_true rfl, ?_⟩
            with_reducible refine EWs.nil ?_
            refine ⟨Nat.le_of_ble_eq_true rfl, ?_⟩
            with_reducible refine EWs.nil ?_
            refine ⟨Nat.le_of_ble_eq_true rfl, ?_⟩
            intro d2 hd2
            refine BW.loc (by kernel_rfl) ?_
            with_reducible refine SW.nil ?_
            with_reducible refine SW.cons ?_
            with_reducible refine XW.ifs ?_
            with_reducible refine TW.cmp ?_ (by kernel_rfl)
            refine EW.loc (by kernel_rfl) (.dp 5 (by kernel_rfl) .here) ?_
            refine EW.loc (by kernel_rfl) .here ?_
            have e : fwdO (rteD ⟨p, i, c, s, ar, hopsD (some x)⟩) f = some (c, [x.1, x.2]) := by
              show some (c, [x.1, if x.2 = 0 then f else x.2]) = _
              rw [if_neg (of_decide_eq_false hc)]
            rw [e]
            refine told_ne (o := some (c, [x.1, x.2])) (fun y hy => Option.some.inj hy ▸ rfl) (List.Mem.tail _ (List.Mem.tail _ (List.Mem.head _))) (List.Mem.head _) ?_
            with_reducible refine boolP ?_
            refine ⟨fun hb => absurd hb fnt, fun _ => ?_⟩
            with_reducible refine SW.nil ?_
            with_reducible refine SW.nil ?_
            exact ⟨σ', .cons _ (.cons _ (.cons _ (.refl _))), rfl, ts, rfl, hts, (.dp 8 (by kernel_rfl) (by assumption)), (.dp 8 (by kernel_rfl) (by assumption)), (.dp 8 (by kernel_rfl) (by assumption))⟩
    · rintro ρ' σ' ⟨rfl, _, _, _, r2, r3, r4⟩
      with_reducible refine SW.cons ?_
      with_reducible refine XW.ret ?_
      with_reducible refine EW.bool ?_
      rfl
end
noncomputable abbrev ent (r : Rte) : List Int × D := (r.p, rteD r)
noncomputable def dfltR : Rte := ⟨[], true, 0, 0, 0, .tup []⟩
noncomputable def getR (hs : List Rte) (q : List Int) : Rte := (hs.find? fun r => decide (r.p = q)).getD dfltR
noncomputable abbrev dropR (q : List Int) : Rte := ⟨q, false, 0, 0, 1, .tup []⟩
/-- a prefix as the law draws it -/
noncomputable def Vp (q : List Int) : Prop := ∃ x l : Int, 1 ≤ l ∧ l ≤ 4 ∧ 0 ≤ x ∧ x < 2 ^ l.toNat ∧ q = [x * 2 ^ (5 - l).toNat, l]
theorem Vp.okk {q : List Int} (h : Vp q) : Okk q := by
  obtain ⟨x, l, h1, h2, h3, h4, rfl⟩ := h
  exact ⟨_, _, rfl, by omega, by omega⟩
theorem Vp.two {q : List Int} (h : Vp q) : q.length = 2 := by obtain ⟨x, l, _, _, _, _, rfl⟩ := h; rfl
noncomputable def toP (q : List Int) : Pr := (q.getD 0 0, q.getD 1 0)
theorem look_ent {hs : List Rte} {q : List Int} : look (hs.map ent) q = (hs.find? fun r => decide (r.p = q)).map rteD := by
  unfold look
  induction hs with
  | nil => rfl
  | cons r hs ih =>
    rw [List.map_cons]
    by_cases h : r.p = q
    · rw [List.find?_cons_of_pos (by simpa using h), List.find?_cons_of_pos (by simpa using h)]; rfl
    · rw [List.find?_cons_of_neg (by simpa using h), List.find?_cons_of_neg (by simpa using h)]; exact ih
theorem getR_mem {hs : List Rte} {q : List Int} (h : q ∈ hs.map (·.p)) : getR hs q ∈ hs ∧ (getR hs q).p = q ∧ look (hs.map ent) q = some (rteD (getR hs q)) := by
  obtain ⟨r, hr, rfl⟩ := List.mem_map.mp h
  cases hf : hs.find? fun x => decide (x.p = r.p) with
  | none =>
    have := List.find?_eq_none.mp hf r hr
    simp at this
  | some y =>
    have e : getR hs r.p = y := by unfold getR; rw [hf]; rfl
    rw [e]
    exact ⟨List.mem_of_find?_eq_some hf, by simpa using List.find?_some hf, by rw [look_ent, hf]; rfl⟩
theorem look_ent_none {hs : List Rte} {q : List Int} : (look (hs.map ent) q).isSome = decide (q ∈ hs.map (·.p)) := by
  by_cases h : q ∈ hs.map (·.p)
  · rw [(getR_mem h).2.2]; simp [h]
  · rw [look_ent]
    have : (hs.find? fun r => decide (r.p = q)) = none := by
      rw [List.find?_eq_none]
      intro r hr
      simp only [decide_eq_true_eq]
      exact fun e => h (List.mem_map.mpr ⟨r, hr, e⟩)
    rw [this]; simp [h]
/-- the nets that are held -/
structure HOk (hs : List Rte) : Prop where
  nodup : (hs.map (·.p)).Nodup
  vp : ∀ r ∈ hs, Vp r.p
  hops : ∀ r ∈ hs, ∃ o, r.hops = hopsD o
noncomputable def tbl (hs : List Rte) (act : List (List Int)) : List Rte := (srtK (hs.map (·.p))).map (getR hs) ++ act.map dropR
structure AOk2 (act : List (List Int)) : Prop where
  nodup : act.Nodup
  vp : ∀ q ∈ act, Vp q
  len : act.length ≤ 2
theorem bit_fin : ∀ a : Fin 32, ∀ o : Fin 6, Builtin.bitAnd ((a.val : Nat) : Int) (maskI ((o.val : Nat) : Int) 5) = Int.fdiv ((a.val : Nat) : Int) (2 ^ (5 - ((o.val : Nat) : Int)).toNat) * 2 ^ (5 - ((o.val : Nat) : Int)).toNat := by decide +kernel
theorem bit_eq {a o : Int} (h0 : 0 ≤ a) (h1 : a < 32) (h2 : 0 ≤ o) (h3 : o ≤ 5) : Builtin.bitAnd a (maskI o 5) = Int.fdiv a (2 ^ (5 - o).toNat) * 2 ^ (5 - o).toNat := by
  have := bit_fin ⟨a.toNat, by omega⟩ ⟨o.toNat, by omega⟩
  simp only at this
  rw [show ((a.toNat : Nat) : Int) = a by omega, show ((o.toNat : Nat) : Int) = o by omega] at this
  exact this
theorem Vp.addr {q : List Int} (h : Vp q) : 0 ≤ (toP q).1 ∧ (toP q).1 < 32 ∧ 1 ≤ (toP q).2 ∧ (toP q).2 ≤ 4 ∧ q = [(toP q).1, (toP q).2] := by
  obtain ⟨x, l, h1, h2, h3, h4, rfl⟩ := h
  refine ⟨?_, ?_, h1, h2, rfl⟩
  · exact Int.mul_nonneg h3 (Int.le_of_lt (Int.pow_pos (by decide)))
  · show x * 2 ^ (5 - l).toNat < 32
    rcases (by omega : l = 1 ∨ l = 2 ∨ l = 3 ∨ l = 4) with rfl | rfl | rfl | rfl
    · have e1 : (2 : Int) ^ (1 : Int).toNat = 2 := rfl
      have e2 : (2 : Int) ^ (5 - 1 : Int).toNat = 16 := rfl
      rw [e1] at h4; rw [e2]; omega
    · have e1 : (2 : Int) ^ (2 : Int).toNat = 4 := rfl
      have e2 : (2 : Int) ^ (5 - 2 : Int).toNat = 8 := rfl
      rw [e1] at h4; rw [e2]; omega
    · have e1 : (2 : Int) ^ (3 : Int).toNat = 8 := rfl
      have e2 : (2 : Int) ^ (5 - 3 : Int).toNat = 4 := rfl
      rw [e1] at h4; rw [e2]; omega
    · have e1 : (2 : Int) ^ (4 : Int).toNat = 16 := rfl
      have e2 : (2 : Int) ^ (5 - 4 : Int).toNat = 2 := rfl
      rw [e1] at h4; rw [e2]; omega
/-! the lookups -/
theorem look_fold {q : List Int} (rs : List Rte) : ∀ (es : List (List Int × D)), look (rs.foldl tblStep es) q = if (look es q).isSome then look es q else (rs.find? fun r => decide (r.p = q)).map rteD := by
  induction rs with
  | nil =>
    intro es
    show look es q = if (look es q).isSome then look es q else none
    cases look es q <;> rfl
  | cons r rs ih =>
    intro es
    rw [List.foldl_cons, ih]
    have hs : look (tblStep es r) q = if (look es q).isSome then look es q else if r.p = q then some (rteD r) else none := by
      unfold tblStep
      by_cases h : (look es r.p).isSome
      · rw [if_pos h]
        by_cases hq : r.p = q
        · rw [hq] at h; rw [if_pos h]
        · rw [if_neg hq]
          cases look es q <;> simp
      · rw [if_neg h, look_append]
    rw [hs]
    by_cases h : (look es q).isSome
    · simp [h]
    · simp only [h, if_false]
      by_cases hq : r.p = q
      · rw [List.find?_cons_of_pos (by simpa using hq)]; simp [hq]
      · rw [List.find?_cons_of_neg (by simpa using hq)]; simp [hq]
noncomputable def valD (hs : List Rte) (q : List Int) : D := (look (hs.map ent) q).getD (dropD q)
theorem tbl_look {hs : List Rte} {act : List (List Int)} (hl : hs.length ≤ 4) (q : List Int) : look ((tbl hs act).foldl tblStep []) q = if q ∈ hs.map (·.p) ∨ q ∈ act then some (valD hs q) else none := by
  have hp := srtK_perm (ks := hs.map (·.p)) (by rw [List.length_map]; omega)
  rw [look_fold]
  simp only [show look ([] : List (List Int × D)) q = none from rfl, Option.isSome_none, Bool.false_eq_true, if_false]
  unfold tbl
  rw [List.find?_append]
  by_cases h1 : q ∈ hs.map (·.p)
  · rw [if_pos (.inl h1)]
    have hg := getR_mem h1
    cases hf : ((srtK (hs.map (·.p))).map (getR hs)).find? fun r => decide (r.p = q) with
    | none =>
      have := List.find?_eq_none.mp hf (getR hs q) (List.mem_map.mpr ⟨q, hp.mem_iff.mpr h1, rfl⟩)
      simp [hg.2.1] at this
    | some y =>
      obtain ⟨q', hq', rfl⟩ := List.mem_map.mp (List.mem_of_find?_eq_some hf)
      have h2 : (getR hs q').p = q := by simpa using List.find?_some hf
      rw [(getR_mem (hp.mem_iff.mp hq')).2.1] at h2
      subst h2
      unfold valD
      rw [hg.2.2]
      rfl
  · have hA : ((srtK (hs.map (·.p))).map (getR hs)).find? (fun r => decide (r.p = q)) = none := by
      rw [List.find?_eq_none]
      intro r hr
      obtain ⟨q', hq', rfl⟩ := List.mem_map.mp hr
      have hq := hp.mem_iff.mp hq'
      simp only [decide_eq_true_eq]
      rw [(getR_mem hq).2.1]
      exact fun e => h1 (e ▸ hq)
    rw [hA]
    have hn : look (hs.map ent) q = none := by
      have := look_ent_none (hs := hs) (q := q)
      simp only [h1, decide_false] at this
      simpa using this
    by_cases h2 : q ∈ act
    · rw [if_pos (.inr h2)]
      cases hf : (act.map dropR).find? fun r => decide (r.p = q) with
      | none =>
        have := List.find?_eq_none.mp hf (dropR q) (List.mem_map.mpr ⟨q, h2, rfl⟩)
        simp at this
      | some y =>
        obtain ⟨q', hq', rfl⟩ := List.mem_map.mp (List.mem_of_find?_eq_some hf)
        have h3 : q' = q := by simpa using List.find?_some hf
        subst h3
        unfold valD
        rw [hn]
        rfl
    · rw [if_neg (by simp [h1, h2])]
      have hB : (act.map dropR).find? (fun r => decide (r.p = q)) = none := by
        rw [List.find?_eq_none]
        intro r hr
        obtain ⟨q', hq', rfl⟩ := List.mem_map.mp hr
        simp only [decide_eq_true_eq]
        exact fun e => h2 (e ▸ hq')
      rw [hB]; rfl
noncomputable def len1 (q : List Int) : Int := q.getD 1 0
/-- what the due fold finds -/
noncomputable def DueSpec (addr : Int) (ks : List (List Int)) (f r : Option (List Int)) : Prop :=
  Option.casesOn r (f = none ∧ ∀ q ∈ ks, hk q addr = false) fun b => ((b ∈ ks ∧ hk b addr = true) ∨ f = some b) ∧ (∀ q ∈ ks, hk q addr = true → len1 q ≤ len1 b) ∧ ∀ g, f = some g → len1 g ≤ len1 b
theorem dueStep_or {addr : Int} {f : Option (List Int)} {q : List Int} : (dueStep addr f q = f ∧ (hk q addr = true → ∃ g, f = some g ∧ len1 q ≤ len1 g)) ∨ (dueStep addr f q = some q ∧ hk q addr = true ∧ ∀ g, f = some g → len1 g ≤ len1 q) := by
  cases h : hk q addr with
  | false => exact .inl ⟨dueStep_no h, fun e => absurd e Bool.false_ne_true⟩
  | true =>
    cases f with
    | none => exact .inr ⟨dueStep_none h, rfl, fun g e => absurd e.symm (Option.some_ne_none g)⟩
    | some g =>
      by_cases hc : g.getD 1 0 < q.getD 1 0
      · exact .inr ⟨dueStep_lt h (decide_eq_true hc), rfl, fun g' e => Option.some.inj e ▸ Int.le_of_lt hc⟩
      · exact .inl ⟨dueStep_ge h (decide_eq_false hc), fun _ => ⟨g, rfl, Int.not_lt.mp hc⟩⟩
theorem due_spec {addr : Int} (ks : List (List Int)) : ∀ (f : Option (List Int)), DueSpec addr ks f (ks.foldl (dueStep addr) f) := by
  induction ks with
  | nil =>
    intro f
    cases f with
    | none => exact ⟨rfl, fun _ h => absurd h List.not_mem_nil⟩
    | some b => exact ⟨.inr rfl, (fun _ h => absurd h List.not_mem_nil), fun g e => Option.some.inj e ▸ Int.le_refl _⟩
  | cons q ks ih =>
    intro f
    replace ih := ih (dueStep addr f q)
    rw [List.foldl_cons]
    generalize ks.foldl (dueStep addr) (dueStep addr f q) = r at ih
    rcases dueStep_or (addr := addr) (f := f) (q := q) with ⟨e, h⟩ | ⟨e, h1, h2⟩
    · rw [e] at ih
      cases r with
      | none =>
        refine ⟨ih.1, fun x hx => ?_⟩
        rcases List.mem_cons.mp hx with rfl | hx
        · cases hh : hk x addr with
          | false => rfl
          | true => exact let ⟨g, hg, _⟩ := h hh; absurd (hg.symm.trans ih.1) (Option.some_ne_none g)
        · exact ih.2 x hx
      | some b =>
        obtain ⟨i1, i2, i3⟩ := ih
        refine ⟨i1.imp (fun h => ⟨.tail _ h.1, h.2⟩) id, fun x hx hh => ?_, i3⟩
        rcases List.mem_cons.mp hx with rfl | hx
        · obtain ⟨g, hg, hle⟩ := h hh
          exact Int.le_trans hle (i3 g hg)
        · exact i2 x hx hh
    · rw [e] at ih
      cases r with
      | none => exact absurd ih.1 (by simp)
      | some b =>
        obtain ⟨i1, i2, i3⟩ := ih
        refine ⟨.inl ?_, fun x hx hh => ?_, fun g hg => Int.le_trans (h2 g hg) (i3 q rfl)⟩
        · rcases i1 with h | h
          · exact ⟨.tail _ h.1, h.2⟩
          · cases h; exact ⟨.head _, h1⟩
        · rcases List.mem_cons.mp hx with rfl | hx
          · exact i3 x rfl
          · exact i2 x hx hh
theorem lookFrom_at {es : List (List Int × D)} {addr l : Int} {d : D} : ∀ (pre : List Int) (post : List Int), (∀ x ∈ pre, look es (prefI addr x 5) = none) → look es (prefI addr l 5) = some d → lookFrom es addr (pre ++ l :: post) = d
  | [], post, _, h => by rw [List.nil_append, lookFrom, h]
  | x :: pre, post, h1, h => by
    rw [List.cons_append, lookFrom, h1 x (.head _)]
    exact lookFrom_at pre post (fun y hy => h1 y (.tail _ hy)) h
theorem lookFrom_none {es : List (List Int × D)} {addr : Int} : ∀ (ls : List Int), (∀ x ∈ ls, look es (prefI addr x 5) = none) → lookFrom es addr ls = .none
  | [], _ => rfl
  | x :: ls, h => by
    rw [lookFrom, h x (.head _)]
    exact lookFrom_none ls fun y hy => h y (.tail _ hy)
theorem hk_iff {q : List Int} (hv : Vp q) {addr : Int} (h0 : 0 ≤ addr) (h1 : addr < 32) : hk q addr = true ↔ q = prefI addr (len1 q) 5 := by
  obtain ⟨a1, a2, a3, a4, e⟩ := hv.addr
  have hl : len1 q = (toP q).2 := rfl
  unfold hk holdsL prefI
  rw [hl, bit_eq h0 h1 (by omega) (by omega)]
  rw [show q.getD 0 0 = (toP q).1 from rfl, show q.getD 1 0 = (toP q).2 from rfl]
  simp only [Bool.and_eq_true, decide_eq_true_eq]
  constructor
  · rintro ⟨_, h⟩
    rw [h]
    exact e
  · intro h
    refine ⟨by omega, ?_⟩
    have : q.getD 0 0 = _ := congrArg (fun l => l.getD 0 0) h
    exact this.symm
theorem pref_len {addr l : Int} : len1 (prefI addr l 5) = l := rfl
theorem rte_isNone {r : Rte} : (rteD r).isNone = false := rfl
theorem tbl_vals : ∀ (rs : List Rte) (es : List (List Int × D)), (∀ e ∈ es, e.2.isNone = false) → ∀ e ∈ rs.foldl tblStep es, e.2.isNone = false
  | [], es, h => h
  | r :: rs, es, h => by
    rw [List.foldl_cons]
    refine tbl_vals rs _ fun e he => ?_
    unfold tblStep at he
    split at he
    · exact h e he
    · rcases List.mem_append.mp he with he | he
      · exact h e he
      · rw [List.mem_singleton.mp he]; rfl
theorem plain_C {hs : List Rte} {act : List (List Int)} (H : HOk hs) (hl : hs.length ≤ 4) (Z : AOk2 act) (hc : ∀ r ∈ hs, r.p ∈ act → r.intra = true) : LawC (hs.map ent) ((tbl hs act).foldl tblStep []) act := by
  have hfst : (hs.map ent).map (·.1) = hs.map (·.p) := by rw [List.map_map]; rfl
  have hzl := Z.len
  have hmem : ∀ q, q ∈ allKeys (hs.map ent) act ↔ (q ∈ hs.map (·.p) ∨ q ∈ act) := by
    intro q
    unfold allKeys
    rw [hfst, List.mem_append, List.mem_filter, look_ent_none]
    constructor
    · rintro (h | h)
      · exact .inl h
      · exact .inr h.1
    · rintro (h | h)
      · exact .inl h
      · by_cases h1 : q ∈ hs.map (·.p)
        · exact .inl h1
        · exact .inr ⟨h, by simpa using h1⟩
  have hvp : ∀ q, (q ∈ hs.map (·.p) ∨ q ∈ act) → Vp q := by
    rintro q (h | h)
    · obtain ⟨r, hr, rfl⟩ := List.mem_map.mp h; exact H.vp r hr
    · exact Z.vp q h
  have hlen : (allKeys (hs.map ent) act).length ≤ 6 := by
    have := List.length_filter_le (fun q => !(look (hs.map ent) q).isSome) act
    unfold allKeys
    rw [List.length_append, List.length_map, List.length_map]
    omega
  have hp := srtK_perm hlen
  have hspec := fun addr => due_spec (addr := addr) (srtK (allKeys (hs.map ent) act)) none
  have hmem2 : ∀ q, q ∈ srtK (allKeys (hs.map ent) act) ↔ (q ∈ hs.map (·.p) ∨ q ∈ act) := fun q => hp.mem_iff.trans (hmem q)
  have hdue : ∀ addr, dueD (hs.map ent) act addr = Option.casesOn (dueBest (hs.map ent) act addr) .none (fun q => valD hs q) := fun addr => rfl
  refine ⟨fun addr h0 h1 => ?_, fun addr h0 h1 => ?_, tbl_vals _ _ (fun _ h => absurd h List.not_mem_nil), by rw [List.length_map]; omega, fun e he => ?_, fun q hq => (Z.vp q hq).okk⟩
  · have hs1 := hspec addr
    rw [hdue]
    unfold dueBest at *
    generalize (srtK (allKeys (hs.map ent) act)).foldl (dueStep addr) none = r at hs1
    cases r with
    | none =>
      refine lookFrom_none _ fun l hl => ?_
      rw [tbl_look (by omega), if_neg]
      intro hin
      have := hs1.2 _ ((hmem2 _).mpr hin)
      rw [(hk_iff (hvp _ hin) h0 h1).mpr rfl] at this
      cases this
    | some b =>
      obtain ⟨i1, i2, _⟩ := hs1
      have hb : b ∈ srtK (allKeys (hs.map ent) act) ∧ hk b addr = true := i1.elim id fun e => absurd e.symm (Option.some_ne_none b)
      have hbm := (hmem2 b).mp hb.1
      have hbv := (hvp b hbm).addr
      have hbe := (hk_iff (hvp b hbm) h0 h1).mp hb.2
      have hlook : look ((tbl hs act).foldl tblStep []) (prefI addr (len1 b) 5) = some (valD hs b) := by
        rw [← hbe, tbl_look (by omega), if_pos hbm]
      have hno : ∀ l, len1 b < l → look ((tbl hs act).foldl tblStep []) (prefI addr l 5) = none := by
        intro l hlt
        rw [tbl_look (by omega), if_neg]
        intro hin
        have := i2 _ ((hmem2 _).mpr hin) ((hk_iff (hvp _ hin) h0 h1).mpr rfl)
        rw [pref_len] at this
        omega
      have hbl : len1 b = (toP b).2 := rfl
      show lookFrom _ addr [5, 4, 3, 2, 1, 0] = valD hs b
      rcases (by omega : len1 b = 4 ∨ len1 b = 3 ∨ len1 b = 2 ∨ len1 b = 1) with e | e | e | e <;> rw [e] at hlook hno
      · exact lookFrom_at [5] [3, 2, 1, 0] (fun x hx => hno x (by simp at hx; omega)) hlook
      · exact lookFrom_at [5, 4] [2, 1, 0] (fun x hx => hno x (by simp at hx; omega)) hlook
      · exact lookFrom_at [5, 4, 3] [1, 0] (fun x hx => hno x (by simp at hx; omega)) hlook
      · exact lookFrom_at [5, 4, 3, 2] [0] (fun x hx => hno x (by simp at hx; omega)) hlook
  · have hs1 := hspec addr
    rw [hdue]
    unfold dueBest at *
    generalize (srtK (allKeys (hs.map ent) act)).foldl (dueStep addr) none = r at hs1
    cases r with
    | none => exact .inl rfl
    | some b =>
      right
      obtain ⟨i1, _, _⟩ := hs1
      have hb : b ∈ srtK (allKeys (hs.map ent) act) ∧ hk b addr = true := i1.elim id fun e => absurd e.symm (Option.some_ne_none b)
      have hbm := (hmem2 b).mp hb.1
      by_cases h1 : b ∈ hs.map (·.p)
      · have hg := getR_mem h1
        obtain ⟨o, ho⟩ := H.hops _ hg.1
        refine ⟨getR hs b, o, ?_, ho, (H.vp _ hg.1).two⟩
        show valD hs b = _
        unfold valD
        rw [hg.2.2]; rfl
      · refine ⟨dropR b, none, ?_, rfl, (hvp b hbm).two⟩
        show valD hs b = _
        unfold valD
        have := look_ent_none (hs := hs) (q := b)
        simp only [h1, decide_false] at this
        rw [show look (hs.map ent) b = none by simpa using this]
        rfl
  · obtain ⟨r, hr, rfl⟩ := List.mem_map.mp he
    exact (H.vp r hr).okk
theorem srt_mem {hs : List Rte} (hl : hs.length ≤ 4) {q : List Int} (h : q ∈ srtK (hs.map (·.p))) : q ∈ hs.map (·.p) := (srtK_perm (by rw [List.length_map]; omega)).mem_iff.mp h
theorem tbl_clash {hs : List Rte} {act : List (List Int)} (H : HOk hs) (hl : hs.length ≤ 4) (Z : AOk2 act) (hc : ∀ r ∈ hs, r.p ∈ act → r.intra = true) : NoClash (tbl hs act) := by
  have hp := srtK_perm (ks := hs.map (·.p)) (by rw [List.length_map]; omega)
  have hpn : (srtK (hs.map (·.p))).Nodup := hp.symm.nodup H.nodup
  have e1 : ((srtK (hs.map (·.p))).map (getR hs)).map (·.p) = srtK (hs.map (·.p)) := by
    rw [List.map_map]
    conv => rhs; rw [← List.map_id (srtK (hs.map (·.p)))]
    exact List.map_congr_left fun q hq => (getR_mem (srt_mem hl hq)).2.1
  unfold NoClash tbl
  rw [List.pairwise_append]
  refine ⟨?_, ?_, ?_⟩
  · have : (((srtK (hs.map (·.p))).map (getR hs)).map (·.p)).Pairwise (· ≠ ·) := by rw [e1]; exact hpn
    rw [List.pairwise_map] at this
    exact this.imp fun h e => absurd e h
  · have : ((act.map dropR).map (·.p)).Pairwise (· ≠ ·) := by
      rw [List.map_map, show ((fun x : Rte => x.p) ∘ dropR) = id from rfl, List.map_id]; exact Z.nodup
    rw [List.pairwise_map] at this
    exact this.imp fun h e => absurd e h
  · intro x hx y hy e
    obtain ⟨q, hq, rfl⟩ := List.mem_map.mp hx
    obtain ⟨q', hq', rfl⟩ := List.mem_map.mp hy
    have hm := getR_mem (srt_mem hl hq)
    exact ⟨hc _ hm.1 (by rw [show (getR hs q).p = q' from e]; exact hq'), rfl⟩
section
variable {P : Params} {mg mb : Str → Option Value} {prog : Program} {w : World} {h₀ : Heap} {k : Nat} {σ : Sto}

/-- [held[one] for one in ..] -/
theorem comp_held {scope0 scope : Scope} {L : Addr} {cl : List (Str × Addr)} {q : Str} {fn : Option Addr} {cd : Value} {fr : Option Addr} {p1 p2 p3 p4 : Pos} {al ah : Addr} {ks : List (List Int)} {es : List (List Int × D)} {g : List Int → Rte} {σ1 : Sto} {Post : D → Sto → Prop}
    (hk1 : ∀ L2 cl2, (compE scope (mkEnv scope0 L cl q fn cd fr) L2 cl2).kindOf "one" = some .local) (hk2 : ∀ L2 cl2, (compE scope (mkEnv scope0 L cl q fn cd fr) L2 cl2).kindOf "held" = some .cell)
    (hm : (al, .lst (ks.map D.key)) ∈ σ1) (hh : (ah, .dct es) ∈ σ1) (hl : ks.length ≤ 6) (hg : ∀ q ∈ ks, look es q = some (rteD (g q))) (h : ∀ a, ¬ dom σ1 a → Post (.ref a) ((a, .lst ((ks.map g).map rteD)) :: σ1)) :
    CompOk prog w h₀ k (mkEnv scope0 L cl q fn cd fr) [("held", .ref ah)] scope (.Name "one" p4) (.Subscript (.Name "held" p1) (.Name "one" p2) p3) [] (.ref al) σ1 Post := by
  refine ⟨_, _, fun (rest ac : List D) (σ' : Sto) => σ' = σ1 ∧ ∃ q1 q2 : List (List Int), ks = q1 ++ q2 ∧ rest = q2.map D.key ∧ ac = (q1.map g).map rteD, Src.list (ds := ks.map D.key), by rw [List.length_map]; omega, hm, ⟨rfl, [], ks, rfl, rfl, rfl⟩, ?_, ?_, ?_⟩
  · rintro _ _ _ _ ⟨rfl, _⟩
    exact .tail _ hm
  · rintro L2 cl2 d' rest ac σ' c ⟨rfl, q1, q2, e1, e2, rfl⟩ hc
    cases q2 with
    | nil => exact absurd e2 (List.cons_ne_nil _ _)
    | cons q q2 =>
    obtain ⟨rfl, rfl⟩ := List.cons.inj e2
    refine AW.name (BW.loc (hk1 _ _) ⟨hasAll_cons ?_ hasAll_nil, ?_⟩)
    · exact (.dp 1 (by kernel_rfl) .here)
    · refine ⟨fun _ => ?_, fun hb => absurd hb tnf⟩
      refine EW.sub ?_
      refine EW.cell (hk2 _ _) (.dp 1 (by kernel_rfl) .here) ?_
      refine EW.loc (hk1 _ _) .here ?_
      refine SubW.dct (.tail _ hh) (hg q (e1 ▸ List.mem_append_right _ (.head _))) ?_
      exact ⟨_, rfl, rfl, q1 ++ [q], q2, by rw [e1, List.append_assoc]; rfl, rfl, by simp⟩
  · rintro ac σ' c ⟨rfl, q1, q2, e1, e2, rfl⟩ hc
    cases q2 with
    | cons _ _ => exact absurd e2.symm (List.cons_ne_nil _ _)
    | nil =>
    rw [List.append_nil] at e1
    subst e1
    exact h c hc

noncomputable abbrev σL (aa ar an ah pool c : Addr) (act ks : List (List Int)) (rs : List Rg) (ns : List Int) (es : List (List Int × D)) (s : Int) : Sto :=
  [(aa, .lst (act.map D.key)), (ar, .lst (rs.map rngD)), (an, .lst (ks.map D.key)), (ah, .dct es), (pool, .arr [.ref c, .int s]), (c, .lst (ns.map .int))]
theorem drops_pure {act : List (List Int)} : D.pures (act.map dropD) = true := by
  rw [D.pures_all, List.all_eq_true]
  intro x hx
  obtain ⟨q, _, rfl⟩ := List.mem_map.mp hx
  show ((D.key q).pure && _) = true
  rw [key_pure]
  decide +kernel
theorem drops_depth {act : List (List Int)} (Z : AOk2 act) : PyData.depthAll (D.pys (act.map dropD)) ≤ 28 := by
  cases act with
  | nil => exact Nat.le_of_ble_eq_true rfl
  | cons a t =>
    obtain ⟨x, y, rfl⟩ := len_two (Z.vp a (.head _)).two
    cases t with
    | nil => exact Nat.le_of_ble_eq_true rfl
    | cons b u =>
      obtain ⟨x', y', rfl⟩ := len_two (Z.vp b (.tail _ (.head _))).two
      obtain rfl : u = [] := List.length_eq_zero_iff.mp (Nat.le_zero.mp (Nat.le_of_succ_le_succ (Nat.le_of_succ_le_succ Z.len)))
      exact Nat.le_of_ble_eq_true rfl
/-- a route as the areas' code takes it -/
noncomputable def toRt (r : Rte) : Rt := (r.p.getD 0 0, r.p.getD 1 0, [.str (sortS r.intra), .int r.cost, .int r.second, .int r.area, r.hops])
theorem toRt_D {r : Rte} (h : r.p.length = 2) : rteD r = rtD (toRt r) := by
  obtain ⟨p, i, c, s, a, hh⟩ := r
  obtain ⟨x, y, rfl⟩ := len_two h
  rfl
theorem poolL {aa ar an ah pool c : Addr} {act ks : List (List Int)} {rs : List Rg} {ns : List Int} {es : List (List Int × D)} (hns : ns.length ≤ 100) : PoolF (fun s => σL aa ar an ah pool c act ks rs ns es s) pool c ns :=
  ⟨fun s s' => .there (.there (.there (.there .here))), fun s => .tail _ (.tail _ (.tail _ (.tail _ (.tail _ (.head _))))), hns⟩
set_option maxHeartbeats 8000000 in
theorem law_B2 (W : Wd (KH P) mg mb h₀) {aa ar an ah pool c ad : Addr} {hs : List Rte} {act ks : List (List Int)} {rs : List Rg} {ns : List Int} {spot : Int} (h0 : 0 ≤ spot) (hns : ns.length ≤ 100) (H : HOk hs) (hl : hs.length ≤ 4) (Z : AOk2 act) (hc : ∀ r ∈ hs, r.p ∈ act → r.intra = true)
    {L : Addr} {cl : List (Str × Addr)} {q : Str} {fn : Addr} {cd : Value} {fr : Option Addr} {ρ : Rho}
    (hcells : ∀ x, (scopeOf (KH P) 169).names.lookup x = some .cell → (cl.lookup x).isSome = true) (r1 : Has ρ "pool" (.ref pool)) (r2 : Has ρ "held" (.ref ah)) (r3 : Has ρ "active" (.ref aa)) (r4 : Has ρ "drops" (.ref ad)) {N C : Rho → Sto → Prop} :
    SW prog w h₀ (k + 6) (mkEnv (scopeOf (KH P) 169) L cl q (some fn) cd fr) ρ ((ad, .lst (act.map dropD)) :: σL aa ar an ah pool c act ks rs ns (hs.map ent) spot) ((bodyOf (KH P) 169).drop 9) N C (fun d _ => d = .bool true) := by
  have tail := fun (at' : Addr) (ρ : Rho) r1 r2 r3 r4 => law_C (k := k) W (plain_C H hl Z hc) (prog := prog) (w := w) ((poolL (aa := aa) (ar := ar) (an := an) (ah := ah) (pool := pool) (c := c) (act := act) (ks := ks) (rs := rs) (es := hs.map ent) hns).cons (at', .dct ((tbl hs act).foldl tblStep []))) h0
    (ah := ah) (aa := aa) (at' := at') (fun s => .tail _ (.tail _ (.tail _ (.tail _ (.head _))))) (fun s => .tail _ (.head _)) (fun s => .head _) (L := L) (cl := cl) (q := q) (fn := fn) (cd := cd) (fr := fr) (ρ := ρ) hcells r1 r2 r3 r4 (N := N) (C := C)
  conv in (List.drop _ _) => whnf
  conv in (scopeOf _ _) => whnf
  conv at hcells in (scopeOf _ _) => whnf
  with_reducible refine SW.cons ?_
  refine XW.assignName ?_
  refine EW.callF W 88 (by kernel_rfl) (by kernel_rfl) (by kernel_rfl) ?_
  refine EWs.cons ?_
  refine EW.binop ?_
  refine EW.comp (ρc := [("held", .ref ah)]) (.of rfl (by kernel_rfl) hcells) (.cons (by assumption) (by kernel_rfl) (by kernel_rfl) (by kernel_rfl) .nil) ?_
  refine EW.bi W (by kernel_rfl) (by kernel_rfl) (v := .builtin "sorted") (by decide +kernel) (by decide +kernel) (.inl ⟨_, rfl⟩) ?_
  with_reducible refine EWs.cons ?_
  refine EW.cell (by kernel_rfl) (by assumption) ?_
  with_reducible refine EWs.nil ?_
  refine BiW.sortedD (.tail _ (.tail _ (.tail _ (.tail _ (.head _))))) (fun e he => by obtain ⟨r, hr, rfl⟩ := List.mem_map.mp he; exact (H.vp r hr).two) (by simp; omega) fun so hso => ?_
  have hfst : (hs.map ent).map (·.1) = hs.map (·.p) := by rw [List.map_map]; rfl
  rw [hfst]
  have hks : (srtK (hs.map (·.p))).length ≤ 4 := by
    rw [(srtK_perm (ks := hs.map (·.p)) (by rw [List.length_map]; omega)).length_eq, List.length_map]; exact hl
  refine comp_held (g := getR hs) (fun _ _ => by kernel_rfl) (fun _ _ => by kernel_rfl) (.head _) (.tail _ (.tail _ (.tail _ (.tail _ (.tail _ (.head _)))))) (by omega) (fun q hq => (getR_mem (srt_mem hl hq)).2.2) fun al hal => ?_
  refine EW.loc (by kernel_rfl) (by assumption) ?_
  have hzl := Z.len
  refine OpW.addL (.head _) (.tail _ (.tail _ (.head _))) (by simp; omega) fun cc hcc => ?_
  have htb : ((srtK (hs.map (·.p))).map (getR hs)).map rteD ++ act.map dropD = (tbl hs act).map rteD := by
    unfold tbl
    rw [List.map_append, List.map_map (f := dropR)]; rfl
  rw [htb]
  with_reducible refine EWs.nil ?_
  refine c_table_of W (.head _) (by unfold tbl; simp; omega) (tbl_clash H hl Z hc) fun at' hat => ?_
  refine BW.loc (by kernel_rfl) ?_
  refine FlowW.pre (σ' := (at', .dct ((tbl hs act).foldl tblStep [])) :: σL aa ar an ah pool c act ks rs ns (hs.map ent) spot) (.cons_cons _ (.cons _ (.cons _ (.cons _ (.cons _ (.refl _)))))) ?_
  exact tail at' _ (.dp 1 (by kernel_rfl) (by assumption)) (.dp 1 (by kernel_rfl) (by assumption)) (.dp 1 (by kernel_rfl) (by assumption)) .here
set_option maxHeartbeats 8000000 in
theorem law_B (W : Wd (KH P) mg mb h₀) {aa ar an ah pool c : Addr} {hs : List Rte} {act : List (List Int)} {rs : List Rg} {ns : List Int} {spot : Int} (h0 : 0 ≤ spot) (hns : ns.length ≤ 100) (H : HOk hs) (hl : hs.length ≤ 3) (hin : ∀ r ∈ hs, r.intra = true) (Z : AOk2 act)
    (hact : act = srtK (actKeys rs ((srtK (hs.map (·.p))).map toP))) (hrs : ∀ r ∈ rs, OkP r.1 r.2.1) {bt : List Int} (hbt : Vp bt)
    {L : Addr} {cl : List (Str × Addr)} {q : Str} {fn : Addr} {cd : Value} {fr : Option Addr} {ρ : Rho}
    (hcells : ∀ x, (scopeOf (KH P) 169).names.lookup x = some .cell → (cl.lookup x).isSome = true) (r1 : Has ρ "pool" (.ref pool)) (r2 : Has ρ "held" (.ref ah)) (r3 : Has ρ "active" (.ref aa)) (r4 : Has ρ "nets" (.ref an)) (r5 : Has ρ "ranges" (.ref ar)) (r6 : Has ρ "between" (D.key bt)) {N C : Rho → Sto → Prop} :
    SW prog w h₀ (k + 6) (mkEnv (scopeOf (KH P) 169) L cl q (some fn) cd fr) ρ (σL aa ar an ah pool c act (srtK (hs.map (·.p))) rs ns (hs.map ent) spot) ((bodyOf (KH P) 169).drop 6) N C (fun d _ => d = .bool true) := by
  conv in (List.drop _ _) => whnf
  conv in (scopeOf _ _) => whnf
  have hcells' := hcells
  conv at hcells in (scopeOf _ _) => whnf
  have hks : (srtK (hs.map (·.p))).length ≤ 3 := by
    rw [(srtK_perm (ks := hs.map (·.p)) (by rw [List.length_map]; omega)).length_eq, List.length_map]; exact hl
  with_reducible refine SW.cons ?_
  refine XW.assignName ?_
  refine EW.callF W 61 (by kernel_rfl) (by kernel_rfl) (by kernel_rfl) ?_
  refine EWs.cons ?_
  refine EW.comp (ρc := [("held", .ref ah)]) (.of rfl (by kernel_rfl) hcells) (.cons (by assumption) (by kernel_rfl) (by kernel_rfl) (by kernel_rfl) .nil) ?_
  refine EW.loc (by kernel_rfl) (by assumption) ?_
  refine comp_held (g := getR hs) (fun _ _ => by kernel_rfl) (fun _ _ => by kernel_rfl) (.tail _ (.tail _ (.head _))) (.tail _ (.tail _ (.tail _ (.head _)))) (by omega) (fun q hq => (getR_mem (srt_mem (by omega) hq)).2.2) fun al hal => ?_
  with_reducible refine EWs.cons ?_
  refine EW.loc (by kernel_rfl) (by assumption) ?_
  with_reducible refine EWs.cons ?_
  with_reducible refine EW.int ?_
  with_reducible refine EWs.cons ?_
  with_reducible refine EW.int ?_
  with_reducible refine EWs.nil ?_
  have hmap : ((srtK (hs.map (·.p))).map (getR hs)).map rteD = (((srtK (hs.map (·.p))).map (getR hs)).map toRt).map rtD := by
    rw [List.map_map (f := toRt)]
    refine List.map_congr_left fun r hr => ?_
    obtain ⟨q, hq, rfl⟩ := List.mem_map.mp hr
    have := getR_mem (srt_mem (by omega) hq)
    exact toRt_D (H.vp _ this.1).two
  rw [hmap]
  refine c_dropped_ranges W (.head _) (.tail _ (.tail _ (.head _))) hrs (by simp; omega) fun ad had => ?_
  have hke : ((((srtK (hs.map (·.p))).map (getR hs)).map toRt).map fun r => (r.1, r.2.1)) = (srtK (hs.map (·.p))).map toP := by
    rw [List.map_map, List.map_map]
    refine List.map_congr_left fun q hq => ?_
    have := (getR_mem (srt_mem (by omega) hq)).2.1
    show ((getR hs q).p.getD 0 0, (getR hs q).p.getD 1 0) = _
    rw [this]; rfl
  rw [hke, ← hact]
  refine BW.loc (by kernel_rfl) ?_
  refine FlowW.pre (σ' := (ad, .lst (act.map dropD)) :: σL aa ar an ah pool c act (srtK (hs.map (·.p))) rs ns (hs.map ent) spot) (.cons_cons _ (.cons _ (.refl _))) ?_
  have tailA := fun (ρ : Rho) r1 r2 r3 r4 => law_B2 (k := k) W (prog := prog) (w := w) (aa := aa) (ar := ar) (an := an) (ah := ah) (pool := pool) (c := c) (ad := ad) (hs := hs) (act := act) (ks := srtK (hs.map (·.p))) (rs := rs) (ns := ns) h0 hns H (by omega) Z (fun r hr _ => hin r hr) (L := L) (cl := cl) (q := q) (fn := fn) (cd := cd) (fr := fr) (ρ := ρ) hcells' r1 r2 r3 r4 (N := N) (C := C)
  with_reducible refine SW.cons ?_
  with_reducible refine XW.ifs ?_
  with_reducible refine TW.cmp ?_ (by kernel_rfl)
  refine EW.loc (by kernel_rfl) .here ?_
  refine EW.comp (ρc := []) (.of rfl (by kernel_rfl) hcells) .nil ?_
  refine EW.loc (by kernel_rfl) (.dp 1 (by kernel_rfl) (by assumption)) ?_
  have hzl := Z.len
  refine ⟨_, _, fun (rest ac : List D) (σ' : Sto) => σ' = (ad, .lst (act.map dropD)) :: σL aa ar an ah pool c act (srtK (hs.map (·.p))) rs ns (hs.map ent) spot ∧ ∃ q1 q2 : List (List Int), act = q1 ++ q2 ∧ rest = q2.map D.key ∧ ac = q1.map dropD, Src.list (ds := act.map D.key), by rw [List.length_map]; omega, .tail _ (.head _), ⟨rfl, [], act, rfl, rfl, rfl⟩, ?_, ?_, ?_⟩
  · rintro _ _ _ _ ⟨rfl, _⟩
    exact .tail _ (.tail _ (.head _))
  · rintro L2 cl2 d' rest ac σ' g ⟨rfl, q1, q2, e1, e2, rfl⟩ hg
    cases q2 with
    | nil => exact absurd e2 (List.cons_ne_nil _ _)
    | cons q q2 =>
    obtain ⟨rfl, rfl⟩ := List.cons.inj e2
    refine AW.name (BW.loc (by kernel_rfl) ⟨hasAll_nil, ?_⟩)
    refine ⟨fun _ => ?_, fun hb => absurd hb tnf⟩
    with_reducible refine EW.tuple ?_ (by kernel_rfl)
    with_reducible refine EWs.cons ?_
    refine EW.loc (by kernel_rfl) .here ?_
    with_reducible refine EWs.cons ?_
    with_reducible refine EW.str ?_
    with_reducible refine EWs.cons ?_
    with_reducible refine EW.int ?_
    with_reducible refine EWs.cons ?_
    with_reducible refine EW.int ?_
    with_reducible refine EWs.cons ?_
    with_reducible refine EW.int ?_
    with_reducible refine EWs.cons ?_
    with_reducible refine EW.tuple ?_ (by kernel_rfl)
    with_reducible refine EWs.nil ?_
    refine ⟨Nat.le_of_ble_eq_true rfl, ?_⟩
    with_reducible refine EWs.nil ?_
    refine ⟨Nat.le_of_ble_eq_true rfl, ?_⟩
    exact ⟨_, rfl, rfl, q1 ++ [q], q2, by rw [e1, List.append_assoc]; rfl, rfl, by simp⟩
  rintro ac σ' g ⟨rfl, q1, q2, e1, e2, rfl⟩ hg
  cases q2 with
  | cons _ _ => exact absurd e2.symm (List.cons_ne_nil _ _)
  | nil =>
  rw [List.append_nil] at e1
  subst e1
  have e : (!PyData.eqvAll (D.pys (act.map dropD)) (D.pys (act.map dropD))) = false := by rw [D.eqvs_self]; rfl
  refine OpW.neL (ds := act.map dropD) (es := act.map dropD) (.tail _ (.head _)) (.head _) drops_pure drops_pure (drops_depth Z) ?_
  rw [e]
  with_reducible refine boolP ?_
  refine ⟨fun hb => absurd hb fnt, fun _ => ?_⟩
  with_reducible refine SW.nil ?_
  with_reducible refine SW.cons ?_
  with_reducible refine XW.ifs ?_
  with_reducible refine TW.boolop ?_
  with_reducible refine AllW.and ?_
  with_reducible refine TW.cmp ?_ (by kernel_rfl)
  refine EW.loc (by kernel_rfl) (.dp 1 (by kernel_rfl) (by assumption)) ?_
  refine EW.cell (by kernel_rfl) (.dp 1 (by kernel_rfl) (by assumption)) ?_
  refine OpW.notinD (.tail _ (.tail _ (.tail _ (.tail _ (.tail _ (.head _)))))) ?_
  rw [look_ent_none]
  by_cases h1 : bt ∈ hs.map (·.p)
  · rw [show decide (bt ∈ hs.map (·.p)) = true by simpa using h1]
    with_reducible refine boolP ?_
    refine ⟨fun _ => ?_, fun hb => absurd hb fnt⟩
    refine ⟨fun hb => absurd hb fnt, fun _ => ?_⟩
    with_reducible refine SW.nil ?_
    refine FlowW.pre (σ' := (ad, .lst (act.map dropD)) :: σL aa ar an ah pool c act (srtK (hs.map (·.p))) rs ns (hs.map ent) spot) (.cons _ (.refl _)) ?_
    exact tailA _ (.dp 1 (by kernel_rfl) (by assumption)) (.dp 1 (by kernel_rfl) (by assumption)) (.dp 1 (by kernel_rfl) (by assumption)) .here
  rw [show decide (bt ∈ hs.map (·.p)) = false by simpa using h1]
  with_reducible refine boolP ?_
  refine ⟨fun hb => absurd hb tnf, fun _ => ?_⟩
  with_reducible refine AllW.and ?_
  with_reducible refine TW.cmp ?_ (by kernel_rfl)
  refine EW.loc (by kernel_rfl) (.dp 1 (by kernel_rfl) (by assumption)) ?_
  refine EW.loc (by kernel_rfl) (.dp 1 (by kernel_rfl) (by assumption)) ?_
  refine OpW.notinL (.tail _ (.tail _ (.head _))) keys_pures (key_pure _) (by obtain ⟨x, l, _, _, _, _, rfl⟩ := hbt; rfl) ?_
  rw [keys_any]
  by_cases h2 : bt ∈ act
  · rw [show decide (bt ∈ act) = true by simpa using h2]
    with_reducible refine boolP ?_
    refine ⟨fun _ => ?_, fun hb => absurd hb fnt⟩
    refine ⟨fun hb => absurd hb fnt, fun _ => ?_⟩
    with_reducible refine SW.nil ?_
    refine FlowW.pre (σ' := (ad, .lst (act.map dropD)) :: σL aa ar an ah pool c act (srtK (hs.map (·.p))) rs ns (hs.map ent) spot) (.cons _ (.refl _)) ?_
    exact tailA _ (.dp 1 (by kernel_rfl) (by assumption)) (.dp 1 (by kernel_rfl) (by assumption)) (.dp 1 (by kernel_rfl) (by assumption)) .here
  rw [show decide (bt ∈ act) = false by simpa using h2]
  with_reducible refine boolP ?_
  refine ⟨fun hb => absurd hb tnf, fun _ => ?_⟩
  with_reducible refine AllW.nil ?_
  refine ⟨fun _ => ?_, fun hb => absurd hb tnf⟩
  with_reducible refine SW.cons ?_
  refine XW.assignSub ?_
  with_reducible refine EW.tuple ?_ (by kernel_rfl)
  with_reducible refine EWs.cons ?_
  refine EW.loc (by kernel_rfl) (.dp 1 (by kernel_rfl) (by assumption)) ?_
  with_reducible refine EWs.cons ?_
  with_reducible refine EW.str ?_
  with_reducible refine EWs.cons ?_
  with_reducible refine EW.int ?_
  with_reducible refine EWs.cons ?_
  with_reducible refine EW.int ?_
  with_reducible refine EWs.cons ?_
  with_reducible refine EW.int ?_
  with_reducible refine EWs.cons ?_
  with_reducible refine EW.tuple ?_ (by kernel_rfl)
  with_reducible refine EWs.cons ?_
  with_reducible refine EW.tuple ?_ (by kernel_rfl)
  with_reducible refine EWs.cons ?_
  with_reducible refine EW.int ?_
  with_reducible refine EWs.cons ?_
  with_reducible refine EW.int ?_
  with_reducible refine EWs.nil ?_
  refine ⟨Nat.le_of_ble_eq_true rfl, ?_⟩
  with_reducible refine EWs.nil ?_
  refine ⟨Nat.le_of_ble_eq_true rfl, ?_⟩
  with_reducible refine EWs.nil ?_
  refine ⟨Nat.le_of_ble_eq_true rfl, ?_⟩
  refine EW.cell (by kernel_rfl) (.dp 1 (by kernel_rfl) (by assumption)) ?_
  refine EW.loc (by kernel_rfl) (.dp 1 (by kernel_rfl) (by assumption)) ?_
  refine SetW.dct (.there (.there (.there (.there (.there .here))))) (by simp; omega) ?_
  with_reducible refine SW.nil ?_
  have hput : put (hs.map ent) bt (.tup [D.key bt, .str "inter", .int 5, .int 0, .int 0, .tup [.tup [.int 3, .int 9]]]) = (hs ++ [(⟨bt, false, 5, 0, 0, hopsD (some (3, 9))⟩ : Rte)]).map ent := by
    unfold put
    rw [look_ent_none, show decide (bt ∈ hs.map (·.p)) = false by simpa using h1, List.map_append]
    rfl
  rw [hput]
  refine FlowW.pre (σ' := (ad, .lst (act.map dropD)) :: σL aa ar an ah pool c act (srtK (hs.map (·.p))) rs ns ((hs ++ [(⟨bt, false, 5, 0, 0, hopsD (some (3, 9))⟩ : Rte)]).map ent) spot) (.cons _ (.refl _)) ?_
  refine law_B2 (k := k) W h0 hns ⟨?_, ?_, ?_⟩ (by simp; omega) Z ?_ hcells' (.dp 1 (by kernel_rfl) (by assumption)) (.dp 1 (by kernel_rfl) (by assumption)) (.dp 1 (by kernel_rfl) (by assumption)) .here
  · rw [List.map_append, List.nodup_append]
    refine ⟨H.nodup, by simp, ?_⟩
    intro x hx y hy exy
    rw [List.mem_singleton.mp hy] at exy
    have exy' : x = bt := exy
    exact h1 (exy' ▸ hx)
  · intro r hr
    rcases List.mem_append.mp hr with hr | hr
    · exact H.vp r hr
    · rw [List.mem_singleton.mp hr]; exact hbt
  · intro r hr
    rcases List.mem_append.mp hr with hr | hr
    · exact H.hops r hr
    · rw [List.mem_singleton.mp hr]; exact ⟨some (3, 9), rfl⟩
  · intro r hr hra
    rcases List.mem_append.mp hr with hr | hr
    · exact hin r hr
    · rw [List.mem_singleton.mp hr] at hra; exact absurd hra h2
end
section
variable {prog : Program} {w : World} {h₀ h h' : Heap} {k : Nat} {env : Env} {ρ ρ' ρc : Rho} {σ σ' : Sto}
theorem slicePick_more (vs : Array Value) (n : Nat) (hn : vs.size ≤ n) : slicePick vs none (some (n : Int)) none = vs := by
  have hb : sliceBounds none (some (n : Int)) none vs.size = sliceBounds none (some (vs.size : Int)) none vs.size := by
    simp only [sliceBounds, Int.not_lt.mpr (Int.natCast_nonneg n), Int.not_lt.mpr (Int.natCast_nonneg vs.size), if_false, Int.min_eq_right (Int.ofNat_le.mpr hn), Int.min_self, Option.getD_none]
    rfl
  have : slicePick vs none (some (n : Int)) none = slicePick vs none (some (vs.size : Int)) none := by
    unfold slicePick
    rw [hb]
  rw [this, slicePick_upto vs vs.size (Nat.le_refl _), List.take_of_length_le (l := vs.toList) (i := vs.size) (Nat.le_refl _)]
theorem RVs.slice {h : Heap} {vs : Array Value} {ds : List D} {n : Nat} (r : RVs h vs.toList ds) : RVs h (slicePick vs none (some (n : Int)) none).toList (ds.take n) := by
  by_cases hn : n ≤ ds.length
  · rw [slicePick_upto vs n (r.size ▸ hn)]
    exact r.take n
  · have hn := Nat.le_of_not_le hn
    rw [slicePick_more vs n (r.size ▸ hn), List.take_of_length_le hn]
    exact r
/-- a slice of a list that stood before -/
theorem EW.sliceB {x : Str} {px : Pos} {n : Nat} {c : Nat} {p p' pos : Pos} {P : D → Sto → Prop} {l : Addr} {vs : Array Value} {ds : List D} (hl : h₀.IsList l vs) (hr : RVs h₀ vs.toList ds) (hlen : ds.length ≤ 1000000)
    (h : EW prog w h₀ k env ρ σ (.Name x px) fun d1 σ1 => d1 = .ref l ∧ ∀ b, ¬ dom σ1 b → P (.ref b) ((b, .lst (ds.take n)) :: σ1)) :
    EW prog w h₀ k env ρ σ (.Subscript (.Name x px) (.Slice Option.none (some (.Constant (.int (n : Int)) c p)) Option.none p') pos) P := by
  intro A s E Q hA O L hH q
  refine Subscript_Slice (h A s E _ hA O L held0 fun v1 d1 σ1 h1 tk1 hP O1 g1 r1 => eval_upto ?_) (fun _ _ => rfl)
  obtain ⟨rfl, hP⟩ := hP
  obtain rfl := r1.r
  obtain ⟨o, ho, hc, m, hd⟩ := hl
  have hl : h1.IsList l vs := ⟨o, O1.keep _ _ ho, hc, m, hd⟩
  have r : RVs h1 vs.toList ds := hr.up O1.keep
  have hsz : vs.size = ds.length := r.size
  refine ⟨_, _, slot_list_getitem.lookup, (hl.push _).typeIs, ?_⟩
  have O2 := O1.up (push_up ({ cls := .type "slice", data := .fields #[.none, .int (n : Int) tk1, .none] } : Obj))
  refine wpAny_getItem_list_slice (hl.push _) (Heap.IsSliceOf.new ..) .none (.int _ _) .none (by simp) ?_ (fits hlen hsz)
  refine q _ (.ref _) ((_, .lst (ds.take n)) :: σ1) _ _ (hP _ O2.fresh) (O2.new ?_) ((g1.trans (Grow.up (push_up _))).trans Grow.one) (.ref _)
  exact ⟨_, ⟨0, Heap.get?_push_size _ rfl⟩, (r.slice (n := n)).up fun b o e => push_up _ b o (push_up _ b o e)⟩
theorem own_arr {a : Addr} {ds : List D} {r : Sto} (O : Own prog w h₀ ((a, .lst ds) :: r) h) : Own prog w h₀ ((a, .arr ds) :: r) h where
  keep := O.keep
  objs := fun p hp => by
    rcases List.mem_cons.mp hp with rfl | hp
    · exact (O.get (List.Mem.head _)).list
    · exact O.objs p (.tail _ hp)
  nodup := O.nodup
  off := fun p hp => by
    rcases List.mem_cons.mp hp with rfl | hp
    · exact O.off (a, .lst ds) (.head _)
    · exact O.off p (.tail _ hp)
end
noncomputable def putR (hs : List Rte) (r : Rte) : List Rte := if r.p ∈ hs.map (·.p) then hs.map (fun x => if x.p = r.p then r else x) else hs ++ [r]
theorem put_ent {hs : List Rte} {r : Rte} : put (hs.map ent) r.p (rteD r) = (putR hs r).map ent := by
  unfold put putR
  rw [look_ent_none]
  by_cases h : r.p ∈ hs.map (·.p)
  · simp only [h, decide_true, if_true, List.map_map]
    refine List.map_congr_left fun x _ => ?_
    simp only [Function.comp_apply]
    by_cases hx : x.p = r.p
    · simp [hx]
    · simp [hx]
  · simp [h]
theorem putR_keys {hs : List Rte} {r : Rte} : (putR hs r).map (·.p) = if r.p ∈ hs.map (·.p) then hs.map (·.p) else hs.map (·.p) ++ [r.p] := by
  unfold putR
  split
  · rw [List.map_map]
    refine List.map_congr_left fun x _ => ?_
    simp only [Function.comp_apply]
    split
    · rename_i h; exact h.symm
    · rfl
  · simp
theorem putR_mem {hs : List Rte} {r x : Rte} (h : x ∈ putR hs r) : x ∈ hs ∨ x = r := by
  unfold putR at h
  split at h
  · obtain ⟨y, hy, rfl⟩ := List.mem_map.mp h
    split
    · exact .inr rfl
    · exact .inl hy
  · rcases List.mem_append.mp h with h | h
    · exact .inl h
    · exact .inr (List.mem_singleton.mp h)
theorem putR_len {hs : List Rte} {r : Rte} : (putR hs r).length ≤ hs.length + 1 := by
  unfold putR; split <;> simp
theorem putR_ok {hs : List Rte} {r : Rte} (H : HOk hs) (hv : Vp r.p) (hh : ∃ o, r.hops = hopsD o) : HOk (putR hs r) where
  nodup := by
    rw [putR_keys]
    split
    · exact H.nodup
    · rename_i hn
      rw [List.nodup_append]
      exact ⟨H.nodup, by simp, fun x hx y hy e => hn (by rw [← List.mem_singleton.mp hy, ← e]; exact hx)⟩
  vp := fun x hx => by rcases putR_mem hx with h | rfl; exact H.vp x h; exact hv
  hops := fun x hx => by rcases putR_mem hx with h | rfl; exact H.hops x h; exact hh
theorem range_ok {n : Int} (h0 : 1 ≤ n) (h1 : n ≤ 3) : Builtin.Range.small 0 n 1 = true ∧ Builtin.Range.rangeSize 0 n 1 = (n.toNat : Int) := by
  rcases (by omega : n = 1 ∨ n = 2 ∨ n = 3) with rfl | rfl | rfl <;> exact ⟨by decide +kernel, by decide +kernel⟩
theorem rangeD_ints {n : Nat} : ∃ ts : List Int, rangeD 0 1 n = ts.map .int ∧ ts.length = n ∧ ∀ t ∈ ts, 0 ≤ t ∧ t < n := by
  refine ⟨(List.range n).map fun i : Nat => (0 : Int) + (i : Int) * 1, by rw [List.map_map]; rfl, by simp, fun t ht => ?_⟩
  obtain ⟨i, hi, rfl⟩ := List.mem_map.mp ht
  have := List.mem_range.mp hi
  omega
/-- the ranges, as the law draws them -/
structure ROk (rs : List Rg) : Prop where
  vp : ∀ r ∈ rs, Vp [r.1, r.2.1]
  len : rs.length ≤ 2
theorem ROk.okp {rs : List Rg} (h : ROk rs) : ∀ r ∈ rs, OkP r.1 r.2.1 := fun r hr => by
  obtain ⟨x, l, h1, h2, _, _, e⟩ := h.vp r hr
  simp at e
  exact ⟨by omega, by omega⟩
theorem covers_holds {oa ol a l : Int} (h0 : 0 ≤ a) (h1 : a < 32) (h2 : 0 ≤ ol) (h3 : ol ≤ 5) : coversB oa ol a l 5 = holdsL oa ol a l := by
  unfold coversB holdsB holdsL
  rw [bit_eq h0 h1 h2 h3]
theorem holds_same {a l : Int} {x y : Pr} (hx : holdsL x.1 x.2 a l = true) (hy : holdsL y.1 y.2 a l = true) (e : x.2 = y.2) : x.1 = y.1 := by
  unfold holdsL at hx hy
  simp only [Bool.and_eq_true, decide_eq_true_eq] at hx hy
  rw [← hx.2, ← hy.2, e]
theorem step_eq {rs : List Rg} (R : ROk rs) {a l : Int} (h0 : 0 ≤ a) (h1 : a < 32) (acc : List (List Int)) : lawStep (rs.map fun r => (r.1, r.2.1)) acc (a, l) = actStep rs acc (a, l) := by
  have hco : ∀ r ∈ rs, coversB r.1 r.2.1 a l 5 = holdsL r.1 r.2.1 a l := fun r hr => covers_holds h0 h1 (R.okp r hr).1 (R.okp r hr).2
  have hl := R.len
  cases rs with
  | nil => rfl
  | cons r u =>
  have hr := hco r (.head _)
  cases u with
  | nil =>
    unfold lawStep actStep rangeOf
    simp only [List.map_cons, List.map_nil, List.foldl_cons, List.foldl_nil]
    cases hh : holdsL r.1 r.2.1 a l with
    | false =>
      rw [hh] at hr
      rw [rangeStep_no hr, List.filter_cons_of_neg (by simp [hh])]
      rfl
    | true =>
      rw [hh] at hr
      rw [rangeStep_none hr, List.filter_cons_of_pos (by simpa using hh)]
      rfl
  | cons t u =>
    obtain rfl : u = [] := List.length_eq_zero_iff.mp (Nat.le_zero.mp (Nat.le_of_succ_le_succ (Nat.le_of_succ_le_succ hl)))
    have ht := hco t (.tail _ (.head _))
    unfold lawStep actStep rangeOf
    simp only [List.map_cons, List.map_nil, List.foldl_cons, List.foldl_nil]
    cases hh : holdsL r.1 r.2.1 a l with
    | false =>
      rw [hh] at hr
      rw [rangeStep_no hr, List.filter_cons_of_neg (by simp [hh])]
      cases hg : holdsL t.1 t.2.1 a l with
      | false =>
        rw [hg] at ht
        rw [rangeStep_no ht, List.filter_cons_of_neg (by simp [hg])]
        rfl
      | true =>
        rw [hg] at ht
        rw [rangeStep_none ht, List.filter_cons_of_pos (by simpa using hg)]
        rfl
    | true =>
      rw [hh] at hr
      rw [rangeStep_none hr, List.filter_cons_of_pos (by simpa using hh)]
      cases hg : holdsL t.1 t.2.1 a l with
      | false =>
        rw [hg] at ht
        rw [rangeStep_no ht, List.filter_cons_of_neg (by simp [hg])]
        rfl
      | true =>
        rw [hg] at ht
        rw [List.filter_cons_of_pos (by simpa using hg)]
        show (if t.2.1 < r.2.1 then some (r.1, r.2.1) else some (t.1, t.2.1) : Option Pr).elim acc (fun g => addK acc [g.1, g.2]) = _
        by_cases hlt : r.2.1 < t.2.1
        · rw [rangeStep_lt ht (by simpa using hlt), if_neg (by omega)]; rfl
        · rw [rangeStep_ge ht (by simpa using hlt)]
          by_cases hgt : t.2.1 < r.2.1
          · rw [if_pos hgt]; rfl
          · rw [if_neg hgt]
            have e : t.2.1 = r.2.1 := by omega
            have := holds_same (x := (t.1, t.2.1)) (y := (r.1, r.2.1)) hg hh e
            show addK acc [t.1, t.2.1] = addK acc [r.1, r.2.1]
            rw [show t.1 = r.1 from this, e]
theorem foldl_same {α β : Type} {f g : β → α → β} : ∀ {l : List α} {b : β}, (∀ b, ∀ x ∈ l, f b x = g b x) → l.foldl f b = l.foldl g b
  | [], _, _ => rfl
  | x :: l, b, h => by
    rw [List.foldl_cons, List.foldl_cons, h b x (.head _)]
    exact foldl_same fun b y hy => h b y (.tail _ hy)
theorem plain_act {rs : List Rg} {ks : List (List Int)} (R : ROk rs) (hk : ∀ q ∈ ks, Vp q) : lawKeys (rs.map fun r => (r.1, r.2.1)) (ks.map toP) = actKeys rs (ks.map toP) := by
  unfold lawKeys actKeys
  refine foldl_same fun acc p hp => ?_
  obtain ⟨q, hq, rfl⟩ := List.mem_map.mp hp
  have := (hk q hq).addr
  exact step_eq R this.1 this.2.1 acc
theorem rangeStep_or {qa ql : Int} {f : Option Rg} {r : Rg} : rangeStep qa ql f r = f ∨ rangeStep qa ql f r = some r := by
  unfold rangeStep
  generalize (coversB r.1 r.2.1 qa ql 5 && match f with | none => true | some g => decide (g.2.1 < r.2.1)) = b
  cases b <;> simp
theorem range_mem {qa ql : Int} {g : Rg} : ∀ (rs : List Rg) (f : Option Rg), rs.foldl (rangeStep qa ql) f = some g → f = some g ∨ g ∈ rs
  | [], f, h => .inl h
  | r :: rs, f, h => by
    rw [List.foldl_cons] at h
    rcases range_mem rs _ h with h | h
    · rcases rangeStep_or (qa := qa) (ql := ql) (f := f) (r := r) with e | e
      · rw [e] at h; exact .inl h
      · rw [e] at h; cases h; exact .inr (.head _)
    · exact .inr (.tail _ h)
noncomputable def KeysIn (rs : List Rg) (acc : List (List Int)) : Prop := acc.Nodup ∧ ∀ q ∈ acc, ∃ g ∈ rs, q = [g.1, g.2.1]
theorem act_in {rs : List Rg} : ∀ (ps : List Pr) (acc : List (List Int)), KeysIn rs acc → KeysIn rs (ps.foldl (actStep rs) acc)
  | [], acc, h => h
  | p :: ps, acc, h => by
    rw [List.foldl_cons]
    refine act_in ps _ ?_
    unfold actStep
    split
    · exact h
    · rename_i g hg
      have hgm : g ∈ rs := (range_mem rs none hg).elim (fun e => absurd e.symm (Option.some_ne_none g)) id
      unfold addK
      split
      · exact h
      · rename_i hn
        refine ⟨?_, fun q hq => ?_⟩
        · rw [List.nodup_append]
          exact ⟨h.1, by simp, fun x hx y hy e => hn (by rw [← List.mem_singleton.mp hy, ← e]; exact hx)⟩
        · rcases List.mem_append.mp hq with hq | hq
          · exact h.2 q hq
          · exact ⟨g, hgm, List.mem_singleton.mp hq⟩
theorem three_two {α : Type} {a b x y z : α} (hx : x = a ∨ x = b) (hy : y = a ∨ y = b) (hz : z = a ∨ z = b) (h1 : x ≠ y) (h2 : x ≠ z) (h3 : y ≠ z) : False := by
  rcases hx with rfl | rfl <;> rcases hy with rfl | rfl <;> rcases hz with rfl | rfl <;> first
    | exact h1 rfl
    | exact h2 rfl
    | exact h3 rfl
theorem keys_two {rs : List Rg} (hl : rs.length ≤ 2) {acc : List (List Int)} (h : KeysIn rs acc) : acc.length ≤ 2 := by
  obtain ⟨a, b, hab⟩ : ∃ a b : List Int, ∀ g ∈ rs, [g.1, g.2.1] = a ∨ [g.1, g.2.1] = b := by
    cases rs with
    | nil => exact ⟨[], [], fun g hg => absurd hg List.not_mem_nil⟩
    | cons r rs =>
      cases rs with
      | nil => exact ⟨[r.1, r.2.1], [], fun g hg => .inl (by rw [List.mem_singleton.mp hg])⟩
      | cons t rs =>
        cases rs with
        | nil =>
          refine ⟨[r.1, r.2.1], [t.1, t.2.1], fun g hg => ?_⟩
          rcases List.mem_cons.mp hg with rfl | hg
          · exact .inl rfl
          · exact .inr (by rw [List.mem_singleton.mp hg])
        | cons _ _ => exact absurd hl (by simp)
  have hin : ∀ q ∈ acc, q = a ∨ q = b := fun q hq => by
    obtain ⟨g, hg, e⟩ := h.2 q hq
    rw [e]; exact hab g hg
  cases acc with
  | nil => exact Nat.zero_le _
  | cons x acc =>
    cases acc with
    | nil => exact Nat.le_of_ble_eq_true rfl
    | cons y acc =>
      cases acc with
      | nil => exact Nat.le_of_ble_eq_true rfl
      | cons z acc =>
        have hn := h.1
        simp only [List.nodup_cons, List.mem_cons, not_or] at hn
        exact (three_two (hin x (by simp)) (hin y (by simp)) (hin z (by simp)) hn.1.1 hn.1.2.1 hn.2.1.1).elim
theorem plain_ok {rs : List Rg} {ks : List (List Int)} (R : ROk rs) (hk : ∀ q ∈ ks, Vp q) : AOk2 (srtK (actKeys rs (ks.map toP))) := by
  have h := act_in (rs := rs) (ks.map toP) [] ⟨by simp, fun _ h => absurd h List.not_mem_nil⟩
  have hl := keys_two R.len h
  have hp := srtK_perm (ks := actKeys rs (ks.map toP)) (Nat.le_trans hl (by decide))
  refine ⟨hp.symm.nodup h.1, fun q hq => ?_, by rw [hp.length_eq]; exact hl⟩
  obtain ⟨g, hg, rfl⟩ := h.2 q (hp.mem_iff.mp hq)
  exact R.vp g hg
section
variable {P : Params} {mg mb : Str → Option Value} {prog : Program} {w : World} {h₀ : Heap} {k : Nat}
noncomputable abbrev σB (ah pool c : Addr) (ns : List Int) (hs : List Rte) (s : Int) : Sto := [(ah, .dct (hs.map ent)), (pool, .arr [.ref c, .int s]), (c, .lst (ns.map .int))]
theorem poolB {ah pool c : Addr} {ns : List Int} {hs : List Rte} (hns : ns.length ≤ 100) : PoolF (fun s => σB ah pool c ns hs s) pool c ns :=
  ⟨fun s s' => .there .here, fun s => .tail _ (.tail _ (.head _)), hns⟩
set_option maxHeartbeats 8000000 in
theorem law_A (W : Wd (KH P) mg mb h₀) {l : Addr} {vs : Array Value} {ns : List Int} (hl : h₀.IsList l vs) (hr : RVs h₀ vs.toList (ns.map .int)) (hns : ns.length ≤ 63) : FnW prog w h₀ (k + 7) 169 [.ref l] [] (fun d _ => d = .bool true) := by
  refine FnW.go W (names := ["script"]) rfl rfl rfl (by dsimp only) rfl rfl rfl (by kernel_rfl) rfl rfl rfl (par1 fun a => by rfl) rfl (by decide +kernel) (by kernel_rfl) (by simp only [List.zip_cons_cons, List.zip_nil_right]; exact rfl) ?_
  intro L cl q fn cd fr hcells
  have hcells' : ∀ x, (scopeOf (KH P) 169).names.lookup x = some .cell → (cl.lookup x).isSome = true := hcells
  with_reducible refine SW.cons ?_
  refine XW.assignName ?_
  refine EW.list (EWs.cons ?_)
  refine EW.comp (ρc := []) (.of rfl (by kernel_rfl) hcells) .nil ?_
  refine EW.sliceB (n := 24) hl hr (by simp; omega) ?_
  refine EW.loc (by kernel_rfl) .here ?_
  refine ⟨rfl, fun b hb => ?_⟩
  rw [← List.map_take]
  generalize hn24 : ns.take 24 = n24
  have hn24l : n24.length ≤ 24 := by rw [← hn24, List.length_take]; omega
  refine ⟨_, _, fun (rest ac : List D) (σ' : Sto) => σ' = [(b, .lst (n24.map .int))] ∧ ∃ q1 q2 : List Int, n24 = q1 ++ q2 ∧ rest = q2.map .int ∧ ac = q1.map .int, Src.list (ds := n24.map .int), by rw [List.length_map]; omega, .head _, ⟨rfl, [], n24, rfl, rfl, rfl⟩, ?_, ?_, ?_⟩
  · rintro _ _ _ _ ⟨rfl, _⟩
    exact .tail _ (.head _)
  · rintro L2 cl2 d' rest ac σ' g ⟨rfl, q1, q2, e1, e2, rfl⟩ hg
    cases q2 with
    | nil => exact absurd e2 (List.cons_ne_nil _ _)
    | cons i q2 =>
    obtain ⟨rfl, rfl⟩ := List.cons.inj e2
    refine AW.name (BW.loc (by kernel_rfl) ⟨hasAll_nil, ?_⟩)
    refine ⟨fun _ => ?_, fun hb => absurd hb tnf⟩
    refine EW.bi W (by kernel_rfl) (by kernel_rfl) (v := .type "int") (by decide +kernel) (by decide +kernel) (.inr ⟨_, rfl⟩) ?_
    with_reducible refine EWs.cons ?_
    refine EW.loc (by kernel_rfl) .here ?_
    with_reducible refine EWs.nil ?_
    refine BiW.int ?_
    exact ⟨_, rfl, rfl, q1 ++ [i], q2, by rw [e1, List.append_assoc]; rfl, rfl, by simp⟩
  rintro ac σ' c ⟨rfl, q1, q2, e1, e2, rfl⟩ hg
  cases q2 with
  | cons _ _ => exact absurd e2.symm (List.cons_ne_nil _ _)
  | nil =>
  rw [List.append_nil] at e1
  subst e1
  with_reducible refine EWs.cons ?_
  with_reducible refine EW.int ?_
  with_reducible refine EWs.nil ?_
  refine ⟨Nat.le_of_ble_eq_true rfl, ?_⟩
  intro pool hpool
  refine BW.cell (by kernel_rfl) rfl (hcells _ (by kernel_rfl)) ?_
  refine FlowW.pre (σ' := [(pool, .lst [.ref c, .int 0]), (c, .lst (n24.map .int))]) (.cons_cons _ (.cons_cons _ (.cons _ (.refl _)))) ?_
  refine FlowW.weakS (σ' := [(pool, .arr [.ref c, .int 0]), (c, .lst (n24.map .int))]) (fun _ O => own_arr O) (fun _ hb => hb) ?_
  with_reducible refine SW.cons ?_
  refine XW.assignName (EW.dict0 W fun ah hah => ?_)
  refine BW.cell (by kernel_rfl) rfl (hcells _ (by kernel_rfl)) ?_
  with_reducible refine SW.cons ?_
  have hn100 : n24.length ≤ 100 := by omega
  refine XW.for ?_
  refine EW.bi W (by kernel_rfl) (by kernel_rfl) (v := .type "range") (by decide +kernel) (by decide +kernel) (.inr ⟨_, rfl⟩) ?_
  with_reducible refine EWs.cons ?_
  with_reducible refine EW.binop ?_
  with_reducible refine EW.int ?_
  refine EW.callF W 140 (by kernel_rfl) (by kernel_rfl) (by kernel_rfl) ?_
  with_reducible refine EWs.cons ?_
  refine EW.cell (by kernel_rfl) (.dp 1 (by kernel_rfl) .here) ?_
  with_reducible refine EWs.cons ?_
  with_reducible refine EW.int ?_
  with_reducible refine EWs.nil ?_
  refine c_draw W (poolB (ah := ah) (pool := pool) (c := c) (hs := []) hn100) (by decide) (by decide) fun v hv0 hv1 => ?_
  with_reducible refine OpW.add ?_
  with_reducible refine EWs.nil ?_
  refine BiW.range1 ?_
  have hrg := range_ok (n := 1 + v) (by omega) (by omega)
  refine ⟨_, _, fun (rest : List D) (ρ' : Rho) (σ' : Sto) => ∃ (hs : List Rte) (s : Int) (ts : List Int), σ' = σB ah pool c n24 hs s ∧ 0 ≤ s ∧ HOk hs ∧ (∀ r ∈ hs, r.intra = true) ∧ hs.length + ts.length ≤ 3 ∧ rest = ts.map .int ∧ (∀ t ∈ ts, 0 ≤ t ∧ t < 3) ∧ Has ρ' "pool" (.ref pool) ∧ Has ρ' "held" (.ref ah),
    Src.range hrg.1 hrg.2, ?_, ?_, ?_, ?_⟩
  · obtain ⟨ts, h1, h2, h3⟩ := rangeD_ints (n := (1 + v).toNat)
    exact ⟨[], _, ts, rfl, by decide, ⟨by simp, (fun _ h => absurd h List.not_mem_nil), (fun _ h => absurd h List.not_mem_nil)⟩, (fun _ h => absurd h List.not_mem_nil), by rw [h2]; simp; omega, h1, fun t ht => by have := h3 t ht; omega, (.dp 1 (by kernel_rfl) .here), .here⟩
  · intro _ _ _ _; trivial
  · rintro d' rest ρ' σ' ⟨hs, s, ts, rfl, hs0, H, hin, hle, he, ht, r1, r2⟩
    cases ts with
    | nil => exact absurd he (List.cons_ne_nil _ _)
    | cons t ts =>
    obtain ⟨rfl, rfl⟩ := List.cons.inj he
    have htt := ht t (.head _)
    have hle' : hs.length + (ts.length + 1) ≤ 3 := hle
    refine AW.name (BW.loc (by kernel_rfl) ?_)
    with_reducible refine SW.cons ?_
    refine XW.assignName ?_
    refine EW.callF W 147 (by kernel_rfl) (by kernel_rfl) (by kernel_rfl) ?_
    with_reducible refine EWs.cons ?_
    refine EW.cell (by kernel_rfl) (.dp 1 (by kernel_rfl) (by assumption)) ?_
    with_reducible refine EWs.nil ?_
    refine c_prefix W (poolB (ah := ah) (pool := pool) (c := c) (hs := hs) hn100) hs0 fun x l hl1 hl2 hx1 hx2 => ?_
    refine BW.loc (by kernel_rfl) ?_
    with_reducible refine SW.cons ?_
    refine XW.assignSub ?_
    with_reducible refine EW.tuple ?_ (by kernel_rfl)
    with_reducible refine EWs.cons ?_
    refine EW.loc (by kernel_rfl) .here ?_
    with_reducible refine EWs.cons ?_
    with_reducible refine EW.str ?_
    with_reducible refine EWs.cons ?_
    with_reducible refine EW.binop ?_
    with_reducible refine EW.int ?_
    refine EW.loc (by kernel_rfl) (.dp 1 (by kernel_rfl) .here) ?_
    with_reducible refine OpW.add ?_
    with_reducible refine EWs.cons ?_
    with_reducible refine EW.int ?_
    with_reducible refine EWs.cons ?_
    with_reducible refine EW.int ?_
    with_reducible refine EWs.cons ?_
    with_reducible refine EW.tuple ?_ (by kernel_rfl)
    with_reducible refine EWs.cons ?_
    with_reducible refine EW.tuple ?_ (by kernel_rfl)
    with_reducible refine EWs.cons ?_
    with_reducible refine EW.int ?_
    with_reducible refine EWs.cons ?_
    with_reducible refine EW.binop ?_
    with_reducible refine EW.int ?_
    refine EW.loc (by kernel_rfl) (.dp 1 (by kernel_rfl) .here) ?_
    refine OpW.mul (.inl (by decide)) ?_
    with_reducible refine EWs.nil ?_
    refine ⟨Nat.le_of_ble_eq_true rfl, ?_⟩
    with_reducible refine EWs.nil ?_
    refine ⟨Nat.le_of_ble_eq_true rfl, ?_⟩
    with_reducible refine EWs.nil ?_
    refine ⟨Nat.le_of_ble_eq_true rfl, ?_⟩
    refine EW.cell (by kernel_rfl) (.dp 2 (by kernel_rfl) (by assumption)) ?_
    refine EW.loc (by kernel_rfl) .here ?_
    have hv : Vp [x * 2 ^ (5 - l).toNat, l] := ⟨x, l, hl1, hl2, hx1, hx2, rfl⟩
    have hu : Upd (σB ah pool c n24 hs (s + 1 + 1)) ah (.dct (hs.map ent)) (.dct (put (hs.map ent) [x * 2 ^ (5 - l).toNat, l] (rteD ⟨[x * 2 ^ (5 - l).toNat, l], true, 3 + t, 0, 1, hopsD (some (2, 11 * t))⟩))) (σB ah pool c n24 (putR hs ⟨[x * 2 ^ (5 - l).toNat, l], true, 3 + t, 0, 1, hopsD (some (2, 11 * t))⟩) (s + 1 + 1)) := by
      rw [show put (hs.map ent) [x * 2 ^ (5 - l).toNat, l] (rteD ⟨[x * 2 ^ (5 - l).toNat, l], true, 3 + t, 0, 1, hopsD (some (2, 11 * t))⟩) = (putR hs ⟨[x * 2 ^ (5 - l).toNat, l], true, 3 + t, 0, 1, hopsD (some (2, 11 * t))⟩).map ent from put_ent (r := ⟨[x * 2 ^ (5 - l).toNat, l], true, 3 + t, 0, 1, hopsD (some (2, 11 * t))⟩)]
      exact .here
    refine SetW.dct hu (by rw [List.length_map]; omega) ?_
    with_reducible refine SW.nil ?_
    have hpl := putR_len (hs := hs) (r := ⟨[x * 2 ^ (5 - l).toNat, l], true, 3 + t, 0, 1, hopsD (some (2, 11 * t))⟩)
    refine ⟨_, _, ts, rfl, by omega, putR_ok H hv ⟨some (2, 11 * t), rfl⟩, fun r hr => ?_, by omega, rfl, fun t ht' => ht t (.tail _ ht'), (.dp 2 (by kernel_rfl) (by assumption)), (.dp 2 (by kernel_rfl) (by assumption))⟩
    rcases putR_mem hr with h | rfl
    · exact hin r h
    · rfl
  rintro ρ' σ' ⟨hs, s, ts, rfl, hs0, H, hin, hle, he, _, r1, r2⟩
  have hl3 : hs.length ≤ 3 := by omega
  with_reducible refine SW.cons ?_
  refine XW.assignName ?_
  refine EW.bi W (by kernel_rfl) (by kernel_rfl) (v := .builtin "sorted") (by decide +kernel) (by decide +kernel) (.inl ⟨_, rfl⟩) ?_
  with_reducible refine EWs.cons ?_
  refine EW.cell (by kernel_rfl) (by assumption) ?_
  with_reducible refine EWs.nil ?_
  refine BiW.sortedD (.head _) (fun e he => by obtain ⟨r, hr, rfl⟩ := List.mem_map.mp he; exact (H.vp r hr).two) (by rw [List.length_map]; omega) fun an han => ?_
  have hfst : (hs.map ent).map (·.1) = hs.map (·.p) := by rw [List.map_map]; rfl
  rw [hfst]
  refine BW.loc (by kernel_rfl) ?_
  with_reducible refine SW.cons ?_
  generalize hks : srtK (hs.map (·.p)) = ks
  have hkp : ks.Perm (hs.map (·.p)) := hks ▸ srtK_perm (by rw [List.length_map]; omega)
  have hkv : ∀ q ∈ ks, Vp q := fun q hq => by obtain ⟨r, hr, rfl⟩ := List.mem_map.mp (hkp.mem_iff.mp hq); exact H.vp r hr
  have hkl : ks.length ≤ 3 := by rw [hkp.length_eq, List.length_map]; exact hl3
  have FC := (poolB (ah := ah) (pool := pool) (c := c) (hs := hs) hn100).cons (an, .lst (ks.map D.key))
  refine XW.assignComp (ρc := [("pool", .ref pool)]) (.of rfl (by kernel_rfl) hcells) (.cons (.dp 1 (by kernel_rfl) (by assumption)) (by kernel_rfl) (by kernel_rfl) (by kernel_rfl) .nil) ?_
  refine EW.bi W (by kernel_rfl) (by kernel_rfl) (v := .type "range") (by decide +kernel) (by decide +kernel) (.inr ⟨_, rfl⟩) ?_
  with_reducible refine EWs.cons ?_
  with_reducible refine EW.binop ?_
  with_reducible refine EW.int ?_
  refine EW.callF W 140 (by kernel_rfl) (by kernel_rfl) (by kernel_rfl) ?_
  with_reducible refine EWs.cons ?_
  refine EW.cell (by kernel_rfl) (.dp 1 (by kernel_rfl) (by assumption)) ?_
  with_reducible refine EWs.cons ?_
  with_reducible refine EW.int ?_
  with_reducible refine EWs.nil ?_
  refine c_draw W FC hs0 (by decide) fun v hv0 hv1 => ?_
  with_reducible refine OpW.add ?_
  with_reducible refine EWs.nil ?_
  refine BiW.range1 ?_
  have hrg2 := range_ok (n := 1 + v) (by omega) (by omega)
  obtain ⟨ts0, ht1, ht2, ht3⟩ := rangeD_ints (n := (1 + v).toNat)
  refine ⟨ts0.map .int, _, fun (rest ac : List D) (σ' : Sto) => ∃ (rs : List Rg) (s : Int) (ts : List Int), σ' = (an, .lst (ks.map D.key)) :: σB ah pool c n24 hs s ∧ 0 ≤ s ∧ (∀ r ∈ rs, Vp [r.1, r.2.1]) ∧ rs.length + ts.length ≤ 2 ∧ rest = ts.map .int ∧ ac = rs.map rngD, ht1 ▸ Src.range hrg2.1 hrg2.2, by rw [List.length_map, ht2]; omega, trivial, ?_, ?_, ?_, ?_⟩
  · exact ⟨[], _, ts0, rfl, by omega, (fun _ h => absurd h List.not_mem_nil), by rw [ht2]; simp; omega, rfl, rfl⟩
  · intro _ _ _ _ _; trivial
  · rintro L2 cl2 d' rest ac σ' a ⟨rs, s, ts, rfl, hs0, hrv, hle, he, rfl⟩ ha
    cases ts with
    | nil => exact absurd he (List.cons_ne_nil _ _)
    | cons t ts =>
    obtain ⟨rfl, rfl⟩ := List.cons.inj he
    have hle' : rs.length + (ts.length + 1) ≤ 2 := hle
    refine AW.name (BW.loc (by kernel_rfl) ⟨hasAll_cons ?_ hasAll_nil, ?_⟩)
    · exact (.dp 1 (by kernel_rfl) .here)
    · refine ⟨fun _ => ?_, fun hb => absurd hb tnf⟩
      refine EW.tuple (EWs.cons ?_)
      refine EW.callF W 147 (by kernel_rfl) (by kernel_rfl) (by kernel_rfl) ?_
      with_reducible refine EWs.cons ?_
      refine EW.cell (by kernel_rfl) (.dp 1 (by kernel_rfl) .here) ?_
      with_reducible refine EWs.nil ?_
      refine c_prefix W (FC.cons (a, .lst (rs.map rngD))) hs0 fun x l hl1 hl2 hx1 hx2 => ?_
      refine EWs.cons ?_
      refine EW.cmp ?_
      refine EW.callF W 140 (by kernel_rfl) (by kernel_rfl) (by kernel_rfl) ?_
      with_reducible refine EWs.cons ?_
      refine EW.cell (by kernel_rfl) (.dp 1 (by kernel_rfl) .here) ?_
      with_reducible refine EWs.cons ?_
      with_reducible refine EW.int ?_
      with_reducible refine EWs.nil ?_
      refine c_draw W (FC.cons (a, .lst (rs.map rngD))) (by omega) (by decide) fun u hu0 hu1 => ?_
      with_reducible refine EW.int ?_
      with_reducible refine OpW.eqi ?_
      with_reducible refine EWs.nil ?_
      refine ⟨Nat.le_of_ble_eq_true rfl, ?_⟩
      refine ⟨_, rfl, rs ++ [(x * 2 ^ (5 - l).toNat, l, decide (u = 1))], _, ts, rfl, by omega, fun r hr => ?_, by simp; omega, rfl, by simp⟩
      rcases List.mem_append.mp hr with hr | hr
      · exact hrv r hr
      · rw [List.mem_singleton.mp hr]; exact ⟨x, l, hl1, hl2, hx1, hx2, rfl⟩
  rintro ac σ' ar ⟨rs, s2, ts, rfl, hs2, hrv, hle, he, rfl⟩ har
  have R : ROk rs := ⟨hrv, by omega⟩
  refine BW.loc (by kernel_rfl) ?_
  with_reducible refine SW.cons ?_
  refine XW.assignSwap ?_
  refine EW.tuple (EWs.cons ?_)
  refine EW.callF W 159 (by kernel_rfl) (by kernel_rfl) (by kernel_rfl) ?_
  with_reducible refine EWs.cons ?_
  refine EW.loc (by kernel_rfl) (.dp 1 (by kernel_rfl) .here) ?_
  with_reducible refine EWs.cons ?_
  refine EW.comp (ρc := []) (.of rfl (by kernel_rfl) hcells) .nil ?_
  refine EW.loc (by kernel_rfl) .here ?_
  refine ⟨rs.map rngD, _, fun (rest ac : List D) (σ' : Sto) => σ' = (ar, .lst (rs.map rngD)) :: (an, .lst (ks.map D.key)) :: σB ah pool c n24 hs s2 ∧ ∃ q1 q2 : List Rg, rs = q1 ++ q2 ∧ rest = q2.map rngD ∧ ac = (q1.map fun r => (r.1, r.2.1)).map kD, Src.list, by rw [List.length_map]; omega, .head _, ⟨rfl, [], rs, rfl, rfl, rfl⟩, ?_, ?_, ?_⟩
  · rintro _ _ _ _ ⟨rfl, _⟩
    exact .tail _ (.head _)
  · rintro L2 cl2 d' rest ac σ' g ⟨rfl, q1, q2, e1, e2, rfl⟩ hg
    cases q2 with
    | nil => exact absurd e2 (List.cons_ne_nil _ _)
    | cons i q2 =>
    obtain ⟨rfl, rfl⟩ := List.cons.inj e2
    refine AW.name (BW.loc (by kernel_rfl) ⟨hasAll_nil, ?_⟩)
    refine ⟨fun _ => ?_, fun hb => absurd hb tnf⟩
    refine EW.sub ?_
    refine EW.loc (by kernel_rfl) .here ?_
    with_reducible refine EW.int ?_
    refine SubW.tup (j := 0) (by rfl) (by rfl) ?_
    exact ⟨_, rfl, rfl, q1 ++ [i], q2, by rw [e1, List.append_assoc]; rfl, rfl, by simp⟩
  rintro ac σ' ao ⟨rfl, q1, q2, e1, e2, rfl⟩ hg
  cases q2 with
  | cons _ _ => exact absurd e2.symm (List.cons_ne_nil _ _)
  | nil =>
  rw [List.append_nil] at e1
  subst e1
  with_reducible refine EWs.nil ?_
  have hkk : ks.map D.key = (ks.map toP).map kD := by
    rw [List.map_map]
    refine List.map_congr_left fun q hq => ?_
    obtain ⟨x, l, _, _, _, _, rfl⟩ := hkv q hq
    rfl
  refine c_active W (nets := ks.map toP) (rs := rs.map fun r => (r.1, r.2.1)) (by rw [← hkk]; exact .tail _ (.tail _ (.head _))) (.head _) (by rw [List.length_map]; omega) (by rw [List.length_map]; exact R.len) (fun r hr => by obtain ⟨y, hy, rfl⟩ := List.mem_map.mp hr; exact R.okp y hy) ?_ fun aa haa => ?_
  · intro net _ x hx y hy exy
    have h1 := (List.mem_filter.mp hx).2
    have h2 := (List.mem_filter.mp hy).2
    unfold holdsL at h1 h2
    simp only [Bool.and_eq_true, decide_eq_true_eq] at h1 h2
    refine Prod.ext ?_ exy
    rw [← h1.2, ← h2.2, exy]
  rw [plain_act R hkv]
  generalize hact : srtK (actKeys rs (ks.map toP)) = act
  have Z : AOk2 act := hact ▸ plain_ok R hkv
  refine EWs.cons ?_
  refine EW.callF W 147 (by kernel_rfl) (by kernel_rfl) (by kernel_rfl) ?_
  with_reducible refine EWs.cons ?_
  refine EW.cell (by kernel_rfl) (.dp 2 (by kernel_rfl) (by assumption)) ?_
  with_reducible refine EWs.nil ?_
  refine c_prefix W ((((FC.cons (ar, .lst (rs.map rngD))).cons (ao, .lst ((rs.map fun r => (r.1, r.2.1)).map kD))).cons (aa, .lst (act.map D.key)))) hs2 fun x l hl1 hl2 hx1 hx2 => ?_
  with_reducible refine EWs.nil ?_
  refine ⟨Nat.le_of_ble_eq_true rfl, ?_⟩
  refine ⟨_, _, rfl, BW.loc (by kernel_rfl) (BW.loc (by kernel_rfl) ?_)⟩
  refine FlowW.pre (σ' := σL aa ar an ah pool c act ks rs n24 (hs.map ent) (s2 + 1 + 1)) (.cons_cons _ (.cons _ (.refl _))) ?_
  subst hks
  exact law_B W (by omega) hn100 H hl3 hin Z hact.symm R.okp ⟨x, l, hl1, hl2, hx1, hx2, rfl⟩ hcells' (by exact .dp 4 (by kernel_rfl) (by assumption)) (by exact .dp 4 (by kernel_rfl) (by assumption)) (by exact .here) (by exact .dp 3 (by kernel_rfl) .here) (by exact .dp 2 (by kernel_rfl) .here) (by exact .dp 1 (by kernel_rfl) .here)
end
end Mine
namespace Mine
theorem Own.nil {prog : Program} {w : World} {h : Heap} : Own prog w h [] h := ⟨fun _ _ e => e, fun _ hp => absurd hp List.not_mem_nil, .nil, fun _ hp => absurd hp List.not_mem_nil⟩
theorem RVs.ints {h : Heap} {vs : List Value} {ns : List Int} (x : IntsAre vs ns) : RVs h vs (ns.map .int) := by
  induction x with
  | nil => exact .nil
  | cons _ _ _ ih => exact .cons (.int _ _) ih
theorem caller_ok : AOk 7 callerA := ⟨rfl, by decide, by decide⟩
end Mine
set_option maxRecDepth 100000 in
set_option maxHeartbeats 8000000 in
theorem PySem.Challenge.cw_rh0203_01_holds : PySem.Challenge.rw_rh0203_01.Holds := by
  refine Mine.hd ?_
  k_fill
  intro w s₀ s₁ mg mb G Y fa o pm cd doc dV kV ho hd hcd hD hmg hg args vals as hpre hlay hrd hwl hlo
  have KX := kIn_of Y
  clear Y hd hcd hD
  refine Ground.open G ?_
  intro T B D TE TW
  wrow_args hpre hlay hrd hwl hlo
  rename_i ns _ _ _ _ _ _ _ l vs _ hLs _ _ _ hI _ hle _
  have W : Mine.Wd (Mine.KH w.params) mg mb s₁.heap := ⟨KX, T.g, T.b, T.nolimit, T.builtins⟩
  have e := mg_of (n := "law") (v := .ref 169) W.K W.g (by kernel_rfl)
  have hfa : fa = 169 := by
    have e2 := hmg.symm.trans e
    injection e2 with e2
    injection e2
  subst hfa
  have hns : ns.length ≤ 63 := by omega
  refine Mine.law_A (k := 0) W hLs (Mine.RVs.ints hI) hns callerA s₁ _ _ [.ref l] Mine.caller_ok Mine.Own.nil (.cons (.ref l) .nil) fun v d σ' h' tk hd O g r => ?_
  subst hd
  obtain rfl := r.b
  refine GoodW.toG ⟨.inl ⟨_, .bool true, [], rfl, ?_, .bool true, ?_, ?_⟩, O.keep, rfl, hg⟩
  · intro cls
    rfl
  · wrow_post
  · intro _; exact ⟨.nil, fun _ h => absurd h List.not_mem_nil⟩
