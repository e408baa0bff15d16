import PyProof.Rows.All
import Wide.All
import OpenK.AllK
import Wide.FinOn
import KE.KUnpack
import Lean
import PySem.Challenge.RW_nz0086_01
open PySem PySem.W PyProof.Rows
set_option Elab.async false

section
open PySem PySem.W PyProof.Rows PySem.Calls
set_option maxRecDepth 100000
set_option maxHeartbeats 8000000
namespace Mine
noncomputable def headKeep : Stmt → Bool
  | .Assign .. => false
  | _ => true
noncomputable def headView : Program := { PySem.Challenge.pw_nz0086_01 with main := { PySem.Challenge.pw_nz0086_01.main with body := PySem.Challenge.pw_nz0086_01.main.body.filter headKeep } }

theorem headOf {p q : Program} {loose : List Str} {Xt : Shared → Bool} {α : Type} {Yf : Shared → α} {Ya : World → α} {N : Nat} {g0 : Bool} {H₀ : Params → Heap} {gs₀ : Array GenState} {d₀ : Drawn} {k₀ : Nat}
    (open_ : ∀ w : World, (fencedOpening treeTable p w N).map (fun s => (s.heap, s.gens, s.drawn, s.toks)) = some (H₀ w.params, gs₀, d₀, k₀))
    (run : ∀ (w : World) (os : OsState), (topFrom treeTable p w N ⟨H₀ w.params, gs₀, d₀, k₀, os⟩).map (fun s => (openSeen q loose (importedModules p.main.body) Xt g0 s, Yf s)) = some (openGood q loose, Ya w)) : LeftO p q loose Xt Yf Ya N g0 := fun w => by
  obtain ⟨⟨h, gs, d, k, os⟩, e, e'⟩ := Option.map_eq_some_iff.mp (open_ w)
  simp only [Prod.mk.injEq] at e'
  obtain ⟨rfl, rfl, rfl, rfl⟩ := e'
  have := run w os
  unfold openEnds
  rw [e]
  exact this
theorem headOp : ∀ w : World, (fencedOpening treeTable PySem.Challenge.pw_nz0086_01 w 3500).map (fun s => (s.heap, s.gens, s.drawn, s.toks)) = some (boot_heap w.params, Array.mk [], boot_drawn, boot_toks) :=
  boot_open rfl rfl fun s => rfl
theorem headPack {S A0 A1 A2 A3 A4 A5 A6 A7 A8 U : Type} {o : Option S} {f0 : S → A0} {f1 : S → A1} {f2 : S → A2} {f3 : S → A3} {f4 : S → A4} {f5 : S → A5} {f6 : S → A6} {f7 : S → A7} {f8 : S → A8} {u : S → U} {g0 : A0} {g1 : A1} {g2 : A2} {g3 : A3} {g4 : A4} {g5 : A5} {g6 : A6} {g7 : A7} {g8 : A8} {v : U}
    (h1 : o.map (fun s => (f0 s, f1 s, f4 s, f6 s, f8 s, f5 s)) = some (g0, g1, g4, g6, g8, g5)) (h2 : o.map (fun s => (f2 s, f3 s, f7 s)) = some (g2, g3, g7)) (hu : ∀ s, u s = v) :
    o.map (fun s => ((f0 s, f1 s, f2 s, f3 s, f4 s, f5 s, f6 s, f7 s, f8 s), u s)) = some ((g0, g1, g2, g3, g4, g5, g6, g7, g8), v) := by
  cases o with
  | none => cases h1
  | some s =>
    obtain ⟨a0, h1⟩ := Prod.mk.inj (Option.some.inj h1)
    obtain ⟨a1, h1⟩ := Prod.mk.inj h1
    obtain ⟨a4, h1⟩ := Prod.mk.inj h1
    obtain ⟨a6, h1⟩ := Prod.mk.inj h1
    obtain ⟨a8, a5⟩ := Prod.mk.inj h1
    obtain ⟨a2, h2⟩ := Prod.mk.inj (Option.some.inj h2)
    obtain ⟨a3, a7⟩ := Prod.mk.inj h2
    show some ((f0 s, f1 s, f2 s, f3 s, f4 s, f5 s, f6 s, f7 s, f8 s), u s) = _
    rw [a0, a1, a2, a3, a4, a5, a6, a7, a8, hu]
-- the top's run, looked at in two checks (one check of all takes more memory)
theorem headRun1 : ∀ (w : World) (os : OsState), (topFrom treeTable PySem.Challenge.rw_nz0086_01.row.prog w 3500 ⟨boot_heap w.params, Array.mk [], boot_drawn, boot_toks, os⟩).map (fun s => (seen ((recsOf headView).map (·.name)) (ownsOf headView) [] { s with gens := #[] }, s.heap.bltView, pinSeenD headView (drecsOf headView) s, plainSeenD headView [] s, clsSeenW headView [] s, plainSeenE headView (looseW headView []) s)) =
    some (expectedOf headView, bltViewBooted, pinGoodD (drecsOf headView), plainGoodD headView [], clsGoodW headView [], plainGoodE headView (looseW headView [])) := fun w os => by kernel_rfl
theorem headRun2 : ∀ (w : World) (os : OsState), (topFrom treeTable PySem.Challenge.rw_nz0086_01.row.prog w 3500 ⟨boot_heap w.params, Array.mk [], boot_drawn, boot_toks, os⟩).map (fun s => (s.heap.keysOk (looseW headView []) ((recsOf headView).map (·.name)) ((litsOf headView).map (·.1)) ((clssOf headView (looseW headView [])).map (·.name)) && s.heap.accountedOkI (importedModules PySem.Challenge.rw_nz0086_01.row.prog.main.body) && s.heap.isNs mainGlobals && s.heap.isNs builtinsNs && tablesOk headView s.heap && (xlAt headView [] s && recOk (RowW.records PySem.Challenge.rw_nz0086_01.row.toRowW) s) && (if true then s.gens.size == 0 else !leftWithCleanup s.gens), tabsOk headView s, wideSeen headView s)) = some (true, true, wideGood headView) := fun w os => by kernel_rfl
theorem headLeft : LeftO PySem.Challenge.rw_nz0086_01.row.prog headView [] (fun s => xlAt headView [] s && recOk (RowW.records PySem.Challenge.rw_nz0086_01.row.toRowW) s) Hook.none.obs Hook.none.val 3500 := headOf headOp fun w os => headPack (headRun1 w os) (headRun2 w os) fun _ => rfl
theorem headSaid : OpenLaw.wellSaid PySem.Challenge.rw_nz0086_01 = true := by
  unfold OpenLaw.wellSaid OpenRow.wellSaid OpenRow.partSaid looksOpen
  repeat' with_reducible refine look_both ?_ ?_
  all_goals kernel_rfl
end Mine
end

section
open PySem PySem.W PyProof.Rows
namespace Mine

/-- pure values -/
inductive PV where
  | int (i : Int)
  | bool (b : Bool)
  | list (xs : List PV)
  | tup (xs : List PV)
  | fn (k : Nat)
  | deal

inductive Bop where
  | add | sub | mul | fdiv | mod | pow | band | bor | shl | shr
inductive Cop where
  | eq | ne | lt | le | gt | ge

/-- targets of a loop or a comprehension -/
inductive MP where
  | one (x : Nat)
  | two (x y : Nat)

mutual
inductive ME where
  | int (i : Int)
  | bool (b : Bool)
  | var (x : Nat)
  | fnv (k : Nat)
  | bin (op : Bop) (a b : ME)
  | neg (a : ME)
  | not (a : ME)
  | and (a b : ME)
  | or (a b : ME)
  | ite (c a b : ME)
  | cmp (op : Cop) (a b : ME)
  | chain (o1 o2 : Cop) (a b c : ME)
  | call (k : Nat) (as : MEs)
  | callv (x : Nat) (as : MEs)
  | lenv (x : Nat)
  | len (a : ME)
  | abs (a : ME)
  | toInt (a : ME)
  | sum (a : ME)
  | bitlen (a : ME)
  | idxv (x : Nat) (i : ME)
  | idx (a i : ME)
  | sliceTo (x : Nat) (e : ME)
  | sliceAll (x : Nat)
  | sliceRev (x : Nat)
  | list (es : MEs)
  | rep (e n : ME)
  | tup (es : MEs)
  | comp (elt : ME) (pat : MP) (it : MI)
  | compIf (elt : ME) (pat : MP) (it : MI) (cond : ME)
inductive MEs where
  | nil
  | cons (e : ME) (r : MEs)
inductive MI where
  | of (e : ME)
  | range1 (a : ME)
  | range2 (a b : ME)
  | range3 (a b c : ME)
  | enum (e : ME)
  | zip (a b : ME)
end

/-- right sides of a tuple assignment: a value, or a list that stays the frame's own -/
inductive MR where
  | val (e : ME)
  | own (e : ME)
inductive MRs where
  | nil
  | cons (x : Nat) (r : MR) (rs : MRs)

mutual
inductive MS where
  | asg (x : Nat) (r : MR)
  | asgT (rs : MRs)
  | asgU (x y : Nat) (e : ME)
  | aug (x : Nat) (op : Bop) (e : ME)
  | app (x : Nat) (e : ME)
  | seti (x : Nat) (i e : ME)
  | setd (x : Nat) (i : Nat) (e : ME)
  | ifS (c : ME) (t e : MSs)
  | whileS (c : ME) (b : MSs)
  | forS (pat : MP) (it : MI) (b : MSs)
  | ret (e : ME)
  | fail
inductive MSs where
  | nil
  | cons (s : MS) (r : MSs)
  | frz (x : Nat) (r : MSs)
end

inductive Sl where
  | un
  | v (p : PV)
  | own (xs : List PV)

noncomputable abbrev Sg := List Sl
noncomputable abbrev DS := List PV

noncomputable def gv (σ : Sg) (x : Nat) : Option PV := match σ[x]? with
  | some (.v p) => some p
  | _ => none
/-- the list that a name holds, whether frozen, the frame's own or the deal -/
noncomputable def gl (σ : Sg) (D : DS) (x : Nat) : Option (List PV) := match σ[x]? with
  | some (.v (.list xs)) => some xs
  | some (.own xs) => some xs
  | some (.v .deal) => some D
  | _ => none
noncomputable def gf (σ : Sg) (x : Nat) : Option (List PV) := match σ[x]? with
  | some (.v (.list xs)) => some xs
  | _ => none
noncomputable def go (σ : Sg) (x : Nat) : Option (List PV) := match σ[x]? with
  | some (.own xs) => some xs
  | _ => none

noncomputable def lim : Nat := 2 ^ 20

noncomputable def asInt (v : PV) (Q : Int → Prop) : Prop := match v with
  | .int i => Q i
  | _ => False
noncomputable def asBool (v : PV) (Q : Bool → Prop) : Prop := match v with
  | .bool b => Q b
  | _ => False
noncomputable def asList (v : PV) (Q : List PV → Prop) : Prop := match v with
  | .list xs => Q xs
  | _ => False
noncomputable def asFn (v : Option PV) (Q : Nat → Prop) : Prop := match v with
  | some (.fn k) => Q k
  | _ => False
noncomputable def asSome {α : Type} (v : Option α) (Q : α → Prop) : Prop := match v with
  | some xs => Q xs
  | none => False
noncomputable def whichB (b : Bool) (P Q : Prop) : Prop := match b with
  | true => P
  | false => Q

noncomputable def ii (a b : PV) (Q : Int → Int → Prop) : Prop := asInt a fun x => asInt b fun y => Q x y
noncomputable def addQ (a b : PV) (Q : PV → Prop) : Prop := match a with
  | .int x => asInt b fun y => Q (.int (x + y))
  | .list xs => asList b fun ys => xs.length + ys.length < lim ∧ Q (.list (xs ++ ys))
  | _ => False
noncomputable def bin2 (op : Bop) (a b : PV) (Q : PV → Prop) : Prop := match op with
  | .add => addQ a b Q
  | .sub => ii a b fun x y => Q (.int (x - y))
  | .mul => ii a b fun x y => (x.natAbs < 2 ^ 64 ∧ y.natAbs < 2 ^ 64) ∧ Q (.int (x * y))
  | .fdiv => ii a b fun x y => (y ≠ 0 ∧ y.natAbs < 2 ^ 64) ∧ Q (.int (x.fdiv y))
  | .mod => ii a b fun x y => y ≠ 0 ∧ Q (.int (x.fmod y))
  | .pow => ii a b fun x y => (0 ≤ y ∧ y ≤ 1000000 ∧ x.natAbs < 2 ^ 64) ∧ Q (.int (x ^ y.toNat))
  | .shl => ii a b fun x y => (0 ≤ y ∧ y ≤ 1000000 ∧ x.natAbs < 2 ^ 64) ∧ Q (.int (x * 2 ^ y.toNat))
  | .shr => ii a b fun x y => 0 ≤ y ∧ Q (.int (x.fdiv (2 ^ y.toNat)))
  | .band => ii a b fun x y => Q (.int (Builtin.bitAnd x y))
  | .bor => ii a b fun x y => Q (.int (Builtin.bitOr x y))

noncomputable def intsOf : List PV → Option (List Int)
  | [] => some []
  | .int i :: r => (intsOf r).map (i :: ·)
  | _ :: _ => none

noncomputable def eqQ (a b : PV) (Q : Bool → Prop) : Prop := match a with
  | .int x => asInt b fun y => Q (x == y)
  | .list xs => asList b fun ys => asSome (intsOf xs) fun ns => asSome (intsOf ys) fun ms => Q (decide (ns = ms))
  | _ => False
noncomputable def cmp2 (op : Cop) (a b : PV) (Q : Bool → Prop) : Prop := match op with
  | .eq => eqQ a b Q
  | .ne => eqQ a b fun t => Q (!t)
  | .lt => ii a b fun x y => Q (decide (x < y))
  | .le => ii a b fun x y => Q (decide (x ≤ y))
  | .gt => ii a b fun x y => Q (decide (x > y))
  | .ge => ii a b fun x y => Q (decide (x ≥ y))

noncomputable def bindP (pat : MP) (v : PV) (σ : Sg) (k : Sg → Prop) : Prop := match pat with
  | .one x => k (σ.set x (.v v))
  | .two x y => match v with
    | .tup [a, b] => k ((σ.set x (.v a)).set y (.v b))
    | _ => False

/-- the items of a comprehension, one after the other -/
noncomputable def compW (f : PV → DS → (Option PV → DS → Prop) → Prop) : List PV → DS → List PV → (List PV → DS → Prop) → Prop
  | [], D, acc, Q => Q acc D
  | x :: r, D, acc, Q => f x D fun o D' => compW f r D' (match o with | some v => acc ++ [v] | none => acc) Q

noncomputable def rangeInts (a b c : Int) : List Int := (List.range (Builtin.Range.rangeSize a b c).toNat).map fun i : Nat => a + c * (i : Int)

section
variable (C : Nat → List PV → DS → (PV → DS → Prop) → Prop)
mutual
noncomputable def wpE : ME → Sg → DS → (PV → DS → Prop) → Prop
  | .int i, _, D, Q => Q (.int i) D
  | .bool b, _, D, Q => Q (.bool b) D
  | .var x, σ, D, Q => asSome (gv σ x) fun p => Q p D
  | .fnv k, _, D, Q => Q (.fn k) D
  | .bin op a b, σ, D, Q => wpE a σ D fun va D₁ => wpE b σ D₁ fun vb D₂ => bin2 op va vb fun r => Q r D₂
  | .neg a, σ, D, Q => wpE a σ D fun v D₁ => asInt v fun i => Q (.int (-i)) D₁
  | .not a, σ, D, Q => wpE a σ D fun v D₁ => asBool v fun b => Q (.bool (!b)) D₁
  | .and a b, σ, D, Q => wpE a σ D fun v D₁ => asBool v fun c => whichB c (wpE b σ D₁ Q) (Q (.bool false) D₁)
  | .or a b, σ, D, Q => wpE a σ D fun v D₁ => asBool v fun c => whichB c (Q (.bool true) D₁) (wpE b σ D₁ Q)
  | .ite c a b, σ, D, Q => wpE c σ D fun v D₁ => asBool v fun c => whichB c (wpE a σ D₁ Q) (wpE b σ D₁ Q)
  | .cmp op a b, σ, D, Q => wpE a σ D fun va D₁ => wpE b σ D₁ fun vb D₂ => cmp2 op va vb fun r => Q (.bool r) D₂
  | .chain o1 o2 a b c, σ, D, Q => wpE a σ D fun va D₁ => wpE b σ D₁ fun vb D₂ => cmp2 o1 va vb fun r =>
      whichB r (wpE c σ D₂ fun vc D₃ => cmp2 o2 vb vc fun r => Q (.bool r) D₃) (Q (.bool false) D₂)
  | .call k as, σ, D, Q => wpEs as σ D fun vs D₁ => C k vs D₁ Q
  | .callv x as, σ, D, Q => asFn (gv σ x) fun k => wpEs as σ D fun vs D₁ => C k vs D₁ Q
  | .lenv x, σ, D, Q => asSome (gl σ D x) fun xs => Q (.int xs.length) D
  | .len a, σ, D, Q => wpE a σ D fun v D₁ => asList v fun xs => Q (.int xs.length) D₁
  | .abs a, σ, D, Q => wpE a σ D fun v D₁ => asInt v fun i => Q (.int (if i < 0 then -i else i)) D₁
  | .toInt a, σ, D, Q => wpE a σ D fun v D₁ => asInt v fun i => Q (.int i) D₁
  | .sum a, σ, D, Q => wpE a σ D fun v D₁ => asList v fun xs => asSome (intsOf xs) fun ns => Q (.int ns.sum) D₁
  | .bitlen a, σ, D, Q => wpE a σ D fun v D₁ => asInt v fun i => Q (.int (Builtin.Int.intBits i)) D₁
  | .idxv x i, σ, D, Q => asSome (gl σ D x) fun _ => wpE i σ D fun v D₁ => asInt v fun k => asSome (gl σ D₁ x) fun xs => asSome (seqIndex? k xs.length) fun j => asSome xs[j]? fun p => Q p D₁
  | .idx a i, σ, D, Q => wpE a σ D fun va D₁ => wpE i σ D₁ fun v D₂ => asInt v fun k => asList va fun xs => asSome (seqIndex? k xs.length) fun j => asSome xs[j]? fun p => Q p D₂
  | .sliceTo x e, σ, D, Q => asSome (gf σ x) fun xs => wpE e σ D fun v D₁ => asInt v fun k => 0 ≤ k ∧ Q (.list (xs.take k.toNat)) D₁
  | .sliceAll x, σ, D, Q => asSome (gf σ x) fun xs => Q (.list xs) D
  | .sliceRev x, σ, D, Q => asSome (gf σ x) fun xs => Q (.list xs.reverse) D
  | .list es, σ, D, Q => wpEs es σ D fun vs D₁ => vs.length < lim ∧ Q (.list vs) D₁
  | .rep e n, σ, D, Q => wpE e σ D fun v D₁ => wpE n σ D₁ fun k D₂ => asInt k fun k => (0 ≤ k ∧ k < lim) ∧ Q (.list (List.replicate k.toNat v)) D₂
  | .tup es, σ, D, Q => wpEs es σ D fun vs D₁ => vs.length < lim ∧ Q (.tup vs) D₁
  | .comp elt pat it, σ, D, Q => wpI it σ D fun xs D₁ => xs.length < lim ∧ compW (fun x D k => bindP pat x σ fun σ' => wpE elt σ' D fun v D' => k (some v) D') xs D₁ [] fun ys D₂ => Q (.list ys) D₂
  | .compIf elt pat it c, σ, D, Q => wpI it σ D fun xs D₁ => xs.length < lim ∧ compW (fun x D k => bindP pat x σ fun σ' => wpE c σ' D fun b D' => asBool b fun b =>
      whichB b (wpE elt σ' D' fun v D'' => k (some v) D'') (k none D')) xs D₁ [] fun ys D₂ => Q (.list ys) D₂
noncomputable def wpEs : MEs → Sg → DS → (List PV → DS → Prop) → Prop
  | .nil, _, D, Q => Q [] D
  | .cons e r, σ, D, Q => wpE e σ D fun v D₁ => wpEs r σ D₁ fun vs D₂ => Q (v :: vs) D₂
noncomputable def wpI : MI → Sg → DS → (List PV → DS → Prop) → Prop
  | .of e, σ, D, Q => wpE e σ D fun v D₁ => match v with
    | .list xs => Q xs D₁
    | .tup xs => Q xs D₁
    | _ => False
  | .range1 a, σ, D, Q => wpE a σ D fun v D₁ => asInt v fun n => n.natAbs < lim ∧ Q ((rangeInts 0 n 1).map .int) D₁
  | .range2 a b, σ, D, Q => wpE a σ D fun va D₁ => wpE b σ D₁ fun vb D₂ => asInt va fun m => asInt vb fun n => (m.natAbs < lim ∧ n.natAbs < lim) ∧ Q ((rangeInts m n 1).map .int) D₂
  | .range3 a b c, σ, D, Q => wpE a σ D fun va D₁ => wpE b σ D₁ fun vb D₂ => wpE c σ D₂ fun vc D₃ => asInt va fun m => asInt vb fun n => asInt vc fun s =>
      (m.natAbs < lim ∧ n.natAbs < lim ∧ s.natAbs < lim ∧ s ≠ 0) ∧ Q ((rangeInts m n s).map .int) D₃
  | .enum e, σ, D, Q => wpE e σ D fun v D₁ => asList v fun xs => Q (xs.zipIdx.map fun (x, i) => .tup [.int i, x]) D₁
  | .zip a b, σ, D, Q => wpE a σ D fun va D₁ => wpE b σ D₁ fun vb D₂ => asList va fun xs => asList vb fun ys => Q ((xs.zip ys).map fun (x, y) => .tup [x, y]) D₂
end

inductive Fl where
  | next
  | ret (v : PV)

noncomputable def wpR : MR → Sg → DS → (Sl → DS → Prop) → Prop
  | .val e, σ, D, Q => wpE C e σ D fun v D₁ => Q (.v v) D₁
  | .own e, σ, D, Q => wpE C e σ D fun v D₁ => asList v fun xs => Q (.own xs) D₁
noncomputable def wpRs : MRs → Sg → DS → (List (Nat × Sl) → DS → Prop) → Prop
  | .nil, _, D, Q => Q [] D
  | .cons x r rs, σ, D, Q => wpR C r σ D fun l D₁ => wpRs rs σ D₁ fun ls D₂ => Q ((x, l) :: ls) D₂
noncomputable def setAll (σ : Sg) : List (Nat × Sl) → Sg
  | [] => σ
  | (x, l) :: r => setAll (σ.set x l) r

noncomputable def whileW (t : Sg → DS → (PV → DS → Prop) → Prop) (b : Sg → DS → (Fl → Sg → DS → Prop) → Prop) : Nat → Sg → DS → (Fl → Sg → DS → Prop) → Prop
  | 0, _, _, _ => False
  | n + 1, σ, D, Q => t σ D fun v D₁ => asBool v fun c => whichB c (b σ D₁ fun f σ' D₂ => match f with
      | .next => whileW t b n σ' D₂ Q
      | .ret v => Q (.ret v) σ' D₂) (Q .next σ D₁)
noncomputable def forW (pat : MP) (b : Sg → DS → (Fl → Sg → DS → Prop) → Prop) : List PV → Sg → DS → (Fl → Sg → DS → Prop) → Prop
  | [], σ, D, Q => Q .next σ D
  | x :: r, σ, D, Q => bindP pat x σ fun σ₁ => b σ₁ D fun f σ' D₂ => match f with
      | .next => forW pat b r σ' D₂ Q
      | .ret v => Q (.ret v) σ' D₂

mutual
noncomputable def wpS : MS → Sg → DS → (Fl → Sg → DS → Prop) → Prop
  | .asg x r, σ, D, Q => wpR C r σ D fun l D₁ => Q .next (σ.set x l) D₁
  | .asgT rs, σ, D, Q => wpRs C rs σ D fun ls D₁ => Q .next (setAll σ ls) D₁
  | .asgU x y e, σ, D, Q => wpE C e σ D fun v D₁ => match v with
    | .list [a, b] => Q .next ((σ.set x (.v a)).set y (.v b)) D₁
    | _ => False
  | .aug x op e, σ, D, Q => asSome (gv σ x) fun p => wpE C e σ D fun v D₁ => asInt p fun i => asInt v fun j => bin2 op (.int i) (.int j) fun r => Q .next (σ.set x (.v r)) D₁
  | .app x e, σ, D, Q => asSome (go σ x) fun xs => wpE C e σ D fun v D₁ => xs.length + 1 < lim ∧ Q .next (σ.set x (.own (xs ++ [v]))) D₁
  | .seti x i e, σ, D, Q => asSome (go σ x) fun xs => wpE C e σ D fun v D₁ => wpE C i σ D₁ fun k D₂ => asInt k fun k => (0 ≤ k ∧ k < xs.length) ∧ Q .next (σ.set x (.own (xs.set k.toNat v))) D₂
  | .setd x i e, σ, D, Q => wpE C e σ D fun v D₁ => match gv σ x with
    | some .deal => i < D₁.length ∧ Q .next σ (D₁.set i v)
    | _ => False
  | .ifS c t e, σ, D, Q => wpE C c σ D fun v D₁ => asBool v fun b => whichB b (wpSs t σ D₁ Q) (wpSs e σ D₁ Q)
  | .whileS c b, σ, D, Q => ∃ n, whileW (wpE C c) (wpSs b) n σ D Q
  | .forS pat it b, σ, D, Q => wpI C it σ D fun xs D₁ => xs.length < lim ∧ forW pat (wpSs b) xs σ D₁ Q
  | .ret e, σ, D, Q => wpE C e σ D fun v D₁ => Q (.ret v) σ D₁
  | .fail, _, _, _ => False
noncomputable def wpSs : MSs → Sg → DS → (Fl → Sg → DS → Prop) → Prop
  | .nil, σ, D, Q => Q .next σ D
  | .cons s r, σ, D, Q => wpS s σ D fun f σ' D' => match f with
    | .next => wpSs r σ' D' Q
    | .ret v => Q (.ret v) σ' D'
  | .frz x r, σ, D, Q => asSome (go σ x) fun xs => wpSs r (σ.set x (.v (.list xs))) D Q
end
theorem Wa (i : Int) (l₀ : Sl) (σ : Sg) (D : DS) (Q : PV → DS → Prop) : wpE C (.int i) (l₀ :: σ) D Q = (Q (.int i) D) := rfl
theorem Wb (b : Bool) (l₀ : Sl) (σ : Sg) (D : DS) (Q : PV → DS → Prop) : wpE C (.bool b) (l₀ :: σ) D Q = (Q (.bool b) D) := rfl
theorem Wc (x : Nat) (l₀ : Sl) (σ : Sg) (D : DS) (Q : PV → DS → Prop) : wpE C (.var x) (l₀ :: σ) D Q = (asSome (gv (l₀ :: σ) x) fun p => Q p D) := rfl
theorem Wd (k : Nat) (l₀ : Sl) (σ : Sg) (D : DS) (Q : PV → DS → Prop) : wpE C (.fnv k) (l₀ :: σ) D Q = (Q (.fn k) D) := rfl
theorem We (op : Bop) (a : ME) (b : ME) (l₀ : Sl) (σ : Sg) (D : DS) (Q : PV → DS → Prop) : wpE C (.bin op a b) (l₀ :: σ) D Q = (wpE C a (l₀ :: σ) D fun va D₁ => wpE C b (l₀ :: σ) D₁ fun vb D₂ => bin2 op va vb fun r => Q r D₂) := rfl
theorem Wf (a : ME) (l₀ : Sl) (σ : Sg) (D : DS) (Q : PV → DS → Prop) : wpE C (.neg a) (l₀ :: σ) D Q = (wpE C a (l₀ :: σ) D fun v D₁ => asInt v fun i => Q (.int (-i)) D₁) := rfl
theorem Wg (a : ME) (l₀ : Sl) (σ : Sg) (D : DS) (Q : PV → DS → Prop) : wpE C (.not a) (l₀ :: σ) D Q = (wpE C a (l₀ :: σ) D fun v D₁ => asBool v fun b => Q (.bool (!b)) D₁) := rfl
theorem Wh (a : ME) (b : ME) (l₀ : Sl) (σ : Sg) (D : DS) (Q : PV → DS → Prop) : wpE C (.and a b) (l₀ :: σ) D Q = (wpE C a (l₀ :: σ) D fun v D₁ => asBool v fun c => whichB c (wpE C b (l₀ :: σ) D₁ Q) (Q (.bool false) D₁)) := rfl
theorem Wi (a : ME) (b : ME) (l₀ : Sl) (σ : Sg) (D : DS) (Q : PV → DS → Prop) : wpE C (.or a b) (l₀ :: σ) D Q = (wpE C a (l₀ :: σ) D fun v D₁ => asBool v fun c => whichB c (Q (.bool true) D₁) (wpE C b (l₀ :: σ) D₁ Q)) := rfl
theorem Wj (c : ME) (a : ME) (b : ME) (l₀ : Sl) (σ : Sg) (D : DS) (Q : PV → DS → Prop) : wpE C (.ite c a b) (l₀ :: σ) D Q = (wpE C c (l₀ :: σ) D fun v D₁ => asBool v fun c => whichB c (wpE C a (l₀ :: σ) D₁ Q) (wpE C b (l₀ :: σ) D₁ Q)) := rfl
theorem Wk (op : Cop) (a : ME) (b : ME) (l₀ : Sl) (σ : Sg) (D : DS) (Q : PV → DS → Prop) : wpE C (.cmp op a b) (l₀ :: σ) D Q = (wpE C a (l₀ :: σ) D fun va D₁ => wpE C b (l₀ :: σ) D₁ fun vb D₂ => cmp2 op va vb fun r => Q (.bool r) D₂) := rfl
theorem Wl (o1 : Cop) (o2 : Cop) (a : ME) (b : ME) (c : ME) (σ : Sg) (D : DS) (Q : PV → DS → Prop) : wpE C (.chain o1 o2 a b c) σ D Q = (wpE C a σ D fun va D₁ => wpE C b σ D₁ fun vb D₂ => cmp2 o1 va vb fun r =>
      whichB r (wpE C c σ D₂ fun vc D₃ => cmp2 o2 vb vc fun r => Q (.bool r) D₃) (Q (.bool false) D₂)) := rfl
theorem Wm (k : Nat) (as : MEs) (l₀ : Sl) (σ : Sg) (D : DS) (Q : PV → DS → Prop) : wpE C (.call k as) (l₀ :: σ) D Q = (wpEs C as (l₀ :: σ) D fun vs D₁ => C k vs D₁ Q) := rfl
theorem Wn (x : Nat) (as : MEs) (l₀ : Sl) (σ : Sg) (D : DS) (Q : PV → DS → Prop) : wpE C (.callv x as) (l₀ :: σ) D Q = (asFn (gv (l₀ :: σ) x) fun k => wpEs C as (l₀ :: σ) D fun vs D₁ => C k vs D₁ Q) := rfl
theorem Wo (x : Nat) (l₀ : Sl) (σ : Sg) (D : DS) (Q : PV → DS → Prop) : wpE C (.lenv x) (l₀ :: σ) D Q = (asSome (gl (l₀ :: σ) D x) fun xs => Q (.int xs.length) D) := rfl
theorem Wp (a : ME) (l₀ : Sl) (σ : Sg) (D : DS) (Q : PV → DS → Prop) : wpE C (.len a) (l₀ :: σ) D Q = (wpE C a (l₀ :: σ) D fun v D₁ => asList v fun xs => Q (.int xs.length) D₁) := rfl
theorem Wq (a : ME) (l₀ : Sl) (σ : Sg) (D : DS) (Q : PV → DS → Prop) : wpE C (.abs a) (l₀ :: σ) D Q = (wpE C a (l₀ :: σ) D fun v D₁ => asInt v fun i => Q (.int (if i < 0 then -i else i)) D₁) := rfl
theorem Wr (a : ME) (l₀ : Sl) (σ : Sg) (D : DS) (Q : PV → DS → Prop) : wpE C (.toInt a) (l₀ :: σ) D Q = (wpE C a (l₀ :: σ) D fun v D₁ => asInt v fun i => Q (.int i) D₁) := rfl
theorem Ws (a : ME) (l₀ : Sl) (σ : Sg) (D : DS) (Q : PV → DS → Prop) : wpE C (.sum a) (l₀ :: σ) D Q = (wpE C a (l₀ :: σ) D fun v D₁ => asList v fun xs => asSome (intsOf xs) fun ns => Q (.int ns.sum) D₁) := rfl
theorem Wt (a : ME) (l₀ : Sl) (σ : Sg) (D : DS) (Q : PV → DS → Prop) : wpE C (.bitlen a) (l₀ :: σ) D Q = (wpE C a (l₀ :: σ) D fun v D₁ => asInt v fun i => Q (.int (Builtin.Int.intBits i)) D₁) := rfl
theorem Wu (x : Nat) (i : ME) (l₀ : Sl) (σ : Sg) (D : DS) (Q : PV → DS → Prop) : wpE C (.idxv x i) (l₀ :: σ) D Q = (asSome (gl (l₀ :: σ) D x) fun _ => wpE C i (l₀ :: σ) D fun v D₁ => asInt v fun k => asSome (gl (l₀ :: σ) D₁ x) fun xs => asSome (seqIndex? k xs.length) fun j => asSome xs[j]? fun p => Q p D₁) := rfl
theorem Wv (a : ME) (i : ME) (l₀ : Sl) (σ : Sg) (D : DS) (Q : PV → DS → Prop) : wpE C (.idx a i) (l₀ :: σ) D Q = (wpE C a (l₀ :: σ) D fun va D₁ => wpE C i (l₀ :: σ) D₁ fun v D₂ => asInt v fun k => asList va fun xs => asSome (seqIndex? k xs.length) fun j => asSome xs[j]? fun p => Q p D₂) := rfl
theorem Ww (x : Nat) (e : ME) (l₀ : Sl) (σ : Sg) (D : DS) (Q : PV → DS → Prop) : wpE C (.sliceTo x e) (l₀ :: σ) D Q = (asSome (gf (l₀ :: σ) x) fun xs => wpE C e (l₀ :: σ) D fun v D₁ => asInt v fun k => 0 ≤ k ∧ Q (.list (xs.take k.toNat)) D₁) := rfl
theorem Wx (x : Nat) (l₀ : Sl) (σ : Sg) (D : DS) (Q : PV → DS → Prop) : wpE C (.sliceAll x) (l₀ :: σ) D Q = (asSome (gf (l₀ :: σ) x) fun xs => Q (.list xs) D) := rfl
theorem Wy (x : Nat) (l₀ : Sl) (σ : Sg) (D : DS) (Q : PV → DS → Prop) : wpE C (.sliceRev x) (l₀ :: σ) D Q = (asSome (gf (l₀ :: σ) x) fun xs => Q (.list xs.reverse) D) := rfl
theorem Wz (es : MEs) (l₀ : Sl) (σ : Sg) (D : DS) (Q : PV → DS → Prop) : wpE C (.list es) (l₀ :: σ) D Q = (wpEs C es (l₀ :: σ) D fun vs D₁ => vs.length < lim ∧ Q (.list vs) D₁) := rfl
theorem WA (e : ME) (n : ME) (l₀ : Sl) (σ : Sg) (D : DS) (Q : PV → DS → Prop) : wpE C (.rep e n) (l₀ :: σ) D Q = (wpE C e (l₀ :: σ) D fun v D₁ => wpE C n (l₀ :: σ) D₁ fun k D₂ => asInt k fun k => (0 ≤ k ∧ k < lim) ∧ Q (.list (List.replicate k.toNat v)) D₂) := rfl
theorem WB (es : MEs) (l₀ : Sl) (σ : Sg) (D : DS) (Q : PV → DS → Prop) : wpE C (.tup es) (l₀ :: σ) D Q = (wpEs C es (l₀ :: σ) D fun vs D₁ => vs.length < lim ∧ Q (.tup vs) D₁) := rfl
theorem WC (elt : ME) (pat : MP) (it : MI) (l₀ : Sl) (σ : Sg) (D : DS) (Q : PV → DS → Prop) : wpE C (.comp elt pat it) (l₀ :: σ) D Q = (wpI C it (l₀ :: σ) D fun xs D₁ => xs.length < lim ∧ compW (fun x D k => bindP pat x (l₀ :: σ) fun σ' => wpE C elt σ' D fun v D' => k (some v) D') xs D₁ [] fun ys D₂ => Q (.list ys) D₂) := rfl
theorem WD (elt : ME) (pat : MP) (it : MI) (c : ME) (σ : Sg) (D : DS) (Q : PV → DS → Prop) : wpE C (.compIf elt pat it c) σ D Q = (wpI C it σ D fun xs D₁ => xs.length < lim ∧ compW (fun x D k => bindP pat x σ fun σ' => wpE C c σ' D fun b D' => asBool b fun b =>
      whichB b (wpE C elt σ' D' fun v D'' => k (some v) D'') (k none D')) xs D₁ [] fun ys D₂ => Q (.list ys) D₂) := rfl
theorem WE  (l₀ : Sl) (σ : Sg) (D : DS) (Q : List PV → DS → Prop) : wpEs C .nil (l₀ :: σ) D Q = (Q [] D) := rfl
theorem WF (e : ME) (r : MEs) (l₀ : Sl) (σ : Sg) (D : DS) (Q : List PV → DS → Prop) : wpEs C (.cons e r) (l₀ :: σ) D Q = (wpE C e (l₀ :: σ) D fun v D₁ => wpEs C r (l₀ :: σ) D₁ fun vs D₂ => Q (v :: vs) D₂) := rfl
theorem WG (e : ME) (σ : Sg) (D : DS) (Q : List PV → DS → Prop) : wpI C (.of e) σ D Q = (wpE C e σ D fun v D₁ => match v with
    | .list xs => Q xs D₁
    | .tup xs => Q xs D₁
    | _ => False) := rfl
theorem WH (a : ME) (l₀ : Sl) (σ : Sg) (D : DS) (Q : List PV → DS → Prop) : wpI C (.range1 a) (l₀ :: σ) D Q = (wpE C a (l₀ :: σ) D fun v D₁ => asInt v fun n => n.natAbs < lim ∧ Q ((rangeInts 0 n 1).map .int) D₁) := rfl
theorem WI (a : ME) (b : ME) (l₀ : Sl) (σ : Sg) (D : DS) (Q : List PV → DS → Prop) : wpI C (.range2 a b) (l₀ :: σ) D Q = (wpE C a (l₀ :: σ) D fun va D₁ => wpE C b (l₀ :: σ) D₁ fun vb D₂ => asInt va fun m => asInt vb fun n => (m.natAbs < lim ∧ n.natAbs < lim) ∧ Q ((rangeInts m n 1).map .int) D₂) := rfl
theorem WJ (a : ME) (b : ME) (c : ME) (σ : Sg) (D : DS) (Q : List PV → DS → Prop) : wpI C (.range3 a b c) σ D Q = (wpE C a σ D fun va D₁ => wpE C b σ D₁ fun vb D₂ => wpE C c σ D₂ fun vc D₃ => asInt va fun m => asInt vb fun n => asInt vc fun s =>
      (m.natAbs < lim ∧ n.natAbs < lim ∧ s.natAbs < lim ∧ s ≠ 0) ∧ Q ((rangeInts m n s).map .int) D₃) := rfl
theorem WK (e : ME) (l₀ : Sl) (σ : Sg) (D : DS) (Q : List PV → DS → Prop) : wpI C (.enum e) (l₀ :: σ) D Q = (wpE C e (l₀ :: σ) D fun v D₁ => asList v fun xs => Q (xs.zipIdx.map fun (x, i) => .tup [.int i, x]) D₁) := rfl
theorem WL (a : ME) (b : ME) (l₀ : Sl) (σ : Sg) (D : DS) (Q : List PV → DS → Prop) : wpI C (.zip a b) (l₀ :: σ) D Q = (wpE C a (l₀ :: σ) D fun va D₁ => wpE C b (l₀ :: σ) D₁ fun vb D₂ => asList va fun xs => asList vb fun ys => Q ((xs.zip ys).map fun (x, y) => .tup [x, y]) D₂) := rfl
theorem WM (e : ME) (l₀ : Sl) (σ : Sg) (D : DS) (Q : Sl → DS → Prop) : wpR C (.val e) (l₀ :: σ) D Q = (wpE C e (l₀ :: σ) D fun v D₁ => Q (.v v) D₁) := rfl
theorem WN (e : ME) (l₀ : Sl) (σ : Sg) (D : DS) (Q : Sl → DS → Prop) : wpR C (.own e) (l₀ :: σ) D Q = (wpE C e (l₀ :: σ) D fun v D₁ => asList v fun xs => Q (.own xs) D₁) := rfl
theorem WO  (l₀ : Sl) (σ : Sg) (D : DS) (Q : List (Nat × Sl) → DS → Prop) : wpRs C .nil (l₀ :: σ) D Q = (Q [] D) := rfl
theorem WP (x : Nat) (r : MR) (rs : MRs) (l₀ : Sl) (σ : Sg) (D : DS) (Q : List (Nat × Sl) → DS → Prop) : wpRs C (.cons x r rs) (l₀ :: σ) D Q = (wpR C r (l₀ :: σ) D fun l D₁ => wpRs C rs (l₀ :: σ) D₁ fun ls D₂ => Q ((x, l) :: ls) D₂) := rfl
theorem WQ (x : Nat) (r : MR) (l₀ : Sl) (σ : Sg) (D : DS) (Q : Fl → Sg → DS → Prop) : wpS C (.asg x r) (l₀ :: σ) D Q = (wpR C r (l₀ :: σ) D fun l D₁ => Q .next ((l₀ :: σ).set x l) D₁) := rfl
theorem WR (rs : MRs) (l₀ : Sl) (σ : Sg) (D : DS) (Q : Fl → Sg → DS → Prop) : wpS C (.asgT rs) (l₀ :: σ) D Q = (wpRs C rs (l₀ :: σ) D fun ls D₁ => Q .next (setAll (l₀ :: σ) ls) D₁) := rfl
theorem WS (x : Nat) (y : Nat) (e : ME) (σ : Sg) (D : DS) (Q : Fl → Sg → DS → Prop) : wpS C (.asgU x y e) σ D Q = (wpE C e σ D fun v D₁ => match v with
    | .list [a, b] => Q .next ((σ.set x (.v a)).set y (.v b)) D₁
    | _ => False) := rfl
theorem WT (x : Nat) (op : Bop) (e : ME) (l₀ : Sl) (σ : Sg) (D : DS) (Q : Fl → Sg → DS → Prop) : wpS C (.aug x op e) (l₀ :: σ) D Q = (asSome (gv (l₀ :: σ) x) fun p => wpE C e (l₀ :: σ) D fun v D₁ => asInt p fun i => asInt v fun j => bin2 op (.int i) (.int j) fun r => Q .next ((l₀ :: σ).set x (.v r)) D₁) := rfl
theorem WU (x : Nat) (e : ME) (l₀ : Sl) (σ : Sg) (D : DS) (Q : Fl → Sg → DS → Prop) : wpS C (.app x e) (l₀ :: σ) D Q = (asSome (go (l₀ :: σ) x) fun xs => wpE C e (l₀ :: σ) D fun v D₁ => xs.length + 1 < lim ∧ Q .next ((l₀ :: σ).set x (.own (xs ++ [v]))) D₁) := rfl
theorem WV (x : Nat) (i : ME) (e : ME) (l₀ : Sl) (σ : Sg) (D : DS) (Q : Fl → Sg → DS → Prop) : wpS C (.seti x i e) (l₀ :: σ) D Q = (asSome (go (l₀ :: σ) x) fun xs => wpE C e (l₀ :: σ) D fun v D₁ => wpE C i (l₀ :: σ) D₁ fun k D₂ => asInt k fun k => (0 ≤ k ∧ k < xs.length) ∧ Q .next ((l₀ :: σ).set x (.own (xs.set k.toNat v))) D₂) := rfl
theorem WW (x : Nat) (i : Nat) (e : ME) (σ : Sg) (D : DS) (Q : Fl → Sg → DS → Prop) : wpS C (.setd x i e) σ D Q = (wpE C e σ D fun v D₁ => match gv σ x with
    | some .deal => i < D₁.length ∧ Q .next σ (D₁.set i v)
    | _ => False) := rfl
theorem WX (c : ME) (t : MSs) (e : MSs) (l₀ : Sl) (σ : Sg) (D : DS) (Q : Fl → Sg → DS → Prop) : wpS C (.ifS c t e) (l₀ :: σ) D Q = (wpE C c (l₀ :: σ) D fun v D₁ => asBool v fun b => whichB b (wpSs C t (l₀ :: σ) D₁ Q) (wpSs C e (l₀ :: σ) D₁ Q)) := rfl
theorem WY (c : ME) (b : MSs) (l₀ : Sl) (σ : Sg) (D : DS) (Q : Fl → Sg → DS → Prop) : wpS C (.whileS c b) (l₀ :: σ) D Q = (∃ n, whileW (wpE C c) (wpSs C b) n (l₀ :: σ) D Q) := rfl
theorem WZ (pat : MP) (it : MI) (b : MSs) (l₀ : Sl) (σ : Sg) (D : DS) (Q : Fl → Sg → DS → Prop) : wpS C (.forS pat it b) (l₀ :: σ) D Q = (wpI C it (l₀ :: σ) D fun xs D₁ => xs.length < lim ∧ forW pat (wpSs C b) xs (l₀ :: σ) D₁ Q) := rfl
theorem W0 (e : ME) (l₀ : Sl) (σ : Sg) (D : DS) (Q : Fl → Sg → DS → Prop) : wpS C (.ret e) (l₀ :: σ) D Q = (wpE C e (l₀ :: σ) D fun v D₁ => Q (.ret v) (l₀ :: σ) D₁) := rfl
theorem W1  (l₀ : Sl) (σ : Sg) (D : DS) (Q : Fl → Sg → DS → Prop) : wpS C .fail (l₀ :: σ) D Q = (False) := rfl
theorem W2  (l₀ : Sl) (σ : Sg) (D : DS) (Q : Fl → Sg → DS → Prop) : wpSs C .nil (l₀ :: σ) D Q = (Q .next (l₀ :: σ) D) := rfl
theorem W3 (s : MS) (r : MSs) (σ : Sg) (D : DS) (Q : Fl → Sg → DS → Prop) : wpSs C (.cons s r) σ D Q = (wpS C s σ D fun f σ' D' => match f with
    | .next => wpSs C r σ' D' Q
    | .ret v => Q (.ret v) σ' D') := rfl
theorem W4 (x : Nat) (r : MSs) (l₀ : Sl) (σ : Sg) (D : DS) (Q : Fl → Sg → DS → Prop) : wpSs C (.frz x r) (l₀ :: σ) D Q = (asSome (go (l₀ :: σ) x) fun xs => wpSs C r ((l₀ :: σ).set x (.v (.list xs))) D Q) := rfl
end
end Mine
end

section
open PySem PySem.W PyProof.Rows
namespace Mine
section
theorem asInt_mono {v : PV} {Q Q' : Int → Prop} (h : asInt v Q) (m : ∀ v, Q v → Q' v) : asInt v Q' := by cases v <;> first | exact m _ h | exact h
theorem asBool_mono {v : PV} {Q Q' : Bool → Prop} (h : asBool v Q) (m : ∀ v, Q v → Q' v) : asBool v Q' := by cases v <;> first | exact m _ h | exact h
theorem asList_mono {v : PV} {Q Q' : List PV → Prop} (h : asList v Q) (m : ∀ v, Q v → Q' v) : asList v Q' := by cases v <;> first | exact m _ h | exact h
theorem asSome_mono {α : Type} {v : Option α} {Q Q' : α → Prop} (h : asSome v Q) (m : ∀ v, Q v → Q' v) : asSome v Q' := by cases v <;> first | exact m _ h | exact h
theorem asFn_mono {v : Option PV} {Q Q' : Nat → Prop} (h : asFn v Q) (m : ∀ v, Q v → Q' v) : asFn v Q' := by
  cases v with
  | none => exact h
  | some p => cases p <;> first | exact m _ h | exact h
theorem asInt_inv {v : PV} {Q : Int → Prop} (h : asInt v Q) : ∃ i, v = .int i ∧ Q i := by cases v <;> first | exact ⟨_, rfl, h⟩ | exact h.elim
theorem asBool_inv {v : PV} {Q : Bool → Prop} (h : asBool v Q) : ∃ b, v = .bool b ∧ Q b := by cases v <;> first | exact ⟨_, rfl, h⟩ | exact h.elim
theorem asList_inv {v : PV} {Q : List PV → Prop} (h : asList v Q) : ∃ xs, v = .list xs ∧ Q xs := by cases v <;> first | exact ⟨_, rfl, h⟩ | exact h.elim
theorem asSome_inv {α : Type} {v : Option α} {Q : α → Prop} (h : asSome v Q) : ∃ x, v = some x ∧ Q x := by cases v <;> first | exact ⟨_, rfl, h⟩ | exact h.elim
theorem asFn_inv {v : Option PV} {Q : Nat → Prop} (h : asFn v Q) : ∃ k, v = some (.fn k) ∧ Q k := by
  cases v with
  | none => exact h.elim
  | some p => cases p <;> first | exact ⟨_, rfl, h⟩ | exact h.elim
theorem ii_inv {a b : PV} {Q : Int → Int → Prop} (h : ii a b Q) : ∃ x y, a = .int x ∧ b = .int y ∧ Q x y := by
  obtain ⟨x, ex, h1⟩ := asInt_inv h
  obtain ⟨y, ey, h2⟩ := asInt_inv h1
  exact ⟨x, y, ex, ey, h2⟩
theorem ii_mono {a b : PV} {Q Q' : Int → Int → Prop} (h : ii a b Q) (m : ∀ x y, Q x y → Q' x y) : ii a b Q' := asInt_mono h fun _ h => asInt_mono h fun _ h => m _ _ h
theorem bin2_mono {op : Bop} {a b : PV} {Q Q' : PV → Prop} (h : bin2 op a b Q) (m : ∀ v, Q v → Q' v) : bin2 op a b Q' := by
  cases op with
  | add => cases a with
    | int => exact asInt_mono h fun _ h => m _ h
    | list => exact asList_mono h fun _ h => ⟨h.1, m _ h.2⟩
    | _ => exact h
  | sub | band | bor => exact ii_mono h fun _ _ h => m _ h
  | _ => exact ii_mono h fun _ _ h => ⟨h.1, m _ h.2⟩
theorem eqQ_mono {a b : PV} {Q Q' : Bool → Prop} (h : eqQ a b Q) (m : ∀ v, Q v → Q' v) : eqQ a b Q' := by
  cases a with
  | int => exact asInt_mono h fun _ h => m _ h
  | list => exact asList_mono h fun _ h => asSome_mono h fun _ h => asSome_mono h fun _ h => m _ h
  | _ => exact h
theorem cmp2_mono {op : Cop} {a b : PV} {Q Q' : Bool → Prop} (h : cmp2 op a b Q) (m : ∀ v, Q v → Q' v) : cmp2 op a b Q' := by
  cases op with
  | eq => exact eqQ_mono h m
  | ne => exact eqQ_mono (Q := fun t => Q (!t)) h fun _ h => m _ h
  | _ => exact ii_mono h fun _ _ h => m _ h
theorem whichB_mono {b : Bool} {P P' Q Q' : Prop} (h : whichB b P Q) (m : P → P') (m' : Q → Q') : whichB b P' Q' := by cases b <;> first | exact m h | exact m' h
theorem bindP_mono {pat : MP} {v : PV} {σ : Sg} {k k' : Sg → Prop} (h : bindP pat v σ k) (m : ∀ σ, k σ → k' σ) : bindP pat v σ k' := by
  unfold bindP at h ⊢
  split at h
  · exact m _ h
  · split at h
    · exact m _ h
    · exact h
theorem compW_mono {f f' : PV → DS → (Option PV → DS → Prop) → Prop} (mf : ∀ x D k k', f x D k → (∀ o D', k o D' → k' o D') → f' x D k') : ∀ {xs : List PV} {D : DS} {acc : List PV} {Q Q' : List PV → DS → Prop},
    compW f xs D acc Q → (∀ ys D', Q ys D' → Q' ys D') → compW f' xs D acc Q'
  | [], _, _, _, _, h, m => m _ _ h
  | _ :: _, _, _, _, _, h, m => mf _ _ _ _ h fun _ _ h' => compW_mono mf h' m

variable {C : Nat → List PV → DS → (PV → DS → Prop) → Prop} (mc : ∀ k vs D Q Q', C k vs D Q → (∀ v D', Q v D' → Q' v D') → C k vs D Q')
include mc
mutual
theorem wpE_mono' : ∀ (me : ME) (σ : Sg) (D : DS) {Q Q' : PV → DS → Prop}, wpE C me σ D Q → (∀ v D', Q v D' → Q' v D') → wpE C me σ D Q'
  | .int _, _, _, _, _, h, m => m _ _ h
  | .bool _, _, _, _, _, h, m => m _ _ h
  | .var _, _, _, _, _, h, m => asSome_mono h fun _ h => m _ _ h
  | .fnv _, _, _, _, _, h, m => m _ _ h
  | .bin _ a b, σ, _, _, _, h, m => wpE_mono' a σ _ h fun _ _ h => wpE_mono' b σ _ h fun _ _ h => bin2_mono h fun _ h => m _ _ h
  | .neg a, σ, _, _, _, h, m => wpE_mono' a σ _ h fun _ _ h => asInt_mono h fun _ h => m _ _ h
  | .not a, σ, _, _, _, h, m => wpE_mono' a σ _ h fun _ _ h => asBool_mono h fun _ h => m _ _ h
  | .and a b, σ, _, _, _, h, m => wpE_mono' a σ _ h fun _ _ h => asBool_mono h fun _ h => whichB_mono h (fun h => wpE_mono' b σ _ h m) fun h => m _ _ h
  | .or a b, σ, _, _, _, h, m => wpE_mono' a σ _ h fun _ _ h => asBool_mono h fun _ h => whichB_mono h (fun h => m _ _ h) fun h => wpE_mono' b σ _ h m
  | .ite c a b, σ, _, _, _, h, m => wpE_mono' c σ _ h fun _ _ h => asBool_mono h fun _ h => whichB_mono h (fun h => wpE_mono' a σ _ h m) fun h => wpE_mono' b σ _ h m
  | .cmp _ a b, σ, _, _, _, h, m => wpE_mono' a σ _ h fun _ _ h => wpE_mono' b σ _ h fun _ _ h => cmp2_mono h fun _ h => m _ _ h
  | .chain _ _ a b c, σ, _, _, _, h, m => wpE_mono' a σ _ h fun _ _ h => wpE_mono' b σ _ h fun _ _ h => cmp2_mono h fun _ h => whichB_mono h (fun h => wpE_mono' c σ _ h fun _ _ h => cmp2_mono h fun _ h => m _ _ h) fun h => m _ _ h
  | .call _ as, σ, _, _, _, h, m => wpEs_mono' as σ _ h fun _ _ h => mc _ _ _ _ _ h m
  | .callv _ as, σ, _, _, _, h, m => asFn_mono h fun _ h => wpEs_mono' as σ _ h fun _ _ h => mc _ _ _ _ _ h m
  | .lenv _, _, _, _, _, h, m => asSome_mono h fun _ h => m _ _ h
  | .len a, σ, _, _, _, h, m => wpE_mono' a σ _ h fun _ _ h => asList_mono h fun _ h => m _ _ h
  | .abs a, σ, _, _, _, h, m => wpE_mono' a σ _ h fun _ _ h => asInt_mono h fun _ h => m _ _ h
  | .toInt a, σ, _, _, _, h, m => wpE_mono' a σ _ h fun _ _ h => asInt_mono h fun _ h => m _ _ h
  | .sum a, σ, _, _, _, h, m => wpE_mono' a σ _ h fun _ _ h => asList_mono h fun _ h => asSome_mono h fun _ h => m _ _ h
  | .bitlen a, σ, _, _, _, h, m => wpE_mono' a σ _ h fun _ _ h => asInt_mono h fun _ h => m _ _ h
  | .idxv _ i, σ, _, _, _, h, m => asSome_mono h fun _ h => wpE_mono' i σ _ h fun _ _ h => asInt_mono h fun _ h => asSome_mono h fun _ h => asSome_mono h fun _ h => asSome_mono h fun _ h => m _ _ h
  | .idx a i, σ, _, _, _, h, m => wpE_mono' a σ _ h fun _ _ h => wpE_mono' i σ _ h fun _ _ h => asInt_mono h fun _ h => asList_mono h fun _ h => asSome_mono h fun _ h => asSome_mono h fun _ h => m _ _ h
  | .sliceTo _ e, σ, _, _, _, h, m => asSome_mono h fun _ h => wpE_mono' e σ _ h fun _ _ h => asInt_mono h fun _ h => ⟨h.1, m _ _ h.2⟩
  | .sliceAll _, _, _, _, _, h, m => asSome_mono h fun _ h => m _ _ h
  | .sliceRev _, _, _, _, _, h, m => asSome_mono h fun _ h => m _ _ h
  | .list es, σ, _, _, _, h, m => wpEs_mono' es σ _ h fun _ _ h => ⟨h.1, m _ _ h.2⟩
  | .rep a n, σ, _, _, _, h, m => wpE_mono' a σ _ h fun _ _ h => wpE_mono' n σ _ h fun _ _ h => asInt_mono h fun _ h => ⟨h.1, m _ _ h.2⟩
  | .tup es, σ, _, _, _, h, m => wpEs_mono' es σ _ h fun _ _ h => ⟨h.1, m _ _ h.2⟩
  | .comp elt pat it, σ, _, _, _, h, m => by
    refine wpI_mono' it σ _ h fun _ _ h => ⟨h.1, compW_mono ?_ h.2 fun _ _ h => m _ _ h⟩
    intro x D k k' h mk
    exact bindP_mono h fun σ' h => wpE_mono' elt σ' _ h fun _ _ h => mk _ _ h
  | .compIf elt pat it cd, σ, _, _, _, h, m => by
    refine wpI_mono' it σ _ h fun _ _ h => ⟨h.1, compW_mono ?_ h.2 fun _ _ h => m _ _ h⟩
    intro x D k k' h mk
    exact bindP_mono h fun σ' h => wpE_mono' cd σ' _ h fun _ _ h => asBool_mono h fun _ h => whichB_mono h (fun h => wpE_mono' elt σ' _ h fun _ _ h => mk _ _ h) fun h => mk _ _ h
theorem wpEs_mono' : ∀ (mes : MEs) (σ : Sg) (D : DS) {Q Q' : List PV → DS → Prop}, wpEs C mes σ D Q → (∀ v D', Q v D' → Q' v D') → wpEs C mes σ D Q'
  | .nil, _, _, _, _, h, m => m _ _ h
  | .cons e r, σ, _, _, _, h, m => wpE_mono' e σ _ h fun _ _ h => wpEs_mono' r σ _ h fun _ _ h => m _ _ h
theorem wpI_mono' : ∀ (mi : MI) (σ : Sg) (D : DS) {Q Q' : List PV → DS → Prop}, wpI C mi σ D Q → (∀ v D', Q v D' → Q' v D') → wpI C mi σ D Q'
  | .of e, σ, _, _, _, h, m => by
    refine wpE_mono' e σ _ h fun v _ h => ?_
    cases v <;> first | exact m _ _ h | exact h
  | .range1 a, σ, _, _, _, h, m => wpE_mono' a σ _ h fun _ _ h => asInt_mono h fun _ h => ⟨h.1, m _ _ h.2⟩
  | .range2 a b, σ, _, _, _, h, m => wpE_mono' a σ _ h fun _ _ h => wpE_mono' b σ _ h fun _ _ h => asInt_mono h fun _ h => asInt_mono h fun _ h => ⟨h.1, m _ _ h.2⟩
  | .range3 a b c, σ, _, _, _, h, m => wpE_mono' a σ _ h fun _ _ h => wpE_mono' b σ _ h fun _ _ h => wpE_mono' c σ _ h fun _ _ h => asInt_mono h fun _ h => asInt_mono h fun _ h => asInt_mono h fun _ h => ⟨h.1, m _ _ h.2⟩
  | .enum e, σ, _, _, _, h, m => wpE_mono' e σ _ h fun _ _ h => asList_mono h fun _ h => m _ _ h
  | .zip a b, σ, _, _, _, h, m => wpE_mono' a σ _ h fun _ _ h => wpE_mono' b σ _ h fun _ _ h => asList_mono h fun _ h => asList_mono h fun _ h => m _ _ h
end
end
end Mine
end

section
open PySem PySem.W PyProof.Rows
namespace Mine

noncomputable abbrev Frz := Addr → Option Obj

mutual
inductive Rep (d : Option Addr) (fa : Nat → Addr) (S : Frz) : Value → PV → Prop
  | int (i : Int) (t : Tok) : Rep d fa S (.int i t) (.int i)
  | bool (b : Bool) : Rep d fa S (.bool b) (.bool b)
  | list {a : Addr} {o : Obj} {vs : List Value} {n : Nat} {xs : List PV} : S a = some o → o.cls = .type "list" → o.data = .seq vs.toArray n → xs.length < lim → Reps d fa S vs xs → Rep d fa S (.ref a) (.list xs)
  | tup {a : Addr} {o : Obj} {vs : List Value} {n : Nat} {xs : List PV} : S a = some o → o.cls = .type "tuple" → o.data = .seq vs.toArray n → xs.length < lim → Reps d fa S vs xs → Rep d fa S (.ref a) (.tup xs)
  | fn (k : Nat) : Rep d fa S (.ref (fa k)) (.fn k)
  | deal {a : Addr} : d = some a → Rep d fa S (.ref a) .deal
inductive Reps (d : Option Addr) (fa : Nat → Addr) (S : Frz) : List Value → List PV → Prop
  | nil : Reps d fa S [] []
  | cons {v : Value} {p : PV} {vs : List Value} {ps : List PV} : Rep d fa S v p → Reps d fa S vs ps → Reps d fa S (v :: vs) (p :: ps)
end

noncomputable def Le (S S' : Frz) : Prop := ∀ a o, S a = some o → S' a = some o
noncomputable def Sub (S : Frz) (h : Heap) : Prop := ∀ a o, S a = some o → h.get? a = some o
theorem Le.refl (S : Frz) : Le S S := fun _ _ e => e
theorem Le.trans {S₁ S₂ S₃ : Frz} (x : Le S₁ S₂) (y : Le S₂ S₃) : Le S₁ S₃ := fun a o e => y a o (x a o e)

section
variable {d : Option Addr} {fa : Nat → Addr} {S S' : Frz}
theorem Rep.mono (m : Le S S') {v : Value} {p : PV} (h : Rep d fa S v p) : Rep d fa S' v p :=
  Rep.rec (motive_1 := fun v p _ => Rep d fa S' v p) (motive_2 := fun vs ps _ => Reps d fa S' vs ps) (fun i t => .int i t) (fun b => .bool b) (fun h1 h2 h3 h4 _ h => .list (m _ _ h1) h2 h3 h4 h) (fun h1 h2 h3 h4 _ h => .tup (m _ _ h1) h2 h3 h4 h) (fun k => .fn k) (fun h => .deal h) .nil (fun _ _ x y => .cons x y) h
/-- item by item -/
theorem Reps.ind {M : List Value → List PV → Prop} (n : M [] []) (c : ∀ {v p vs ps}, Rep d fa S v p → M vs ps → M (v :: vs) (p :: ps)) {vs : List Value} {ps : List PV} (h : Reps d fa S vs ps) : M vs ps :=
  Reps.rec (motive_1 := fun _ _ _ => True) (motive_2 := fun vs ps _ => M vs ps) (fun _ _ => trivial) (fun _ => trivial) (fun _ _ _ _ _ _ => trivial) (fun _ _ _ _ _ _ => trivial) (fun _ => trivial) (fun _ => trivial) n (fun x _ _ y => c x y) h
theorem Reps.mono (m : Le S S') {vs : List Value} {ps : List PV} (h : Reps d fa S vs ps) : Reps d fa S' vs ps := h.ind .nil fun x y => .cons (x.mono m) y
theorem Reps.length {vs : List Value} {ps : List PV} (h : Reps d fa S vs ps) : vs.length = ps.length := h.ind (M := fun vs ps => vs.length = ps.length) rfl fun _ y => congrArg (· + 1) y
theorem Reps.get {vs : List Value} {ps : List PV} {i : Nat} {p : PV} (h : Reps d fa S vs ps) : ps[i]? = some p → ∃ v, vs[i]? = some v ∧ Rep d fa S v p :=
  h.ind (M := fun vs ps => ∀ {i : Nat} {p : PV}, ps[i]? = some p → ∃ v, vs[i]? = some v ∧ Rep d fa S v p) (fun e => nomatch e) fun x y => by
    intro i p e
    cases i with
    | zero => cases e; exact ⟨_, rfl, x⟩
    | succ i => exact y (i := i) e
theorem Reps.getV {vs : List Value} {ps : List PV} {i : Nat} {v : Value} (h : Reps d fa S vs ps) : vs[i]? = some v → ∃ p, ps[i]? = some p ∧ Rep d fa S v p :=
  h.ind (M := fun vs ps => ∀ {i : Nat} {v : Value}, vs[i]? = some v → ∃ p, ps[i]? = some p ∧ Rep d fa S v p) (fun e => nomatch e) fun x y => by
    intro i p e
    cases i with
    | zero => cases e; exact ⟨_, rfl, x⟩
    | succ i => exact y (i := i) e
theorem Reps.append {vs ws : List Value} {ps qs : List PV} (h : Reps d fa S vs ps) (k : Reps d fa S ws qs) : Reps d fa S (vs ++ ws) (ps ++ qs) := h.ind (M := fun vs ps => Reps d fa S (vs ++ ws) (ps ++ qs)) k fun x y => .cons x y
theorem Reps.snoc {vs : List Value} {ps : List PV} {v : Value} {p : PV} (x : Reps d fa S vs ps) (y : Rep d fa S v p) : Reps d fa S (vs ++ [v]) (ps ++ [p]) := x.append (.cons y .nil)
theorem Reps.take {vs : List Value} {ps : List PV} (n : Nat) (h : Reps d fa S vs ps) : Reps d fa S (vs.take n) (ps.take n) :=
  h.ind (M := fun vs ps => ∀ n, Reps d fa S (vs.take n) (ps.take n)) (fun n => by cases n <;> exact .nil) (fun x y n => by
    cases n with
    | zero => exact .nil
    | succ n => exact .cons x (y n)) n
theorem Reps.set {vs : List Value} {ps : List PV} {v : Value} {p : PV} (n : Nat) (h : Reps d fa S vs ps) (k : Rep d fa S v p) : Reps d fa S (vs.set n v) (ps.set n p) := by
  suffices ∀ n, Reps d fa S (vs.set n v) (ps.set n p) from this n
  refine Reps.rec (motive_1 := fun _ _ _ => True) (motive_2 := fun vs ps _ => ∀ n, Reps d fa S (vs.set n v) (ps.set n p)) (fun _ _ => trivial) (fun _ => trivial) (fun _ _ _ _ _ _ => trivial) (fun _ _ _ _ _ _ => trivial) (fun _ => trivial) (fun _ => trivial) (fun _ => .nil) (fun x r _ y n => ?_) h
  cases n with
  | zero => exact .cons k r
  | succ n => exact .cons x (y n)
theorem Reps.reverse {vs : List Value} {ps : List PV} (h : Reps d fa S vs ps) : Reps d fa S vs.reverse ps.reverse := h.ind (M := fun vs ps => Reps d fa S vs.reverse ps.reverse) .nil fun x y => by rw [List.reverse_cons, List.reverse_cons]; exact y.snoc x
theorem Reps.replicate {v : Value} {p : PV} (y : Rep d fa S v p) : ∀ n : Nat, Reps d fa S (List.replicate n v) (List.replicate n p)
  | 0 => .nil
  | n + 1 => .cons y (Reps.replicate y n)
theorem Reps.zip : ∀ {vs ws : List Value} {ps qs : List PV}, Reps d fa S vs ps → Reps d fa S ws qs → (vs.zip ws).length = (ps.zip qs).length := fun x y => by
  rw [List.length_zip, List.length_zip, x.length, y.length]
theorem Reps.ints {vs : List Value} {ps : List PV} {ns : List Int} (h : Reps d fa S vs ps) : intsOf ps = some ns → IntsAre vs ns :=
  h.ind (M := fun vs ps => ∀ {ns : List Int}, intsOf ps = some ns → IntsAre vs ns) (fun e => by cases e; exact .nil) (by
    intro v p vs ps x y ns e
    cases p with
    | int i =>
      obtain ⟨ms, e1, rfl⟩ := Option.map_eq_some_iff.mp (show (intsOf ps).map (i :: ·) = some ns from e)
      obtain ⟨t, rfl⟩ : ∃ t, v = .int i t := by cases x; exact ⟨_, rfl⟩
      exact .cons _ _ (y e1)
    | _ => exact nomatch (show none = some ns from e))
theorem Rep.int_inv {v : Value} {i : Int} (x : Rep d fa S v (.int i)) : ∃ t, v = .int i t := by cases x; exact ⟨_, rfl⟩
theorem Rep.bool_inv {v : Value} {b : Bool} (x : Rep d fa S v (.bool b)) : v = .bool b := by cases x; rfl
end

structure Ext (d : Option Addr) (S : Frz) (h : Heap) (S' : Frz) (h' : Heap) : Prop where
  mono : Le S S'
  sub : Sub S' h'
  fresh : ∀ a o, S' a = some o → S a = some o ∨ h.get? a = none
  keep : ∀ a o, some a ≠ d → h.get? a = some o → h'.get? a = some o
  dom : ∀ a, h'.get? a = none → h.get? a = none

theorem Ext.refl {d : Option Addr} {S : Frz} {h : Heap} (x : Sub S h) : Ext d S h S h := ⟨Le.refl S, x, fun _ _ e => .inl e, fun _ _ _ e => e, fun _ e => e⟩
theorem Ext.trans {d : Option Addr} {S₁ S₂ S₃ : Frz} {h₁ h₂ h₃ : Heap} (x : Ext d S₁ h₁ S₂ h₂) (y : Ext d S₂ h₂ S₃ h₃) : Ext d S₁ h₁ S₃ h₃ :=
  ⟨x.mono.trans y.mono, y.sub, fun a o e => by
    rcases y.fresh a o e with e | e
    · exact x.fresh a o e
    · exact .inr (x.dom a e), fun a o n e => y.keep a o n (x.keep a o n e), fun a e => x.dom a (y.dom a e)⟩

theorem none_of_size {h : Heap} {a : Addr} (e : h.objs.size ≤ a) : h.get? a = none := by
  cases q : h.get? a with
  | none => rfl
  | some o => exact absurd (Heap.lt_size q) (Nat.not_lt.mpr e)

/-- a heap that only grew -/
noncomputable def Grew (h h' : Heap) : Prop := ∀ a o, h.get? a = some o → h'.get? a = some o
theorem Grew.dom {h h' : Heap} (g : Grew h h') : ∀ a, h'.get? a = none → h.get? a = none := fun a e => by
  cases q : h.get? a with
  | none => rfl
  | some o => rw [g a o q] at e; cases e
theorem Ext.of_grew {d : Option Addr} {S : Frz} {h h' : Heap} (x : Sub S h) (g : Grew h h') : Ext d S h S h' :=
  ⟨Le.refl S, fun a o e => g a o (x a o e), fun _ _ e => .inl e, fun a o _ e => g a o e, g.dom⟩
theorem Grew.push (h : Heap) (o : Obj) : Grew h (h.push o) := fun _ _ e => Heap.get?_push_of_some _ e
theorem Grew.trans {h₁ h₂ h₃ : Heap} (x : Grew h₁ h₂) (y : Grew h₂ h₃) : Grew h₁ h₃ := fun a o e => y a o (x a o e)

/-- one more object frozen -/
noncomputable def Frz.add (S : Frz) (a : Addr) (o : Obj) : Frz := fun b => if b = a then some o else S b
theorem Frz.add_self (S : Frz) (a : Addr) (o : Obj) : S.add a o a = some o := by simp [Frz.add]
theorem Frz.add_le {S : Frz} {a : Addr} {o : Obj} (e : S a = none) : Le S (S.add a o) := fun b o' h => by
  unfold Frz.add
  by_cases q : b = a
  · subst q; rw [e] at h; cases h
  · rw [if_neg q]; exact h
theorem Frz.add_inv {S : Frz} {a b : Addr} {o o' : Obj} (h : S.add a o b = some o') : (b = a ∧ o' = o) ∨ S b = some o' := by
  unfold Frz.add at h
  by_cases q : b = a
  · rw [if_pos q] at h; exact .inl ⟨q, (Option.some.inj h).symm⟩
  · rw [if_neg q] at h; exact .inr h

theorem Ext.freeze {d : Option Addr} {S : Frz} {h h' : Heap} {S' : Frz} {a : Addr} {o : Obj} (x : Ext d S h S' h') (e : h'.get? a = some o) (n : S' a = none) (f : h.get? a = none) : Ext d S h (S'.add a o) h' :=
  ⟨x.mono.trans (Frz.add_le n), fun b o' q => by
    rcases Frz.add_inv q with ⟨rfl, rfl⟩ | q
    · exact e
    · exact x.sub b o' q, fun b o' q => by
    rcases Frz.add_inv q with ⟨rfl, rfl⟩ | q
    · exact .inr f
    · exact x.fresh b o' q, x.keep, x.dom⟩

noncomputable def DealAt (d : Option Addr) (fa : Nat → Addr) (D : DS) (S : Frz) (h : Heap) : Prop :=
  ∀ a, d = some a → S a = none ∧ D.length < lim ∧ ∃ vs n o, h.get? a = some o ∧ o.cls = .type "list" ∧ o.data = .seq (vs : List Value).toArray n ∧ Reps d fa S vs D

theorem DealAt.ext {d : Option Addr} {fa : Nat → Addr} {D : DS} {S S' : Frz} {h h' : Heap} (x : DealAt d fa D S h) (e : Ext d S h S' h') (k : ∀ a o, d = some a → h.get? a = some o → h'.get? a = some o) : DealAt d fa D S' h' := fun a q => by
  obtain ⟨n, l, vs, k', o, h1, h2, h3, h4⟩ := x a q
  refine ⟨?_, l, vs, k', o, k a o q h1, h2, h3, h4.mono e.mono⟩
  cases z : S' a with
  | none => rfl
  | some o' =>
    rcases e.fresh a o' z with z | z
    · rw [n] at z; cases z
    · rw [h1] at z; cases z
theorem DealAt.grew {d : Option Addr} {fa : Nat → Addr} {D : DS} {S : Frz} {h h' : Heap} (x : DealAt d fa D S h) (g : Grew h h') : DealAt d fa D S h' := fun a q => by
  obtain ⟨n, l, vs, k', o, h1, h2, h3, h4⟩ := x a q
  exact ⟨n, l, vs, k', o, g a o h1, h2, h3, h4⟩
theorem DealAt.freeze {d : Option Addr} {fa : Nat → Addr} {D : DS} {S : Frz} {h : Heap} {a : Addr} {o : Obj} (x : DealAt d fa D S h) (n : S a = none) (q : some a ≠ d) : DealAt d fa D (S.add a o) h := fun b e => by
  obtain ⟨n', l, vs, k', o', h1, h2, h3, h4⟩ := x b e
  refine ⟨?_, l, vs, k', o', h1, h2, h3, h4.mono (Frz.add_le n)⟩
  unfold Frz.add
  by_cases z : b = a
  · subst z; exact absurd e.symm q
  · rw [if_neg z]; exact n'

/-- the room left for frames and C units -/
structure Room (A : Around) (N : Nat) : Prop where
  handled : A.handled = none
  depth : A.depth + 2 * N + 10 < recursionLimit
  units : A.units + 8 * N + 300 < cLine

theorem Room.less {A : Around} {N M : Nat} (r : Room A N) (h : M ≤ N) : Room A M := ⟨r.handled, by have := r.depth; omega, by have := r.units; omega⟩
theorem Room.deeper {A : Around} {N : Nat} (r : Room A (N + 1)) (env : Env) : Room (A.deeper env) N :=
  ⟨r.handled, by have := r.depth; show A.depth + 1 + 2 * N + 10 < recursionLimit; omega, by have := r.units; show A.units + 3 + 8 * N + 300 < cLine; omega⟩

section
variable (prog : Program) (w : World) (G0 : Frz) (d : Option Addr) (fa : Nat → Addr)

/-- what a step hands on -/
noncomputable def Post (S : Frz) (s : Shared) (Q : PV → DS → Prop) (R : Value → Shared → Prop) : Prop :=
  ∀ v p S' D' h' tk', Ext d S s.heap S' h' → DealAt d fa D' S' h' → Rep d fa S' v p → Q p D' → R v { s with heap := h', toks := tk' }

noncomputable def CallOK (N : Nat) (k : Nat) (args : List PV) (D : DS) (Q : PV → DS → Prop) : Prop :=
  ∀ (A : Around) (S : Frz) (s : Shared) (vs : List Value) (R : Value → Shared → Prop), Room A N → Le G0 S → Sub S s.heap → DealAt d fa D S s.heap → Reps d fa S vs args →
    Post d fa S s Q R → wpAny (model prog w) A (call (.ref (fa k)) vs []) R (fun _ _ => False) s
end

theorem CallOK.mono {prog : Program} {w : World} {G0 : Frz} {d : Option Addr} {fa : Nat → Addr} {N M k : Nat} {args : List PV} {D : DS} {Q Q' : PV → DS → Prop}
    (h : CallOK prog w G0 d fa N k args D Q) (hN : N ≤ M) (hQ : ∀ p D, Q p D → Q' p D) : CallOK prog w G0 d fa M k args D Q' :=
  fun A S s vs R r g sb da rs post => h A S s vs R (r.less hN) g sb da rs fun v p S' D' h' tk' e da' rp q => post v p S' D' h' tk' e da' rp (hQ p D' q)
end Mine
end

section
open PySem PySem.W PyProof.Rows
namespace Mine

/-- what the checker knows: the names of the letters, the letters in sight, the kinds of the block's names, the names of the defs -/
structure Cx where
  nm : List Str
  vis : List Nat
  ks : List (Str × NameKind)
  fs : List Str

noncomputable def Cx.isVar (c : Cx) (x : Nat) (id : Str) : Bool := c.vis.contains x && (c.nm[x]? == some id && ((c.ks.lookup id == some .local || c.ks.lookup id == some .cell) && !(id == ("__debug__" : Str))))
noncomputable def Cx.isFn (c : Cx) (k : Nat) (id : Str) : Bool := c.fs[k]? == some id && (c.ks.lookup id == some .globalImplicit && !(id == ("__debug__" : Str)))
noncomputable def Cx.isGlob (c : Cx) (id nm : Str) : Bool := id == nm && (c.ks.lookup id == some .globalImplicit && !(id == ("__debug__" : Str)))

noncomputable def opOf : Bop → Operator
  | .add => .Add | .sub => .Sub | .mul => .Mult | .fdiv => .FloorDiv | .mod => .Mod | .pow => .Pow | .band => .BitAnd | .bor => .BitOr | .shl => .LShift | .shr => .RShift
noncomputable def cpOf : Cop → CmpOp
  | .eq => .Eq | .ne => .NotEq | .lt => .Lt | .le => .LtE | .gt => .Gt | .ge => .GtE

theorem no {P : Prop} (h : false = true) : P := (Bool.false_ne_true h).elim
theorem an {a b : Bool} (h : (a && b) = true) : a = true ∧ b = true := by cases a <;> cases b <;> first | exact ⟨rfl, rfl⟩ | exact no h
theorem orr {a b : Bool} (h : (a || b) = true) : a = true ∨ b = true := by cases a <;> cases b <;> first | exact .inl rfl | exact .inr rfl | exact no h

-- shapes: each a test of one constructor, with its one way out
noncomputable def l0 {α : Type} : List α → Bool
  | [] => true | _ => false
noncomputable def lc {α : Type} (f : α → List α → Bool) : List α → Bool
  | x :: r => f x r | _ => false
noncomputable def l1 {α : Type} (f : α → Bool) : List α → Bool := lc fun x r => l0 r && f x
noncomputable def l2 {α : Type} (f : α → α → Bool) : List α → Bool := lc fun x => l1 (f x)
noncomputable def l3 {α : Type} (f : α → α → α → Bool) : List α → Bool := lc fun x => l2 (f x)
noncomputable def o0 {α : Type} : Option α → Bool
  | none => true | _ => false
noncomputable def o1 {α : Type} (f : α → Bool) : Option α → Bool
  | some x => f x | _ => false
section
variable {α : Type} {P : List α → Prop} {xs : List α}
theorem l0_e (h : l0 xs = true) (k : P []) : P xs := by cases xs with | nil => exact k | cons _ _ => exact no h
theorem lc_e {f : α → List α → Bool} (h : lc f xs = true) (k : ∀ x r, f x r = true → P (x :: r)) : P xs := by cases xs with | nil => exact no h | cons x r => exact k x r h
theorem l1_e {f : α → Bool} (h : l1 f xs = true) (k : ∀ x, f x = true → P [x]) : P xs := lc_e h fun x r h => l0_e (P := fun r => P (x :: r)) (an h).1 (k x (an h).2)
theorem l2_e {f : α → α → Bool} (h : l2 f xs = true) (k : ∀ x y, f x y = true → P [x, y]) : P xs := lc_e h fun x r h => l1_e (P := fun r => P (x :: r)) h fun y h => k x y h
theorem l3_e {f : α → α → α → Bool} (h : l3 f xs = true) (k : ∀ x y z, f x y z = true → P [x, y, z]) : P xs := lc_e h fun x r h => l2_e (P := fun r => P (x :: r)) h fun y z h => k x y z h
variable {Q : Option α → Prop} {o : Option α}
theorem o0_e (h : o0 o = true) (k : Q none) : Q o := by cases o with | none => exact k | some _ => exact no h
theorem o1_e {f : α → Bool} (h : o1 f o = true) (k : ∀ x, f x = true → Q (some x)) : Q o := by cases o with | none => exact no h | some x => exact k x h
end
/-- a test for each constructor; the rest are refused -/
noncomputable def xAll (e : Expr) (tConstant : Const → Nat → Pos → Bool := fun _ _ _ => false) (tName : Str → Pos → Bool := fun _ _ => false) (tBinOp : Expr → Operator → Expr → Pos → Bool := fun _ _ _ _ => false) (tUnaryOp : UnaryOp → Expr → Pos → Bool := fun _ _ _ => false) (tBoolOp : BoolOp → List Expr → Pos → Bool := fun _ _ _ => false) (tIfExp : Expr → Expr → Expr → Pos → Bool := fun _ _ _ _ => false) (tCompare : Expr → List CmpOp → List Expr → Pos → Bool := fun _ _ _ _ => false) (tCall : Expr → List Expr → List Keyword → Pos → Bool := fun _ _ _ _ => false) (tAttribute : Expr → Str → Pos → Bool := fun _ _ _ => false) (tSubscript : Expr → Expr → Pos → Bool := fun _ _ _ => false) (tSlice : Option Expr → Option Expr → Option Expr → Pos → Bool := fun _ _ _ _ => false) (tList : List Expr → Pos → Bool := fun _ _ => false) (tTuple : List Expr → Nat → Pos → Bool := fun _ _ _ => false) (tListComp : Expr → List Comprehension → Scope → Pos → Bool := fun _ _ _ _ => false) : Bool := by
  cases e with
  | Constant v k p => exact tConstant v k p
  | Name id p => exact tName id p
  | BinOp l o r p => exact tBinOp l o r p
  | UnaryOp o x p => exact tUnaryOp o x p
  | BoolOp o x p => exact tBoolOp o x p
  | IfExp a b c p => exact tIfExp a b c p
  | Compare a b c p => exact tCompare a b c p
  | Call a b c p => exact tCall a b c p
  | Attribute a b p => exact tAttribute a b p
  | Subscript a b p => exact tSubscript a b p
  | Slice a b c p => exact tSlice a b c p
  | List a p => exact tList a p
  | Tuple a k p => exact tTuple a k p
  | ListComp a b c p => exact tListComp a b c p
  | _ => exact false
theorem xAll_e {P : Expr → Prop} {e : Expr} {tConstant : Const → Nat → Pos → Bool} {tName : Str → Pos → Bool} {tBinOp : Expr → Operator → Expr → Pos → Bool} {tUnaryOp : UnaryOp → Expr → Pos → Bool} {tBoolOp : BoolOp → List Expr → Pos → Bool} {tIfExp : Expr → Expr → Expr → Pos → Bool} {tCompare : Expr → List CmpOp → List Expr → Pos → Bool} {tCall : Expr → List Expr → List Keyword → Pos → Bool} {tAttribute : Expr → Str → Pos → Bool} {tSubscript : Expr → Expr → Pos → Bool} {tSlice : Option Expr → Option Expr → Option Expr → Pos → Bool} {tList : List Expr → Pos → Bool} {tTuple : List Expr → Nat → Pos → Bool} {tListComp : Expr → List Comprehension → Scope → Pos → Bool} (h : xAll e tConstant tName tBinOp tUnaryOp tBoolOp tIfExp tCompare tCall tAttribute tSubscript tSlice tList tTuple tListComp = true)
    (kConstant : ∀ v k p, tConstant v k p = true → P (.Constant v k p) := by exact fun _ _ _ h => no h)
    (kName : ∀ id p, tName id p = true → P (.Name id p) := by exact fun _ _ h => no h)
    (kBinOp : ∀ l o r p, tBinOp l o r p = true → P (.BinOp l o r p) := by exact fun _ _ _ _ h => no h)
    (kUnaryOp : ∀ o x p, tUnaryOp o x p = true → P (.UnaryOp o x p) := by exact fun _ _ _ h => no h)
    (kBoolOp : ∀ o x p, tBoolOp o x p = true → P (.BoolOp o x p) := by exact fun _ _ _ h => no h)
    (kIfExp : ∀ a b c p, tIfExp a b c p = true → P (.IfExp a b c p) := by exact fun _ _ _ _ h => no h)
    (kCompare : ∀ a b c p, tCompare a b c p = true → P (.Compare a b c p) := by exact fun _ _ _ _ h => no h)
    (kCall : ∀ a b c p, tCall a b c p = true → P (.Call a b c p) := by exact fun _ _ _ _ h => no h)
    (kAttribute : ∀ a b p, tAttribute a b p = true → P (.Attribute a b p) := by exact fun _ _ _ h => no h)
    (kSubscript : ∀ a b p, tSubscript a b p = true → P (.Subscript a b p) := by exact fun _ _ _ h => no h)
    (kSlice : ∀ a b c p, tSlice a b c p = true → P (.Slice a b c p) := by exact fun _ _ _ _ h => no h)
    (kList : ∀ a p, tList a p = true → P (.List a p) := by exact fun _ _ h => no h)
    (kTuple : ∀ a k p, tTuple a k p = true → P (.Tuple a k p) := by exact fun _ _ _ h => no h)
    (kListComp : ∀ a b c p, tListComp a b c p = true → P (.ListComp a b c p) := by exact fun _ _ _ _ h => no h) : P e := by
  cases e with
  | Constant v k p => exact kConstant v k p h
  | Name id p => exact kName id p h
  | BinOp l o r p => exact kBinOp l o r p h
  | UnaryOp o x p => exact kUnaryOp o x p h
  | BoolOp o x p => exact kBoolOp o x p h
  | IfExp a b c p => exact kIfExp a b c p h
  | Compare a b c p => exact kCompare a b c p h
  | Call a b c p => exact kCall a b c p h
  | Attribute a b p => exact kAttribute a b p h
  | Subscript a b p => exact kSubscript a b p h
  | Slice a b c p => exact kSlice a b c p h
  | List a p => exact kList a p h
  | Tuple a k p => exact kTuple a k p h
  | ListComp a b c p => exact kListComp a b c p h
  | _ => exact no h
noncomputable def xConst (f : Const → Bool) (e : Expr) : Bool := xAll e (tConstant := fun v _ _ => f v)
noncomputable def kInt (f : Int → Bool) : Const → Bool
  | .int i => f i | _ => false
noncomputable def kBool (f : Bool → Bool) : Const → Bool
  | .bool i => f i | _ => false
noncomputable def xName (f : Str → Bool) (e : Expr) : Bool := xAll e (tName := fun id _ => f id)
noncomputable def xBin (f : Expr → Operator → Expr → Bool) (e : Expr) : Bool := xAll e (tBinOp := fun l o r _ => f l o r)
noncomputable def xUn (f : UnaryOp → Expr → Bool) (e : Expr) : Bool := xAll e (tUnaryOp := fun o x _ => f o x)
noncomputable def xBo (f : BoolOp → List Expr → Bool) (e : Expr) : Bool := xAll e (tBoolOp := fun o x _ => f o x)
noncomputable def xIf (f : Expr → Expr → Expr → Bool) (e : Expr) : Bool := xAll e (tIfExp := fun a b c _ => f a b c)
noncomputable def xCmp (f : Expr → List CmpOp → List Expr → Bool) (e : Expr) : Bool := xAll e (tCompare := fun a b c _ => f a b c)
noncomputable def xCall (f : Expr → List Expr → List Keyword → Pos → Bool) (e : Expr) : Bool := xAll e (tCall := fun a b c p => f a b c p)
noncomputable def xAttr (f : Expr → Str → Pos → Bool) (e : Expr) : Bool := xAll e (tAttribute := fun a b p => f a b p)
noncomputable def xSub (f : Expr → Expr → Bool) (e : Expr) : Bool := xAll e (tSubscript := fun a b _ => f a b)
noncomputable def xSlice (f : Option Expr → Option Expr → Option Expr → Bool) (e : Expr) : Bool := xAll e (tSlice := fun a b c _ => f a b c)
noncomputable def xList (f : List Expr → Bool) (e : Expr) : Bool := xAll e (tList := fun a _ => f a)
noncomputable def xTup (f : List Expr → Bool) (e : Expr) : Bool := xAll e (tTuple := fun a _ _ => f a)
noncomputable def xComp (f : Expr → List Comprehension → Scope → Bool) (e : Expr) : Bool := xAll e (tListComp := fun a b c _ => f a b c)
noncomputable def xCallN (f : Str → List Expr → Bool) : Expr → Bool := xCall fun g as ks _ => l0 ks && xName (fun id => f id as) g
noncomputable def xMeth (f : Expr → Str → Pos → Pos → Bool) : Expr → Bool := xCall fun g as ks ps => l0 ks && (l0 as && xAttr (fun o n ap => f o n ap ps) g)
noncomputable def xSubN (f : Str → Expr → Bool) : Expr → Bool := xSub fun v sl => xName (fun id => f id sl) v
noncomputable def xGen (f : Expr → Expr → List Expr → Bool) : List Comprehension → Bool := l1 fun g => g.is_async == 0 && f g.target g.iter g.ifs
section
variable {P : Expr → Prop} {e : Expr}
theorem xConst_e {f : Const → Bool} (h : xConst f e = true) (q : ∀ v k p, f v = true → P (.Constant v k p)) : P e := xAll_e h (kConstant := q)
theorem kInt_e {P : Const → Prop} {v : Const} {f : Int → Bool} (h : kInt f v = true) (q : ∀ i, f i = true → P (.int i)) : P v := by cases v with | int i => exact q i h | _ => exact no h
theorem kBool_e {P : Const → Prop} {v : Const} {f : Bool → Bool} (h : kBool f v = true) (q : ∀ i, f i = true → P (.bool i)) : P v := by cases v with | bool i => exact q i h | _ => exact no h
theorem xName_e {f : Str → Bool} (h : xName f e = true) (q : ∀ id p, f id = true → P (.Name id p)) : P e := xAll_e h (kName := q)
theorem xBin_e {f : Expr → Operator → Expr → Bool} (h : xBin f e = true) (q : ∀ l o r p, f l o r = true → P (.BinOp l o r p)) : P e := xAll_e h (kBinOp := q)
theorem xUn_e {f : UnaryOp → Expr → Bool} (h : xUn f e = true) (q : ∀ o x p, f o x = true → P (.UnaryOp o x p)) : P e := xAll_e h (kUnaryOp := q)
theorem xBo_e {f : BoolOp → List Expr → Bool} (h : xBo f e = true) (q : ∀ o x p, f o x = true → P (.BoolOp o x p)) : P e := xAll_e h (kBoolOp := q)
theorem xIf_e {f : Expr → Expr → Expr → Bool} (h : xIf f e = true) (q : ∀ a b c p, f a b c = true → P (.IfExp a b c p)) : P e := xAll_e h (kIfExp := q)
theorem xCmp_e {f : Expr → List CmpOp → List Expr → Bool} (h : xCmp f e = true) (q : ∀ a b c p, f a b c = true → P (.Compare a b c p)) : P e := xAll_e h (kCompare := q)
theorem xCall_e {f : Expr → List Expr → List Keyword → Pos → Bool} (h : xCall f e = true) (q : ∀ a b c p, f a b c p = true → P (.Call a b c p)) : P e := xAll_e h (kCall := q)
theorem xAttr_e {f : Expr → Str → Pos → Bool} (h : xAttr f e = true) (q : ∀ a b p, f a b p = true → P (.Attribute a b p)) : P e := xAll_e h (kAttribute := q)
theorem xSub_e {f : Expr → Expr → Bool} (h : xSub f e = true) (q : ∀ a b p, f a b = true → P (.Subscript a b p)) : P e := xAll_e h (kSubscript := q)
theorem xSlice_e {f : Option Expr → Option Expr → Option Expr → Bool} (h : xSlice f e = true) (q : ∀ a b c p, f a b c = true → P (.Slice a b c p)) : P e := xAll_e h (kSlice := q)
theorem xList_e {f : List Expr → Bool} (h : xList f e = true) (q : ∀ a p, f a = true → P (.List a p)) : P e := xAll_e h (kList := q)
theorem xTup_e {f : List Expr → Bool} (h : xTup f e = true) (q : ∀ a k p, f a = true → P (.Tuple a k p)) : P e := xAll_e h (kTuple := q)
theorem xComp_e {f : Expr → List Comprehension → Scope → Bool} (h : xComp f e = true) (q : ∀ a b c p, f a b c = true → P (.ListComp a b c p)) : P e := xAll_e h (kListComp := q)
theorem xCallN_e {f : Str → List Expr → Bool} (h : xCallN f e = true) (q : ∀ id np as p, f id as = true → P (.Call (.Name id np) as [] p)) : P e :=
  xCall_e h fun g as ks p h => l0_e (P := fun ks => P (.Call g as ks p)) (an h).1 (xName_e (P := fun g => P (.Call g as [] p)) (an h).2 fun id np h => q id np as p h)
theorem xMeth_e {f : Expr → Str → Pos → Pos → Bool} (h : xMeth f e = true) (q : ∀ o n ap p, f o n ap p = true → P (.Call (.Attribute o n ap) [] [] p)) : P e :=
  xCall_e h fun g as ks p h => l0_e (P := fun ks => P (.Call g as ks p)) (an h).1 (l0_e (P := fun as => P (.Call g as [] p)) (an (an h).2).1 (xAttr_e (P := fun g => P (.Call g [] [] p)) (an (an h).2).2 fun o n ap h => q o n ap p h))
theorem xSubN_e {f : Str → Expr → Bool} (h : xSubN f e = true) (q : ∀ id np sl p, f id sl = true → P (.Subscript (.Name id np) sl p)) : P e :=
  xSub_e h fun v sl p h => xName_e (P := fun v => P (.Subscript v sl p)) h fun id np h => q id np sl p h
theorem xGen_e {P : List Comprehension → Prop} {gs : List Comprehension} {f : Expr → Expr → List Expr → Bool} (h : xGen f gs = true) (q : ∀ t i fs, f t i fs = true → P [⟨t, i, fs, 0⟩]) : P gs :=
  l1_e h fun g h => by
    obtain ⟨t, i, fs, n⟩ := g
    obtain rfl : n = 0 := eq_of_beq (an h).1
    exact q t i fs (an h).2
end
/-- a test for each constructor; the rest are refused -/
noncomputable def sAll (e : Stmt) (tAssign : List Expr → Expr → Pos → Bool := fun _ _ _ => false) (tAugAssign : Expr → Operator → Expr → Pos → Bool := fun _ _ _ _ => false) (tExpr : Expr → Pos → Bool := fun _ _ => false) (tIf : Expr → List Stmt → List Stmt → Pos → Bool := fun _ _ _ _ => false) (tWhile : Expr → List Stmt → List Stmt → Pos → Bool := fun _ _ _ _ => false) (tFor : Expr → Expr → List Stmt → List Stmt → Pos → Bool := fun _ _ _ _ _ => false) (tReturn : Option Expr → Pos → Bool := fun _ _ => false) : Bool := by
  cases e with
  | Assign a b p => exact tAssign a b p
  | AugAssign a b c p => exact tAugAssign a b c p
  | Expr a p => exact tExpr a p
  | If a b c p => exact tIf a b c p
  | While a b c p => exact tWhile a b c p
  | For a b c d p => exact tFor a b c d p
  | Return a p => exact tReturn a p
  | _ => exact false
theorem sAll_e {P : Stmt → Prop} {e : Stmt} {tAssign : List Expr → Expr → Pos → Bool} {tAugAssign : Expr → Operator → Expr → Pos → Bool} {tExpr : Expr → Pos → Bool} {tIf : Expr → List Stmt → List Stmt → Pos → Bool} {tWhile : Expr → List Stmt → List Stmt → Pos → Bool} {tFor : Expr → Expr → List Stmt → List Stmt → Pos → Bool} {tReturn : Option Expr → Pos → Bool} (h : sAll e tAssign tAugAssign tExpr tIf tWhile tFor tReturn = true)
    (kAssign : ∀ a b p, tAssign a b p = true → P (.Assign a b p) := by exact fun _ _ _ h => no h)
    (kAugAssign : ∀ a b c p, tAugAssign a b c p = true → P (.AugAssign a b c p) := by exact fun _ _ _ _ h => no h)
    (kExpr : ∀ a p, tExpr a p = true → P (.Expr a p) := by exact fun _ _ h => no h)
    (kIf : ∀ a b c p, tIf a b c p = true → P (.If a b c p) := by exact fun _ _ _ _ h => no h)
    (kWhile : ∀ a b c p, tWhile a b c p = true → P (.While a b c p) := by exact fun _ _ _ _ h => no h)
    (kFor : ∀ a b c d p, tFor a b c d p = true → P (.For a b c d p) := by exact fun _ _ _ _ _ h => no h)
    (kReturn : ∀ a p, tReturn a p = true → P (.Return a p) := by exact fun _ _ h => no h) : P e := by
  cases e with
  | Assign a b p => exact kAssign a b p h
  | AugAssign a b c p => exact kAugAssign a b c p h
  | Expr a p => exact kExpr a p h
  | If a b c p => exact kIf a b c p h
  | While a b c p => exact kWhile a b c p h
  | For a b c d p => exact kFor a b c d p h
  | Return a p => exact kReturn a p h
  | _ => exact no h
noncomputable def sAs (f : List Expr → Expr → Bool) (e : Stmt) : Bool := sAll e (tAssign := fun a b _ => f a b)
noncomputable def sAug (f : Expr → Operator → Expr → Bool) (e : Stmt) : Bool := sAll e (tAugAssign := fun a b c _ => f a b c)
noncomputable def sEx (f : Expr → Bool) (e : Stmt) : Bool := sAll e (tExpr := fun a _ => f a)
noncomputable def sIf (f : Expr → List Stmt → List Stmt → Bool) (e : Stmt) : Bool := sAll e (tIf := fun a b c _ => f a b c)
noncomputable def sWhile (f : Expr → List Stmt → Bool) (e : Stmt) : Bool := sAll e (tWhile := fun a b c _ => l0 c && f a b)
noncomputable def sFor (f : Expr → Expr → List Stmt → Bool) (e : Stmt) : Bool := sAll e (tFor := fun a b c d _ => l0 d && f a b c)
noncomputable def sRet (f : Expr → Bool) (e : Stmt) : Bool := sAll e (tReturn := fun a _ => o1 f a)
section
variable {P : Stmt → Prop} {s : Stmt}
theorem sAs_e {f : List Expr → Expr → Bool} (h : sAs f s = true) (q : ∀ ts v p, f ts v = true → P (.Assign ts v p)) : P s := sAll_e h (kAssign := q)
theorem sAug_e {f : Expr → Operator → Expr → Bool} (h : sAug f s = true) (q : ∀ t o v p, f t o v = true → P (.AugAssign t o v p)) : P s := sAll_e h (kAugAssign := q)
theorem sEx_e {f : Expr → Bool} (h : sEx f s = true) (q : ∀ e p, f e = true → P (.Expr e p)) : P s := sAll_e h (kExpr := q)
theorem sIf_e {f : Expr → List Stmt → List Stmt → Bool} (h : sIf f s = true) (q : ∀ a b c p, f a b c = true → P (.If a b c p)) : P s := sAll_e h (kIf := q)
theorem sWhile_e {f : Expr → List Stmt → Bool} (h : sWhile f s = true) (q : ∀ a b p, f a b = true → P (.While a b [] p)) : P s := sAll_e h (kWhile := fun a b c p h => l0_e (P := fun c => P (.While a b c p)) (an h).1 (q a b p (an h).2))
theorem sFor_e {f : Expr → Expr → List Stmt → Bool} (h : sFor f s = true) (q : ∀ a b c p, f a b c = true → P (.For a b c [] p)) : P s := sAll_e h (kFor := fun a b c d p h => l0_e (P := fun d => P (.For a b c d p)) (an h).1 (q a b c p (an h).2))
theorem sRet_e {f : Expr → Bool} (h : sRet f s = true) (q : ∀ v p, f v = true → P (.Return (some v) p)) : P s := sAll_e h (kReturn := fun v p h => o1_e (Q := fun v => P (.Return v p)) h fun v h => q v p h)
end

noncomputable def isMinusOne (u : Expr) : Bool :=
  xUn (fun o e => o == .USub && xConst (kInt fun i => i == 1) e) u || xBin (fun l o r => o == .Sub && (xConst (kInt fun i => i == 0) l && xConst (kInt fun j => j == 1) r)) u
noncomputable def plainBase (e : Expr) : Bool := xName (fun _ => true) e || (xSub (fun _ _ => true) e || xCall (fun _ as _ _ => lc (fun _ _ => true) as) e)

noncomputable def MP.vars : MP → List Nat
  | .one x => [x]
  | .two x y => [x, y]

noncomputable def relab (ks : List (Str × NameKind)) (names : List (Str × NameKind)) : List (Str × NameKind) :=
  names.map fun (n, k) => if (k == .free && ks.lookup n == some .cell) then (n, .cell) else (n, k)

noncomputable def Cx.inner (c : Cx) (scope : Scope) (pat : MP) : Cx :=
  { nm := c.nm, fs := c.fs, ks := relab c.ks scope.names,
    vis := (c.vis.filter fun x => match c.nm[x]? with | some n => scope.names.lookup n == some .free | none => false) ++ pat.vars }

noncomputable def Cx.inj (c : Cx) : Bool := c.vis.all fun x => c.vis.all fun y => x == y || c.nm[x]? != c.nm[y]?

noncomputable def Cx.scopeOk (c : Cx) (scope : Scope) (pat : MP) : Bool :=
  (scope.names.all fun y => y.2 != .cell) && (scope.kind == .function && ((scope.names.all fun y => y.2 != .local || scope.names.lookup y.1 == some .local) &&
  ((scope.names.all fun y => y.2 != .free || (c.ks.lookup y.1 == some .cell && scope.names.lookup y.1 == some .free)) &&
  ((c.inner scope pat).inj && ((pat.vars.all fun x => match c.nm[x]? with | some n => scope.names.lookup n == some .local | none => false) && (pat.vars.all fun x => !c.vis.contains x))))))

noncomputable def okP (c : Cx) : MP → Expr → Bool
  | .one x => xName fun id => c.isVar x id
  | .two x y => xTup (l2 fun a b => xName (fun a => xName (fun b => c.isVar x a && (c.isVar y b && x != y)) b) a)

noncomputable def MI.two (m : MI) : Bool := by
  cases m with
  | enum | zip => exact true
  | _ => exact false
noncomputable def shapeOk : MP → MI → Bool
  | .one _, m => !m.two
  | .two _ _, m => m.two

mutual
noncomputable def okE : ME → Cx → Expr → Bool
  | .int i, _ => xConst (kInt fun j => i == j)
  | .bool b, _ => xConst (kBool fun c => b == c)
  | .var x, c => xName fun id => c.isVar x id
  | .fnv k, c => xName fun id => c.isFn k id
  | .bin op a b, c => xBin fun l o r => o == opOf op && (okE a c l && okE b c r)
  | .neg a, c => xUn fun o e => o == .USub && okE a c e
  | .not a, c => xUn fun o e => o == .Not && okE a c e
  | .and a b, c => xBo fun o es => o == .And && l2 (fun e f => okE a c e && okE b c f) es
  | .or a b, c => xBo fun o es => o == .Or && l2 (fun e f => okE a c e && okE b c f) es
  | .ite t a b, c => xIf fun e f g => okE t c e && (okE a c f && okE b c g)
  | .cmp op a b, c => xCmp fun l os rs => l1 (fun o => l1 (fun r => o == cpOf op && (okE a c l && okE b c r)) rs) os
  | .chain o1 o2 a b e, c => xCmp fun l os rs => l2 (fun p1 p2 => l2 (fun r1 r2 => (p1 == cpOf o1 && p2 == cpOf o2) && (okE a c l && (okE b c r1 && okE e c r2))) rs) os
  | .call k as, c => xCallN fun id es => c.isFn k id && lc (fun e es => okEs as c (e :: es)) es
  | .callv x as, c => xCallN fun id es => c.isVar x id && lc (fun e es => okEs as c (e :: es)) es
  | .lenv x, c => xCallN fun id es => c.isGlob id "len" && l1 (xName fun v => c.isVar x v) es
  | .len a, c => xCallN fun id es => c.isGlob id "len" && l1 (fun e => okE a c e) es
  | .abs a, c => xCallN fun id es => c.isGlob id "abs" && l1 (fun e => okE a c e) es
  | .toInt a, c => xCallN fun id es => c.isGlob id "int" && l1 (fun e => okE a c e) es
  | .sum a, c => xCallN fun id es => c.isGlob id "sum" && l1 (fun e => okE a c e) es
  | .bitlen a, c => xMeth fun o n ap ps => (n == ("bit_length" : Str) && ap.endLine == ps.line) && (plainBase o && okE a c o)
  | .idxv x i, c => xSubN fun v sl => c.isVar x v && okE i c sl
  | .idx a i, c => xSub fun e sl => okE a c e && okE i c sl
  | .sliceTo x e, c => xSubN fun v => xSlice fun lo up st => o0 lo && (o0 st && o1 (fun u => c.isVar x v && okE e c u) up)
  | .sliceAll x, c => xSubN fun v => xSlice fun lo up st => o0 lo && (o0 st && (o0 up && c.isVar x v))
  | .sliceRev x, c => xSubN fun v => xSlice fun lo up st => o0 lo && (o0 up && o1 (fun u => c.isVar x v && isMinusOne u) st)
  | .list es, c => xList fun x => okEs es c x
  | .rep e n, c => xBin fun l o r => o == .Mult && xList (l1 fun x => okE e c x && okE n c r) l
  | .tup es, c => xTup fun x => okEs es c x
  | .comp elt pat it, c => xComp fun e gs scope => xGen (fun t i fs => l0 fs && ((c.scopeOk scope pat && shapeOk pat it) && (okI it c i && (okP (c.inner scope pat) pat t && okE elt (c.inner scope pat) e)))) gs
  | .compIf elt pat it cd, c => xComp fun e gs scope => xGen (fun t i fs => l1 (fun f => (c.scopeOk scope pat && shapeOk pat it) && (okI it c i && (okP (c.inner scope pat) pat t && (okE elt (c.inner scope pat) e && okE cd (c.inner scope pat) f)))) fs) gs
noncomputable def okEs : MEs → Cx → List Expr → Bool
  | .nil, _ => l0
  | .cons a r, c => lc fun e es => okE a c e && okEs r c es
noncomputable def okI : MI → Cx → Expr → Bool
  | .of a, c => fun e => okE a c e
  | .range1 a, c => xCallN fun id es => c.isGlob id "range" && l1 (fun e => okE a c e) es
  | .range2 a b, c => xCallN fun id es => c.isGlob id "range" && l2 (fun e f => okE a c e && okE b c f) es
  | .range3 a b d, c => xCallN fun id es => c.isGlob id "range" && l3 (fun e f g => okE a c e && (okE b c f && okE d c g)) es
  | .enum a, c => xCallN fun id es => c.isGlob id "enumerate" && l1 (fun e => okE a c e) es
  | .zip a b, c => xCallN fun id es => c.isGlob id "zip" && l2 (fun e f => okE a c e && okE b c f) es
end

noncomputable def augOk (op : Bop) : Bool := by
  cases op with
  | add | sub | bor | shr => exact true
  | _ => exact false
noncomputable def isFresh (me : ME) : Bool := by
  cases me with
  | list | rep | sliceAll => exact true
  | _ => exact false
noncomputable def okR : MR → Cx → Expr → Bool
  | .val a, c, e => okE a c e
  | .own a, c, e => isFresh a && okE a c e
noncomputable def okRs : MRs → Cx → List Expr → List Expr → Bool
  | .nil, _, ts, es => l0 ts && l0 es
  | .cons x r rs, c, ts, es => lc (fun t ts => lc (fun e es => xName (fun id => c.isVar x id && (okR r c e && okRs rs c ts es)) t) es) ts
noncomputable def MRs.xs : MRs → List Nat
  | .nil => []
  | .cons x _ r => x :: r.xs
noncomputable def isComp : Expr → Bool := xComp fun _ _ _ => true

mutual
noncomputable def okS : MS → Cx → Stmt → Bool
  | .asg x r, c => sAs fun ts v => l1 (xName fun id => c.isVar x id && okR r c v) ts
  | .asgT rs, c => sAs fun ts v => l1 (xTup fun ts => xTup (fun vs => (rs.xs.length == 2 || rs.xs.length == 3) && (rs.xs.eraseDups.length == rs.xs.length && (!(vs.all (constantsAlone 8)) && okRs rs c ts vs))) v) ts
  | .asgU x y e, c => sAs fun ts v => l1 (xTup (l2 fun a b => xName (fun a => xName (fun b => c.isVar x a && (c.isVar y b && (x != y && (isComp v && okE e c v)))) b) a)) ts
  | .aug x op e, c => sAug fun t o v => xName (fun id => (c.isVar x id && augOk op) && (o == opOf op && okE e c v)) t
  | .app x e, c => sEx (xCall fun g as ks ps => l0 ks && l1 (fun a => xAttr (fun o n ap => xName (fun id => c.isVar x id && ((n == ("append" : Str) && ap.endLine == ps.line) && okE e c a)) o) g) as)
  | .seti x i e, c => sAs fun ts v => l1 (xSubN fun id sl => c.isVar x id && (okE i c sl && okE e c v)) ts
  | .setd x i e, c => sAs fun ts v => l1 (xSubN fun id sl => xConst (kInt fun j => c.isVar x id && (j == (i : Int) && okE e c v)) sl) ts
  | .ifS a t e, c => sIf fun b x y => okE a c b && (okSs t c x && okSs e c y)
  | .whileS a b, c => sWhile fun t x => okE a c t && okSs b c x
  | .forS pat it b, c => sFor fun t i x => (okP c pat t && shapeOk pat it) && (okI it c i && okSs b c x)
  | .ret e, c => sRet fun v => okE e c v
  | .fail, _ => fun _ => true
noncomputable def okSs : MSs → Cx → List Stmt → Bool
  | .nil, _ => l0
  | .cons s r, c => lc fun st sts => okS s c st && okSs r c sts
  | .frz x r, c => fun sts => c.vis.contains x && okSs r c sts
end

/-- the globals that the text asks for -/
structure Globs (G0 : Frz) (fs : List Str) (fa : Nat → Addr) : Prop where
  nolimit : ∀ h, Sub G0 h → h.NoLimit
  names : ∃ mg mb, (∀ h, Sub G0 h → h.Ns mainGlobals mg) ∧ (∀ h, Sub G0 h → h.Ns builtinsNs mb) ∧ (∀ (k : Nat) (n : Str), fs[k]? = some n → mg n = some (.ref (fa k))) ∧
    (mg "len" = none ∧ mb "len" = some (.builtin "len")) ∧ (mg "abs" = none ∧ mb "abs" = some (.builtin "abs")) ∧ (mg "sum" = none ∧ mb "sum" = some (.builtin "sum")) ∧
    (mg "int" = none ∧ mb "int" = some (.type "int")) ∧ (mg "range" = none ∧ mb "range" = some (.type "range")) ∧ (mg "enumerate" = none ∧ mb "enumerate" = some (.type "enumerate")) ∧ (mg "zip" = none ∧ mb "zip" = some (.type "zip"))
  isfn : ∀ (k : Nat) (n : Str), fs[k]? = some n → ∃ o fd, G0 (fa k) = some o ∧ o.data = .func fd

/-- what a block's frame is -/
structure EnvOK (c : Cx) (env : Env) : Prop where
  kind : env.scope.kind = .function
  names : env.scope.names = c.ks
  globals : env.globals = mainGlobals
  builtins : env.builtins = builtinsNs
  cells : ∀ n, c.ks.lookup n = some .cell → ∃ a, env.cells.lookup n = some a
  inj : ∀ x ∈ c.vis, ∀ y ∈ c.vis, c.nm[x]? = c.nm[y]? → x = y
  named : ∀ x ∈ c.vis, ∃ n, c.nm[x]? = some n

/-- the frame's block holds v under the name -/
noncomputable def Holds (env : Env) (h : Heap) (n : Str) (v : Value) : Prop :=
  (env.scope.names.lookup n = some .local ∧ ∃ m, h.Ns env.locals m ∧ m n = some v) ∨ (env.scope.names.lookup n = some .cell ∧ ∃ a, env.cells.lookup n = some a ∧ h.IsCell a (some v))

structure Fit (c : Cx) (env : Env) (fa : Nat → Addr) (d : Option Addr) (ad : Nat → Addr) (σ : Sg) (S : Frz) (h : Heap) : Prop where
  val : ∀ x ∈ c.vis, ∀ n p, c.nm[x]? = some n → σ[x]? = some (.v p) → ∃ v, Holds env h n v ∧ Rep d fa S v p
  own : ∀ x ∈ c.vis, ∀ n xs, c.nm[x]? = some n → σ[x]? = some (.own xs) → Holds env h n (.ref (ad x)) ∧ xs.length < lim ∧ S (ad x) = none ∧ some (ad x) ≠ d ∧
    ∃ o vs k, h.get? (ad x) = some o ∧ (o.cls = .type "list" ∧ o.dict = none) ∧ o.data = .seq (vs : List Value).toArray k ∧ Reps d fa S vs xs
  apart : ∀ x ∈ c.vis, ∀ y ∈ c.vis, ∀ xs ys, σ[x]? = some (.own xs) → σ[y]? = some (.own ys) → ad x = ad y → x = y

section
variable {c : Cx} {env : Env} {fa : Nat → Addr} {d : Option Addr} {ad : Nat → Addr} {σ : Sg} {S S' : Frz} {h h' : Heap} {D : DS} {n : Str} {v : Value}

/-- the frame's own objects stay: what Holds asks -/
theorem Holds.at (x : Holds env h n v) (k1 : ∀ o, h.get? env.locals = some o → h'.get? env.locals = some o) (k2 : ∀ a o, env.cells.lookup n = some a → h.get? a = some o → h'.get? a = some o) : Holds env h' n v := by
  rcases x with ⟨a, m, b, e⟩ | ⟨e, a, b, o, f, g⟩
  · exact .inl ⟨a, m, b.at' k1, e⟩
  · exact .inr ⟨e, a, b, o, k2 a o b f, g⟩

theorem deal_ne_ns (dl : DealAt d fa D S h) {L : Addr} {m : Str → Option Value} (n : h.Ns L m) : some L ≠ d := fun e => by
  obtain ⟨_, _, vs, k, o, h1, _, h3, _⟩ := dl L e.symm
  obtain ⟨o', es, ep, g1, g2, _⟩ := n
  rw [h1] at g1; cases g1
  rw [h3] at g2; cases g2
theorem deal_ne_cell (dl : DealAt d fa D S h) {a : Addr} {v : Option Value} (n : h.IsCell a v) : some a ≠ d := fun e => by
  obtain ⟨_, _, vs, k, o, h1, _, h3, _⟩ := dl a e.symm
  obtain ⟨o', g1, g2⟩ := n
  rw [h1] at g1; cases g1
  rw [h3] at g2; cases g2

theorem Holds.ext (x : Holds env h n v) (dl : DealAt d fa D S h) (e : Ext d S h S' h') : Holds env h' n v := by
  rcases x with ⟨a, m, b, q⟩ | ⟨q, a, b, i⟩
  · exact .inl ⟨a, m, b.at' fun o z => e.keep _ o (deal_ne_ns dl b) z, q⟩
  · obtain ⟨o, f, g⟩ := i
    exact .inr ⟨q, a, b, o, e.keep _ o (deal_ne_cell dl ⟨o, f, g⟩) f, g⟩

theorem Fit.ext (x : Fit c env fa d ad σ S h) (dl : DealAt d fa D S h) (e : Ext d S h S' h') : Fit c env fa d ad σ S' h' where
  val := fun y hy n p hn hp => by
    obtain ⟨v, a, b⟩ := x.val y hy n p hn hp
    exact ⟨v, a.ext dl e, b.mono e.mono⟩
  own := fun y hy n xs hn hp => by
    obtain ⟨a, b, q, f, o, vs, k, g1, g2, g3, g4⟩ := x.own y hy n xs hn hp
    refine ⟨a.ext dl e, b, ?_, f, o, vs, k, e.keep _ o f g1, g2, g3, g4.mono e.mono⟩
    cases z : S' (ad y) with
    | none => rfl
    | some o' =>
      rcases e.fresh _ o' z with z | z
      · rw [q] at z; cases z
      · rw [g1] at z; cases z
  apart := x.apart
end
end Mine
end

section
open PySem PySem.W PyProof.Rows
namespace Mine

structure Ok (G0 : Frz) (fa : Nat → Addr) (d : Option Addr) (S : Frz) (D : DS) (h : Heap) : Prop where
  g : Le G0 S
  sub : Sub S h
  deal : DealAt d fa D S h

theorem lim_line : lim ≤ sizeLine := by decide

section
variable {prog : Program} {w : World} {A : Around} {s : Shared} {G0 S : Frz} {fa : Nat → Addr} {d : Option Addr} {D : DS} {Q : PV → DS → Prop} {R : Value → Shared → Prop}

theorem Ok.ext {S' : Frz} {h h' : Heap} {D' : DS} (x : Ok G0 fa d S D h) (e : Ext d S h S' h') (dl : DealAt d fa D' S' h') : Ok G0 fa d S' D' h' := ⟨x.g.trans e.mono, e.sub, dl⟩

theorem Post.after {S' : Frz} {h' : Heap} {tk' : Nat} (p : Post d fa S s Q R) (e : Ext d S s.heap S' h') : Post d fa S' { s with heap := h', toks := tk' } Q R :=
  fun v pv S'' D'' h'' tk'' e' dl rp q => p v pv S'' D'' h'' tk'' (e.trans e') dl rp q

/-- the step changed no object: a value that is there -/
theorem Post.val (p : Post d fa S s Q R) (x : Ok G0 fa d S D s.heap) {v : Value} {pv : PV} {tk : Nat} (rp : Rep d fa S v pv) (q : Q pv D) : R v { s with toks := tk } :=
  p v pv S D s.heap tk (Ext.refl x.sub) x.deal rp q
theorem Post.val0 (p : Post d fa S s Q R) (x : Ok G0 fa d S D s.heap) {v : Value} {pv : PV} (rp : Rep d fa S v pv) (q : Q pv D) : R v s := p.val x (tk := s.toks) rp q

theorem S_none (sub : Sub S s.heap) {a : Addr} (e : s.heap.get? a = none) : S a = none := by
  cases q : S a with
  | none => rfl
  | some o => rw [sub a o q] at e; cases e
theorem size_none (h : Heap) : h.get? h.objs.size = none := none_of_size (Nat.le_refl _)

theorem deal_ne {a : Addr} {h : Heap} (dl : DealAt d fa D S h) (e : h.get? a = none) : some a ≠ d := fun q => by
  obtain ⟨_, _, _, _, o, h1, _⟩ := dl a q.symm
  rw [h1] at e; cases e

/-- the step laid one new list -/
theorem Post.newL (p : Post d fa S s Q R) (x : Ok G0 fa d S D s.heap) {vs : List Value} {xs : List PV} {n : Nat} {tk : Nat} (rs : Reps d fa S vs xs) (l : xs.length < lim) (q : Q (.list xs) D) :
    R (.ref s.heap.objs.size) { s with heap := s.heap.push { cls := .type "list", data := .seq vs.toArray n }, toks := tk } := by
  have f := size_none s.heap
  have fS := S_none x.sub f
  have g := Grew.push s.heap { cls := .type "list", data := .seq vs.toArray n }
  have new := Heap.get?_push_size s.heap (o := { cls := .type "list", data := .seq vs.toArray n }) rfl
  refine p _ (.list xs) (S.add s.heap.objs.size { cls := .type "list", data := .seq vs.toArray n }) D _ tk ((Ext.of_grew x.sub g).freeze new fS f) ((x.deal.grew g).freeze fS (deal_ne x.deal f)) ?_ q
  exact .list (Frz.add_self _ _ _) rfl rfl l (rs.mono (Frz.add_le fS))
theorem Post.newT (p : Post d fa S s Q R) (x : Ok G0 fa d S D s.heap) {vs : List Value} {xs : List PV} {n : Nat} {tk : Nat} (rs : Reps d fa S vs xs) (l : xs.length < lim) (q : Q (.tup xs) D) :
    R (.ref s.heap.objs.size) { s with heap := s.heap.push { cls := .type "tuple", data := .seq vs.toArray n }, toks := tk } := by
  have f := size_none s.heap
  have fS := S_none x.sub f
  have g := Grew.push s.heap { cls := .type "tuple", data := .seq vs.toArray n }
  have new := Heap.get?_push_size s.heap (o := { cls := .type "tuple", data := .seq vs.toArray n }) rfl
  refine p _ (.tup xs) (S.add s.heap.objs.size { cls := .type "tuple", data := .seq vs.toArray n }) D _ tk ((Ext.of_grew x.sub g).freeze new fS f) ((x.deal.grew g).freeze fS (deal_ne x.deal f)) ?_ q
  exact .tup (Frz.add_self _ _ _) rfl rfl l (rs.mono (Frz.add_le fS))

theorem Rep.listAt {a : Addr} {xs : List PV} (r : Rep d fa S (.ref a) (.list xs)) (sub : Sub S s.heap) : ∃ vs : List Value, s.heap.IsList a vs.toArray ∧ Reps d fa S vs xs ∧ vs.length < lim ∧ xs.length = vs.length := by
  cases r with
  | list h1 h2 h3 h4 h5 => exact ⟨_, ⟨_, sub _ _ h1, h2, _, h3⟩, h5, by rw [h5.length]; exact h4, h5.length.symm⟩
theorem Rep.list_ref {v : Value} {xs : List PV} (r : Rep d fa S v (.list xs)) : ∃ a, v = .ref a := by cases r; exact ⟨_, rfl⟩

theorem log2_64 {y : Int} (h : y.natAbs < 2 ^ 64) : Builtin.divisionGoesByPylong x y = false := PyProof.noPylong_of_log2 (by
  by_cases h0 : y.natAbs = 0
  · rw [h0]; decide +kernel
  · have h30 : y.natAbs.log2 < 64 := (Nat.log2_lt h0).mpr h
    omega)

theorem bin_sound {op : Bop} {va vb : Value} {pa pb : PV} (ra : Rep d fa S va pa) (rb : Rep d fa S vb pb) (x : Ok G0 fa d S D s.heap) (hw : bin2 op pa pb fun r => Q r D) (p : Post d fa S s Q R) :
    wpAny (model prog w) A (binaryOp (opOf op) va vb) R (fun _ _ => False) s := by
  cases op with
  | add =>
    cases pa with
    | int i =>
      obtain ⟨j, rfl, hq⟩ := asInt_inv hw
      obtain ⟨t, rfl⟩ := ra.int_inv
      obtain ⟨u, rfl⟩ := rb.int_inv
      exact PyProof.Rows.add_int (p.val x (.int _ _) hq)
    | list xs =>
      obtain ⟨ys, rfl, hl, hq⟩ := asList_inv hw
      obtain ⟨a, rfl⟩ := ra.list_ref
      obtain ⟨b, rfl⟩ := rb.list_ref
      obtain ⟨vs, ⟨⟨cls, dd, data, sl⟩, ho, hc, n, hd⟩, rv, lv, ev⟩ := ra.listAt x.sub
      obtain ⟨ws, ⟨⟨cls2, dd2, data2, sl2⟩, ho2, hc2, n2, hd2⟩, rw', lw, ew⟩ := rb.listAt x.sub
      simp only at hc hd hc2 hd2
      subst hc hd hc2 hd2
      have hsz : vs.length + ws.length ≤ sizeLine := by have := lim_line; omega
      refine concat_meets ⟨_, ho, rfl⟩ ⟨_, ho2, rfl⟩ noFill_list_add seq_list_add PySem.F.slot_list_add PySem.F.entry_list_add (PySem.F.args_list_add_2 _ _)
        (list_addW a b vs.toArray ws.toArray n n2 dd dd2 sl sl2 (by simpa using hsz)) ⟨ho, ho2, ?_⟩
      have e : vs.toArray ++ ws.toArray = (vs ++ ws).toArray := by simp
      rw [e]
      exact p.newL x (rv.append rw') (by rw [List.length_append]; omega) hq
    | _ => exact hw.elim
  | sub =>
    obtain ⟨i, j, rfl, rfl, hq⟩ := ii_inv hw
    obtain ⟨t, rfl⟩ := ra.int_inv
    obtain ⟨u, rfl⟩ := rb.int_inv
    exact PyProof.Rows.sub_int (p.val x (.int _ _) hq)
  | mul =>
    obtain ⟨i, j, rfl, rfl, hq⟩ := ii_inv hw
    obtain ⟨t, rfl⟩ := ra.int_inv
    obtain ⟨u, rfl⟩ := rb.int_inv
    exact PyProof.Rows.mul_int (p.val x (.int _ _) hq.2) (IntMulOk.of_left (intBits_le hq.1.1))
  | fdiv =>
    obtain ⟨i, j, rfl, rfl, hq⟩ := ii_inv hw
    obtain ⟨t, rfl⟩ := ra.int_inv
    obtain ⟨u, rfl⟩ := rb.int_inv
    exact PyProof.Rows.floordiv_int hq.1.1 (p.val x (.int _ _) hq.2) (.inl (log2_64 hq.1.2))
  | mod =>
    obtain ⟨i, j, rfl, rfl, hq⟩ := ii_inv hw
    obtain ⟨t, rfl⟩ := ra.int_inv
    obtain ⟨u, rfl⟩ := rb.int_inv
    exact PyProof.Rows.mod_int' hq.1 (p.val x (.int _ _) hq.2)
  | pow =>
    obtain ⟨i, j, rfl, rfl, hq⟩ := ii_inv hw
    obtain ⟨t, rfl⟩ := ra.int_inv
    obtain ⟨u, rfl⟩ := rb.int_inv
    exact PyProof.Rows.pow_int_small hq.1.1 hq.1.2.1 hq.1.2.2 (p.val x (.int _ _) hq.2)
  | band =>
    obtain ⟨i, j, rfl, rfl, hq⟩ := ii_inv hw
    obtain ⟨t, rfl⟩ := ra.int_inv
    obtain ⟨u, rfl⟩ := rb.int_inv
    exact PyProof.Rows.and_int (p.val x (.int _ _) hq)
  | bor =>
    obtain ⟨i, j, rfl, rfl, hq⟩ := ii_inv hw
    obtain ⟨t, rfl⟩ := ra.int_inv
    obtain ⟨u, rfl⟩ := rb.int_inv
    exact PyProof.Rows.or_int (p.val x (.int _ _) hq)
  | shl =>
    obtain ⟨i, j, rfl, rfl, hq⟩ := ii_inv hw
    obtain ⟨t, rfl⟩ := ra.int_inv
    obtain ⟨u, rfl⟩ := rb.int_inv
    exact PyProof.Rows.lshift_int_small hq.1.1 hq.1.2.1 hq.1.2.2 (p.val x (.int _ _) hq.2)
  | shr =>
    obtain ⟨i, j, rfl, rfl, hq⟩ := ii_inv hw
    obtain ⟨t, rfl⟩ := ra.int_inv
    obtain ⟨u, rfl⟩ := rb.int_inv
    exact PyProof.Rows.rshift_int hq.1 (p.val x (.int _ _) hq.2)

theorem cmp_sound {op : Cop} {va vb : Value} {pa pb : PV} {K : Bool → Prop} {R' : Value → Shared → Prop} (hu : A.units + 64 < cLine) (ra : Rep d fa S va pa) (rb : Rep d fa S vb pb) (sub : Sub S s.heap) (hw : cmp2 op pa pb K) (p : ∀ b, K b → R' (.bool b) s) :
    wpAny (model prog w) A (compareOp (cpOf op) va vb) R' (fun _ _ => False) s := by
  cases op with
  | eq =>
    cases pa with
    | int i =>
      obtain ⟨j, rfl, hq⟩ := asInt_inv hw
      obtain ⟨t, rfl⟩ := ra.int_inv
      obtain ⟨u, rfl⟩ := rb.int_inv
      exact PyProof.Rows.eq_int (p _ hq)
    | list xs =>
      obtain ⟨ys, rfl, hq⟩ := asList_inv hw
      obtain ⟨ns, e1, hq⟩ := asSome_inv hq
      obtain ⟨ms, e2, hq⟩ := asSome_inv hq
      obtain ⟨a, rfl⟩ := ra.list_ref
      obtain ⟨b, rfl⟩ := rb.list_ref
      obtain ⟨vs, hl, rv, lv, ev⟩ := ra.listAt sub
      obtain ⟨ws, hl2, rw', lw, ew⟩ := rb.listAt sub
      exact eq_intsK hl (rv.ints e1) hl2 (rw'.ints e2) hu (p _ hq)
    | _ => exact hw.elim
  | ne =>
    cases pa with
    | int i =>
      obtain ⟨j, rfl, hq⟩ := asInt_inv hw
      obtain ⟨t, rfl⟩ := ra.int_inv
      obtain ⟨u, rfl⟩ := rb.int_inv
      exact PyProof.Rows.ne_int (p _ hq)
    | list xs =>
      obtain ⟨ys, rfl, hq⟩ := asList_inv hw
      obtain ⟨ns, e1, hq⟩ := asSome_inv hq
      obtain ⟨ms, e2, hq⟩ := asSome_inv hq
      obtain ⟨a, rfl⟩ := ra.list_ref
      obtain ⟨b, rfl⟩ := rb.list_ref
      obtain ⟨vs, hl, rv, lv, ev⟩ := ra.listAt sub
      obtain ⟨ws, hl2, rw', lw, ew⟩ := rb.listAt sub
      exact ne_intsK hl (rv.ints e1) hl2 (rw'.ints e2) hu (p _ hq)
    | _ => exact hw.elim
  | lt =>
    obtain ⟨i, j, rfl, rfl, hq⟩ := ii_inv hw
    obtain ⟨t, rfl⟩ := ra.int_inv
    obtain ⟨u, rfl⟩ := rb.int_inv
    exact PyProof.Rows.lt_int (p _ hq)
  | le =>
    obtain ⟨i, j, rfl, rfl, hq⟩ := ii_inv hw
    obtain ⟨t, rfl⟩ := ra.int_inv
    obtain ⟨u, rfl⟩ := rb.int_inv
    exact PyProof.Rows.le_int (p _ hq)
  | gt =>
    obtain ⟨i, j, rfl, rfl, hq⟩ := ii_inv hw
    obtain ⟨t, rfl⟩ := ra.int_inv
    obtain ⟨u, rfl⟩ := rb.int_inv
    exact PyProof.Rows.gt_int (p _ hq)
  | ge =>
    obtain ⟨i, j, rfl, rfl, hq⟩ := ii_inv hw
    obtain ⟨t, rfl⟩ := ra.int_inv
    obtain ⟨u, rfl⟩ := rb.int_inv
    exact PyProof.Rows.ge_int (p _ hq)
end
end Mine
end

section
open PySem PySem.W PyProof.Rows
namespace Mine

section
variable {prog : Program} {w : World} {G0 : Frz} {fa : Nat → Addr} {d : Option Addr} {fs : List Str} {N : Nat}

structure Run (G0 : Frz) (fa : Nat → Addr) (d : Option Addr) (fs : List Str) (N : Nat) (c : Cx) (env : Env) (A : Around) (σ : Sg) (ad : Nat → Addr) (S : Frz) (D : DS) (h : Heap) : Prop where
  hfs : c.fs = fs
  eo : EnvOK c env
  room : Room A N
  ok : Ok G0 fa d S D h
  fit : Fit c env fa d ad σ S h

theorem Run.ext {c : Cx} {env : Env} {A : Around} {σ : Sg} {ad : Nat → Addr} {S S' : Frz} {D D' : DS} {h h' : Heap} (x : Run G0 fa d fs N c env A σ ad S D h) (e : Ext d S h S' h') (dl : DealAt d fa D' S' h') :
    Run G0 fa d fs N c env A σ ad S' D' h' := ⟨x.hfs, x.eo, x.room, x.ok.ext e dl, x.fit.ext x.ok.deal e⟩

theorem isVar_inv {c : Cx} {x : Nat} {id : Str} (h : c.isVar x id = true) : x ∈ c.vis ∧ c.nm[x]? = some id ∧ (c.ks.lookup id = some .local ∨ c.ks.lookup id = some .cell) ∧ (id == ("__debug__" : Str)) = false := by
  unfold Cx.isVar at h
  simp only [Bool.and_eq_true, Bool.or_eq_true, Bool.not_eq_true', beq_iff_eq, List.contains_iff_mem] at h
  exact ⟨h.1, h.2.1, h.2.2.1, h.2.2.2⟩
theorem isFn_inv {c : Cx} {k : Nat} {id : Str} (h : c.isFn k id = true) : c.fs[k]? = some id ∧ c.ks.lookup id = some .globalImplicit ∧ (id == ("__debug__" : Str)) = false := by
  unfold Cx.isFn at h
  simp only [Bool.and_eq_true, Bool.not_eq_true', beq_iff_eq] at h
  exact ⟨h.1, h.2.1, h.2.2⟩
theorem isGlob_inv {c : Cx} {id nm : Str} (h : c.isGlob id nm = true) : id = nm ∧ c.ks.lookup id = some .globalImplicit ∧ (id == ("__debug__" : Str)) = false := by
  unfold Cx.isGlob at h
  simp only [Bool.and_eq_true, Bool.not_eq_true', beq_iff_eq] at h
  exact ⟨h.1, h.2.1, h.2.2⟩

variable {c : Cx} {env : Env} {A : Around} {E : Value → Shared → Prop} {s : Shared} {σ : Sg} {ad : Nat → Addr} {S : Frz} {D : DS}

theorem load_holds {n : Str} {v : Value} {R : Value → Shared → Prop} (hk : env.scope.kind = .function) (x : Holds env s.heap n v) (h : R v s) : wpAny (model prog w) A (loadName env n) R E s := by
  rcases x with ⟨a, m, b, e⟩ | ⟨e, a, b, f⟩
  · exact wpAny_loadName_local hk a b e h
  · exact wpAny_loadName_cell hk e b f h
theorem name_holds {n : Str} {p : Pos} {v : Value} {R : Value → Shared → Prop} (hk : env.scope.kind = .function) (hd : (n == ("__debug__" : Str)) = false) (x : Holds env s.heap n v) (h : R v s) : wpAny (model prog w) A (eval (.Name n p) env) R E s :=
  wpAny_Name (load_holds hk x h) hd

theorem fn_name (GL : Globs G0 fs fa) (r : Run G0 fa d fs N c env A σ ad S D s.heap) {k : Nat} {id : Str} {p : Pos} {R : Value → Shared → Prop} (h : c.isFn k id = true) (hR : R (.ref (fa k)) s) : wpAny (model prog w) A (eval (.Name id p) env) R E s := by
  obtain ⟨h1, h2, h3⟩ := isFn_inv h
  obtain ⟨mg, mb, g1, _, g3, _⟩ := GL.names
  have sub : Sub G0 s.heap := fun a o e => r.ok.sub a o (r.ok.g a o e)
  refine Calls.Name_function_global r.eo.kind (by unfold Env.kindOf; rw [r.eo.names]; exact h2) (Calls.loadGlobal_global (mg := mg) (by rw [r.eo.globals]; exact g1 _ sub) (g3 k id (r.hfs ▸ h1)) hR) h3
theorem bi_name {mg mb : Str → Option Value} (r : Run G0 fa d fs N c env A σ ad S D s.heap) (g1 : ∀ h, Sub G0 h → h.Ns mainGlobals mg) (g2 : ∀ h, Sub G0 h → h.Ns builtinsNs mb) {id nm : Str} {p : Pos} {v : Value} {R : Value → Shared → Prop} (h : c.isGlob id nm = true)
    (e1 : mg nm = none) (e2 : mb nm = some v) (hR : R v s) : wpAny (model prog w) A (eval (.Name id p) env) R E s := by
  obtain ⟨rfl, h2, h3⟩ := isGlob_inv h
  have sub : Sub G0 s.heap := fun a o e => r.ok.sub a o (r.ok.g a o e)
  exact Calls.Name_function_global r.eo.kind (by unfold Env.kindOf; rw [r.eo.names]; exact h2) (Calls.loadGlobal_builtin (mg := mg) (mb := mb) (by rw [r.eo.globals]; exact g1 _ sub) e1 (by rw [r.eo.builtins]; exact g2 _ sub) e2 hR) h3

/-- what the tree of a letter gives -/
theorem var_load (r : Run G0 fa d fs N c env A σ ad S D s.heap) {x : Nat} {id : Str} (h : c.isVar x id = true) {pv : PV} (e : gv σ x = some pv) : ∃ v, Holds env s.heap id v ∧ Rep d fa S v pv := by
  obtain ⟨h1, h2, h3, h4⟩ := isVar_inv h
  unfold gv at e
  split at e
  · rename_i q hq
    cases e
    exact r.fit.val x h1 id _ h2 hq
  · cases e

/-- the list behind a letter -/
theorem list_load (r : Run G0 fa d fs N c env A σ ad S D s.heap) {x : Nat} {id : Str} (h : c.isVar x id = true) {xs : List PV} (e : gl σ D x = some xs) :
    ∃ a vs, Holds env s.heap id (.ref a) ∧ s.heap.IsList a (vs : List Value).toArray ∧ Reps d fa S vs xs ∧ vs.length < lim ∧ xs.length = vs.length := by
  obtain ⟨h1, h2, h3, h4⟩ := isVar_inv h
  unfold gl at e
  split at e
  · rename_i q hq
    cases e
    obtain ⟨v, a, b⟩ := r.fit.val x h1 id _ h2 hq
    obtain ⟨ar, rfl⟩ := b.list_ref
    obtain ⟨vs, l1, l2, l3, l4⟩ := b.listAt r.ok.sub
    exact ⟨ar, vs, a, l1, l2, l3, l4⟩
  · rename_i q hq
    cases e
    obtain ⟨a, l, n1, n2, o, vs, k, g1, g2, g3, g4⟩ := r.fit.own x h1 id _ h2 hq
    exact ⟨_, vs, a, ⟨o, g1, g2.1, k, g3⟩, g4, by rw [g4.length]; exact l, g4.length.symm⟩
  · rename_i hq
    cases e
    obtain ⟨v, a, b⟩ := r.fit.val x h1 id _ h2 hq
    cases b with
    | deal hd =>
      obtain ⟨n1, l, vs, k, o, g1, g2, g3, g4⟩ := r.ok.deal _ hd
      exact ⟨_, vs, a, ⟨o, g1, g2, k, g3⟩, g4, by rw [g4.length]; exact l, g4.length.symm⟩
  · cases e

/-- the twelve constructors that the checker lets through -/
theorem okE_shape {P : Expr → Prop} {me : ME} {e : Expr} (ok : okE me c e = true) (hConstant : ∀ v k p, P (.Constant v k p)) (hName : ∀ id p, P (.Name id p)) (hBinOp : ∀ l o r p, P (.BinOp l o r p)) (hUnaryOp : ∀ o x p, P (.UnaryOp o x p)) (hBoolOp : ∀ o x p, P (.BoolOp o x p)) (hIfExp : ∀ a b c p, P (.IfExp a b c p)) (hCompare : ∀ a b c p, P (.Compare a b c p)) (hCall : ∀ a b c p, P (.Call a b c p)) (hSubscript : ∀ a b p, P (.Subscript a b p)) (hList : ∀ a p, P (.List a p)) (hTuple : ∀ a k p, P (.Tuple a k p)) (hListComp : ∀ a b c p, P (.ListComp a b c p)) : P e := by
  cases me with
  | int | bool => apply xConst_e ok; intros; apply hConstant
  | var | fnv => apply xName_e ok; intros; apply hName
  | bin | rep => apply xBin_e ok; intros; apply hBinOp
  | neg | not => apply xUn_e ok; intros; apply hUnaryOp
  | and | or => apply xBo_e ok; intros; apply hBoolOp
  | ite => apply xIf_e ok; intros; apply hIfExp
  | cmp | chain => apply xCmp_e ok; intros; apply hCompare
  | call | callv | lenv | len | abs | toInt | sum | bitlen => apply xCall_e ok; intros; apply hCall
  | idx | idxv | sliceTo | sliceAll | sliceRev => apply xSub_e ok; intros; apply hSubscript
  | list => apply xList_e ok; intros; apply hList
  | tup => apply xTup_e ok; intros; apply hTuple
  | comp | compIf => apply xComp_e ok; intros; apply hListComp
theorem okE_star {me : ME} {e : Expr} (h : okE me c e = true) (rest : List Expr) : starEach (e :: rest) env = (false, eval e env) :: starEach rest env :=
  okE_shape (P := fun e => starEach (e :: rest) env = (false, eval e env) :: starEach rest env) h (fun _ _ _ => rfl) (fun _ _ => rfl) (fun _ _ _ _ => rfl) (fun _ _ _ => rfl) (fun _ _ _ => rfl) (fun _ _ _ _ => rfl) (fun _ _ _ _ => rfl) (fun _ _ _ _ => rfl) (fun _ _ _ => rfl) (fun _ _ => rfl) (fun _ _ _ => rfl) (fun _ _ _ _ => rfl)
theorem okE_slice {me : ME} {e : Expr} (h : okE me c e = true) (o i : Value) : subscripted e false o i = operate [o, i] (getItem o i) :=
  okE_shape (P := fun e => subscripted e false o i = operate [o, i] (getItem o i)) h (fun _ _ _ => rfl) (fun _ _ => rfl) (fun _ _ _ _ => rfl) (fun _ _ _ => rfl) (fun _ _ _ => rfl) (fun _ _ _ _ => rfl) (fun _ _ _ _ => rfl) (fun _ _ _ _ => rfl) (fun _ _ _ => rfl) (fun _ _ => rfl) (fun _ _ _ => rfl) (fun _ _ _ _ => rfl)
theorem okE_marks {me : ME} {e : Expr} {op : CmpOp} (h : okE me c e = true) : behindInMarks op e = false :=
  okE_shape (P := fun e => behindInMarks op e = false) h (fun _ _ _ => rfl) (fun _ _ => rfl) (fun _ _ _ _ => rfl) (fun _ _ _ => rfl) (fun _ _ _ => rfl) (fun _ _ _ _ => rfl) (fun _ _ _ _ => rfl) (fun _ _ _ _ => rfl) (fun _ _ _ => rfl) (fun _ _ => rfl) (fun _ _ _ => rfl) (fun _ _ _ _ => rfl)
theorem okE_folded {me : ME} {e : Expr} (h : okE me c e = true) (env : Env) (x : Value) : foldedSetIterable e env x = pure x :=
  okE_shape (P := fun e => foldedSetIterable e env x = pure x) h (fun _ _ _ => rfl) (fun _ _ => rfl) (fun _ _ _ _ => rfl) (fun _ _ _ => rfl) (fun _ _ _ => rfl) (fun _ _ _ _ => rfl) (fun _ _ _ _ => rfl) (fun _ _ _ _ => rfl) (fun _ _ _ => rfl) (fun _ _ => rfl) (fun _ _ _ => rfl) (fun _ _ _ _ => rfl)
end
end Mine
end

section
open PySem PySem.W PyProof.Rows
namespace Mine

section
variable (prog : Program) (w : World) (G0 : Frz) (fa : Nat → Addr) (d : Option Addr) (fs : List Str) (N : Nat)

noncomputable def SE (me : ME) : Prop := ∀ {c : Cx} {e : Expr} {env : Env} {A : Around} {σ : Sg} {ad : Nat → Addr} {S : Frz} {D : DS} {s : Shared} {Q : PV → DS → Prop} {R : Value → Shared → Prop},
  okE me c e = true → Run G0 fa d fs N c env A σ ad S D s.heap → wpE (CallOK prog w G0 d fa N) me σ D Q → Post d fa S s Q R → wpAny (model prog w) A (eval e env) R (fun _ _ => False) s

noncomputable def PostB (d : Option Addr) (fa : Nat → Addr) (S : Frz) (s : Shared) (K : Bool → DS → Prop) (R : Bool → Shared → Prop) : Prop :=
  ∀ b S' D' h' tk', Ext d S s.heap S' h' → DealAt d fa D' S' h' → K b D' → R b { s with heap := h', toks := tk' }

noncomputable def ST (me : ME) : Prop := ∀ {c : Cx} {e : Expr} {env : Env} {A : Around} {σ : Sg} {ad : Nat → Addr} {S : Frz} {D : DS} {s : Shared} {K : Bool → DS → Prop} {R : Bool → Shared → Prop},
  okE me c e = true → Run G0 fa d fs N c env A σ ad S D s.heap → wpE (CallOK prog w G0 d fa N) me σ D (fun v D' => asBool v fun b => K b D') → PostB d fa S s K R → wpAny (model prog w) A (isTrue e env (eval e env)) R (fun _ _ => False) s

noncomputable def PostL (d : Option Addr) (fa : Nat → Addr) (S : Frz) (s : Shared) (Q : List PV → DS → Prop) (R : List Value → Shared → Prop) : Prop :=
  ∀ vs ps S' D' h' tk', Ext d S s.heap S' h' → DealAt d fa D' S' h' → Reps d fa S' vs ps → Q ps D' → R vs { s with heap := h', toks := tk' }
noncomputable def SEs (mes : MEs) : Prop := ∀ {c : Cx} {es : List Expr} {env : Env} {A : Around} {σ : Sg} {ad : Nat → Addr} {S : Frz} {D : DS} {s : Shared} {Q : List PV → DS → Prop} {R : List Value → Shared → Prop} {pos : Pos},
  okEs mes c es = true → Run G0 fa d fs N c env A σ ad S D s.heap → wpEs (CallOK prog w G0 d fa N) mes σ D Q → PostL d fa S s Q R → wpAny (model prog w) A (spliced (backTo pos (starEach es env))) R (fun _ _ => False) s
end

section
variable {prog : Program} {w : World} {G0 : Frz} {fa : Nat → Addr} {d : Option Addr} {fs : List Str} {N : Nat}

/-- chain two steps -/
theorem SE.bind {me : ME} (h : SE prog w G0 fa d fs N me) {c : Cx} {e : Expr} {env : Env} {A : Around} {σ : Sg} {ad : Nat → Addr} {S : Frz} {D : DS} {s : Shared} {Q : PV → DS → Prop} {R : Value → Shared → Prop}
    (ok : okE me c e = true) (r : Run G0 fa d fs N c env A σ ad S D s.heap) (hw : wpE (CallOK prog w G0 d fa N) me σ D Q)
    (k : ∀ v p S' D' h' tk', Ext d S s.heap S' h' → Rep d fa S' v p → Run G0 fa d fs N c env A σ ad S' D' h' → Q p D' → R v { s with heap := h', toks := tk' }) : wpAny (model prog w) A (eval e env) R (fun _ _ => False) s :=
  h ok r hw fun v p S' D' h' tk' ex dl rp q => k v p S' D' h' tk' ex rp (r.ext ex dl) q
theorem ST.bind {me : ME} (h : ST prog w G0 fa d fs N me) {c : Cx} {e : Expr} {env : Env} {A : Around} {σ : Sg} {ad : Nat → Addr} {S : Frz} {D : DS} {s : Shared} {K : Bool → DS → Prop} {R : Bool → Shared → Prop}
    (ok : okE me c e = true) (r : Run G0 fa d fs N c env A σ ad S D s.heap) (hw : wpE (CallOK prog w G0 d fa N) me σ D (fun v D' => asBool v fun b => K b D'))
    (k : ∀ b S' D' h' tk', Ext d S s.heap S' h' → Run G0 fa d fs N c env A σ ad S' D' h' → K b D' → R b { s with heap := h', toks := tk' }) : wpAny (model prog w) A (isTrue e env (eval e env)) R (fun _ _ => False) s :=
  h ok r hw fun b S' D' h' tk' ex dl q => k b S' D' h' tk' ex (r.ext ex dl) q

/-- a block whose value is asked for its truth -/
theorem st_plain {me : ME} (h : SE prog w G0 fa d fs N me)
    (he : ∀ {c : Cx} {e : Expr} {env : Env}, okE me c e = true → isTrue e env (eval e env) = (do let v ← eval e env; standAt e.pos; holding [v] (truthy v))) : ST prog w G0 fa d fs N me := by
  intro c e env A σ ad S D s K R ok r hw p
  rw [he ok]
  refine wpAny_bind (h.bind ok r hw fun v pv S' D' h' tk' ex rp r' q => ?_)
  obtain ⟨b, rfl, hb⟩ := asBool_inv q
  cases rp.bool_inv
  exact wpAny_bind (wpAny_standAt (wpAny_holding (wpAny_truthy_bool (p b S' D' h' tk' ex r'.ok.deal hb))))

theorem se_int {i : Int} : SE prog w G0 fa d fs N (.int i) := by
  intro c e env A σ ad S D s Q R ok r hw p
  apply xConst_e ok; intro v k pos ok
  apply kInt_e ok; intro j ok
  cases eq_of_beq ok
  exact wpAny_Constant_int (p.val r.ok (.int _ _) hw)
theorem se_bool {b : Bool} : SE prog w G0 fa d fs N (.bool b) := by
  intro c e env A σ ad S D s Q R ok r hw p
  apply xConst_e ok; intro v k pos ok
  apply kBool_e ok; intro j ok
  cases eq_of_beq ok
  exact Constant_bool (p.val0 r.ok (.bool _) hw)
theorem se_var {x : Nat} : SE prog w G0 fa d fs N (.var x) := by
  intro c e env A σ ad S D s Q R ok r hw p
  apply xName_e ok; intro id pos ok
  obtain ⟨pv, e1, q⟩ := asSome_inv hw
  obtain ⟨v, hv, rp⟩ := var_load r ok e1
  exact name_holds r.eo.kind (isVar_inv ok).2.2.2 hv (p.val0 r.ok rp q)
theorem se_fnv (GL : Globs G0 fs fa) {k : Nat} : SE prog w G0 fa d fs N (.fnv k) := by
  intro c e env A σ ad S D s Q R ok r hw p
  apply xName_e ok; intro id pos ok
  exact fn_name GL r ok (p.val0 r.ok (.fn k) hw)
theorem se_bin {op : Bop} {a b : ME} (ha : SE prog w G0 fa d fs N a) (hb : SE prog w G0 fa d fs N b) : SE prog w G0 fa d fs N (.bin op a b) := by
  intro c e env A σ ad S D s Q R ok r hw p
  apply xBin_e ok; intro l o rr pos ok
  cases eq_of_beq (an ok).1
  refine wpAny_BinOp (ha.bind (an (an ok).2).1 r hw fun va pa S1 D1 h1 tk1 x1 ra r1 q1 => hb.bind (an (an ok).2).2 r1 q1 fun vb pb S2 D2 h2 tk2 x2 rb r2 q2 => ?_)
  exact bin_sound (ra.mono x2.mono) rb r2.ok q2 ((p.after x1).after x2)
theorem se_neg {a : ME} (ha : SE prog w G0 fa d fs N a) : SE prog w G0 fa d fs N (.neg a) := by
  intro c e env A σ ad S D s Q R ok r hw p
  apply xUn_e ok; intro o x pos ok
  cases eq_of_beq (an ok).1
  refine UnaryOp_ (ha.bind (an ok).2 r hw fun va pa S1 D1 h1 tk1 x1 ra r1 q1 => ?_)
  obtain ⟨i, rfl, q⟩ := asInt_inv q1
  obtain ⟨t, rfl⟩ := ra.int_inv
  exact PyProof.Rows.neg_int ((p.after x1).val r1.ok (.int _ _) q)
theorem se_not {a : ME} (ha : SE prog w G0 fa d fs N a) : SE prog w G0 fa d fs N (.not a) := by
  intro c e env A σ ad S D s Q R ok r hw p
  apply xUn_e ok; intro o x pos ok
  cases eq_of_beq (an ok).1
  refine UnaryOp_ (ha.bind (an ok).2 r hw fun va pa S1 D1 h1 tk1 x1 ra r1 q1 => ?_)
  obtain ⟨i, rfl, q⟩ := asBool_inv q1
  cases ra.bool_inv
  exact not_of (wpAny_truthy_bool ((p.after x1).val0 r1.ok (.bool _) q))
theorem st_not {a : ME} (ha : ST prog w G0 fa d fs N a) : ST prog w G0 fa d fs N (.not a) := by
  intro c e env A σ ad S D s K R ok r hw p
  apply xUn_e ok; intro o x pos ok
  cases eq_of_beq (an ok).1
  refine PyProof.Rows.isTrue_not (ha.bind (an ok).2 r (K := fun b D' => K (!b) D') hw fun b S1 D1 h1 tk1 x1 r1 q => ?_)
  exact p _ S1 D1 h1 tk1 x1 r1.ok.deal q
theorem se_and {a b : ME} (ha : SE prog w G0 fa d fs N a) (hb : SE prog w G0 fa d fs N b) : SE prog w G0 fa d fs N (.and a b) := by
  intro c e env A σ ad S D s Q R ok r hw p
  apply xBo_e ok; intro o es pos ok
  cases eq_of_beq (an ok).1
  apply l2_e (an ok).2; intro e1 e2 ok
  refine BoolOp_and (ha.bind (an ok).1 r hw fun va pa S1 D1 h1 tk1 x1 ra r1 q1 => ?_)
  obtain ⟨b, rfl, q⟩ := asBool_inv q1
  cases ra.bool_inv
  refine wpAny_truthy_bool ?_
  cases b with
  | false => exact (p.after x1).val0 r1.ok (.bool _) q
  | true => exact BoolOp_one (hb (an ok).2 r1 q (p.after x1))
theorem se_or {a b : ME} (ha : SE prog w G0 fa d fs N a) (hb : SE prog w G0 fa d fs N b) : SE prog w G0 fa d fs N (.or a b) := by
  intro c e env A σ ad S D s Q R ok r hw p
  apply xBo_e ok; intro o es pos ok
  cases eq_of_beq (an ok).1
  apply l2_e (an ok).2; intro e1 e2 ok
  refine BoolOp_or (ha.bind (an ok).1 r hw fun va pa S1 D1 h1 tk1 x1 ra r1 q1 => ?_)
  obtain ⟨b, rfl, q⟩ := asBool_inv q1
  cases ra.bool_inv
  refine wpAny_truthy_bool ?_
  cases b with
  | true => exact (p.after x1).val0 r1.ok (.bool _) q
  | false => exact BoolOp_one (hb (an ok).2 r1 q (p.after x1))
theorem PostB.after {S S' : Frz} {s : Shared} {K : Bool → DS → Prop} {R : Bool → Shared → Prop} {h' : Heap} {tk' : Nat} (p : PostB d fa S s K R) (e : Ext d S s.heap S' h') : PostB d fa S' { s with heap := h', toks := tk' } K R :=
  fun b S'' D'' h'' tk'' e' dl q => p b S'' D'' h'' tk'' (e.trans e') dl q
theorem PostB.val0 {S : Frz} {s : Shared} {D : DS} {K : Bool → DS → Prop} {R : Bool → Shared → Prop} {b : Bool} (p : PostB d fa S s K R) (x : Ok G0 fa d S D s.heap) (q : K b D) : R b s :=
  p b S D s.heap s.toks (Ext.refl x.sub) x.deal q
theorem st_and {a b : ME} (ha : ST prog w G0 fa d fs N a) (hb : ST prog w G0 fa d fs N b) : ST prog w G0 fa d fs N (.and a b) := by
  intro c e env A σ ad S D s K R ok r hw p
  apply xBo_e ok; intro o es pos ok
  cases eq_of_beq (an ok).1
  apply l2_e (an ok).2; intro e1 e2 ok
  refine PyProof.Rows.isTrue_and (ha.bind (K := fun cb D₁ => whichB cb (wpE (CallOK prog w G0 d fa N) b σ D₁ fun v D' => asBool v fun b => K b D') (K false D₁)) (an ok).1 r hw fun b1 S1 D1 h1 tk1 x1 r1 q => ?_)
  cases b1 with
  | false => exact p _ S1 D1 h1 tk1 x1 r1.ok.deal q
  | true =>
    refine PyProof.Rows.isTrue_and (hb.bind (an ok).2 r1 q fun b2 S2 D2 h2 tk2 x2 r2 q2 => ?_)
    cases b2 with
    | false => exact (p.after x1) _ S2 D2 h2 tk2 x2 r2.ok.deal q2
    | true => exact PyProof.Rows.isTrue_and_nil ((p.after x1) _ S2 D2 h2 tk2 x2 r2.ok.deal q2)
theorem st_or {a b : ME} (ha : ST prog w G0 fa d fs N a) (hb : ST prog w G0 fa d fs N b) : ST prog w G0 fa d fs N (.or a b) := by
  intro c e env A σ ad S D s K R ok r hw p
  apply xBo_e ok; intro o es pos ok
  cases eq_of_beq (an ok).1
  apply l2_e (an ok).2; intro e1 e2 ok
  refine PyProof.Rows.isTrue_or (ha.bind (K := fun cb D₁ => whichB cb (K true D₁) (wpE (CallOK prog w G0 d fa N) b σ D₁ fun v D' => asBool v fun b => K b D')) (an ok).1 r hw fun b1 S1 D1 h1 tk1 x1 r1 q => ?_)
  cases b1 with
  | true => exact p _ S1 D1 h1 tk1 x1 r1.ok.deal q
  | false =>
    refine PyProof.Rows.isTrue_or (hb.bind (an ok).2 r1 q fun b2 S2 D2 h2 tk2 x2 r2 q2 => ?_)
    cases b2 with
    | true => exact (p.after x1) _ S2 D2 h2 tk2 x2 r2.ok.deal q2
    | false => exact PyProof.Rows.isTrue_or_nil ((p.after x1) _ S2 D2 h2 tk2 x2 r2.ok.deal q2)
theorem se_ite {t a b : ME} (ht : ST prog w G0 fa d fs N t) (ha : SE prog w G0 fa d fs N a) (hb : SE prog w G0 fa d fs N b) : SE prog w G0 fa d fs N (.ite t a b) := by
  intro c e env A σ ad S D s Q R ok r hw p
  apply xIf_e ok; intro e1 e2 e3 pos ok
  refine IfExp_ (ht.bind (K := fun cb D₁ => whichB cb (wpE (CallOK prog w G0 d fa N) a σ D₁ Q) (wpE (CallOK prog w G0 d fa N) b σ D₁ Q)) (an ok).1 r hw fun b1 S1 D1 h1 tk1 x1 r1 q => ?_)
  cases b1 with
  | true => exact ha (an (an ok).2).1 r1 q (p.after x1)
  | false => exact hb (an (an ok).2).2 r1 q (p.after x1)
theorem st_ite {t a b : ME} (ht : ST prog w G0 fa d fs N t) (ha : ST prog w G0 fa d fs N a) (hb : ST prog w G0 fa d fs N b) : ST prog w G0 fa d fs N (.ite t a b) := by
  intro c e env A σ ad S D s K R ok r hw p
  apply xIf_e ok; intro e1 e2 e3 pos ok
  refine PyProof.Rows.isTrue_IfExp (ht.bind (K := fun cb D₁ => whichB cb (wpE (CallOK prog w G0 d fa N) a σ D₁ _) (wpE (CallOK prog w G0 d fa N) b σ D₁ _)) (an ok).1 r hw fun b1 S1 D1 h1 tk1 x1 r1 q => ?_)
  cases b1 with
  | true => exact ha (an (an ok).2).1 r1 q (p.after x1)
  | false => exact hb (an (an ok).2).2 r1 q (p.after x1)
theorem Room.cmp {A : Around} (r : Room A N) : A.units + 64 < cLine := by have := r.units; omega
theorem cmp_e {op : Cop} {a b : ME} {c : Cx} {e : Expr} {P : Expr → Prop} (ok : okE (.cmp op a b) c e = true) (k : ∀ l r pos, okE a c l = true → okE b c r = true → P (.Compare l [cpOf op] [r] pos)) : P e :=
  xCmp_e ok fun l os rs pos ok => l1_e (P := fun os => P (.Compare l os rs pos)) ok fun o ok => l1_e (P := fun rs => P (.Compare l [o] rs pos)) ok fun r ok => by
    cases eq_of_beq (an ok).1
    exact k l r pos (an (an ok).2).1 (an (an ok).2).2
theorem se_cmp {op : Cop} {a b : ME} (ha : SE prog w G0 fa d fs N a) (hb : SE prog w G0 fa d fs N b) : SE prog w G0 fa d fs N (.cmp op a b) := by
  intro c e env A σ ad S D s Q R ok r hw p
  apply cmp_e ok; intro l rr pos o1 o2
  refine wpAny_Compare1 (ha.bind o1 r hw fun va pa S1 D1 h1 tk1 x1 ra r1 q1 => hb.bind o2 r1 q1 fun vb pb S2 D2 h2 tk2 x2 rb r2 q2 => ?_) (okE_marks o2)
  exact cmp_sound r.room.cmp (ra.mono x2.mono) rb r2.ok.sub q2 fun bb q => ((p.after x1).after x2).val0 r2.ok (.bool _) q
theorem st_cmp {op : Cop} {a b : ME} (ha : SE prog w G0 fa d fs N a) (hb : SE prog w G0 fa d fs N b) : ST prog w G0 fa d fs N (.cmp op a b) := by
  intro c e env A σ ad S D s K R ok r hw p
  apply cmp_e ok; intro l rr pos o1 o2
  refine wpAny_isTrue_Compare1 (ha.bind o1 r hw fun va pa S1 D1 h1 tk1 x1 ra r1 q1 => hb.bind o2 r1 q1 fun vb pb S2 D2 h2 tk2 x2 rb r2 q2 => ?_) (okE_marks o2)
  exact cmp_sound r.room.cmp (ra.mono x2.mono) rb r2.ok.sub q2 fun bb q => wpAny_truthy_bool (((p.after x1).after x2).val0 r2.ok q)
theorem chain_e {o1 o2 : Cop} {a b e0 : ME} {c : Cx} {e : Expr} {P : Expr → Prop} (ok : okE (.chain o1 o2 a b e0) c e = true) (k : ∀ l r r' pos, okE a c l = true → okE b c r = true → okE e0 c r' = true → P (.Compare l [cpOf o1, cpOf o2] [r, r'] pos)) : P e :=
  xCmp_e ok fun l os rs pos ok => l2_e (P := fun os => P (.Compare l os rs pos)) ok fun p1 p2 ok => l2_e (P := fun rs => P (.Compare l [p1, p2] rs pos)) ok fun r r' ok => by
    cases eq_of_beq (an (an ok).1).1
    cases eq_of_beq (an (an ok).1).2
    exact k l r r' pos (an (an ok).2).1 (an (an (an ok).2).2).1 (an (an (an ok).2).2).2
theorem se_chain {o1 o2 : Cop} {a b e0 : ME} (ha : SE prog w G0 fa d fs N a) (hb : SE prog w G0 fa d fs N b) (he : SE prog w G0 fa d fs N e0) : SE prog w G0 fa d fs N (.chain o1 o2 a b e0) := by
  intro c e env A σ ad S D s Q R ok r hw p
  apply chain_e ok; intro l r1 r2 pos k1 k2 k3
  refine Compare_chain (ha.bind k1 r hw fun va pa S1 D1 h1 tk1 x1 ra ra1 w1 => chain_link (hb.bind k2 ra1 w1 fun vb pb S2 D2 h2 tk2 x2 rb rb2 w2 => ?_)) (by simp [lastMarks, okE_marks k3])
  refine cmp_sound r.room.cmp (ra.mono x2.mono) rb rb2.ok.sub w2 fun bb q => wpAny_truthy_bool ?_
  cases bb with
  | false => exact ((p.after x1).after x2).val0 rb2.ok (.bool _) q
  | true =>
    refine chain_last (he.bind k3 rb2 q fun vc pc S3 D3 h3 tk3 x3 rc rc3 w3 => ?_)
    exact cmp_sound r.room.cmp (rb.mono x3.mono) rc rc3.ok.sub w3 fun b4 q4 => (((p.after x1).after x2).after x3).val0 rc3.ok (.bool _) q4
theorem st_chain {o1 o2 : Cop} {a b e0 : ME} (ha : SE prog w G0 fa d fs N a) (hb : SE prog w G0 fa d fs N b) (he : SE prog w G0 fa d fs N e0) : ST prog w G0 fa d fs N (.chain o1 o2 a b e0) := by
  intro c e env A σ ad S D s K R ok r hw p
  apply chain_e ok; intro l r1 r2 pos k1 k2 k3
  refine isTrue_chain (ha.bind k1 r hw fun va pa S1 D1 h1 tk1 x1 ra ra1 w1 => test_link (hb.bind k2 ra1 w1 fun vb pb S2 D2 h2 tk2 x2 rb rb2 w2 => ?_)) (by simp [lastMarks, okE_marks k3])
  refine cmp_sound r.room.cmp (ra.mono x2.mono) rb rb2.ok.sub w2 fun bb q => wpAny_truthy_bool ?_
  cases bb with
  | false => exact ((p.after x1).after x2).val0 rb2.ok q
  | true =>
    refine test_last (he.bind k3 rb2 q fun vc pc S3 D3 h3 tk3 x3 rc rc3 w3 => ?_)
    exact cmp_sound r.room.cmp (rb.mono x3.mono) rc rc3.ok.sub w3 fun b4 q4 => wpAny_truthy_bool ((((p.after x1).after x2).after x3).val0 rc3.ok q4)

theorem ses_nil : SEs prog w G0 fa d fs N .nil := by
  intro c es env A σ ad S D s Q R pos ok r hw p
  exact l0_e (P := fun es => wpAny _ _ (spliced (backTo pos (starEach es _))) _ _ _) ok (Calls.spliced_nil (p [] [] S D s.heap s.toks (Ext.refl r.ok.sub) r.ok.deal .nil hw))
theorem ses_cons {a : ME} {rr : MEs} (ha : SE prog w G0 fa d fs N a) (hr : SEs prog w G0 fa d fs N rr) : SEs prog w G0 fa d fs N (.cons a rr) := by
  intro c es env A σ ad S D s Q R pos ok r hw p
  apply lc_e ok; intro e es ok
  rw [okE_star (an ok).1]
  show wpAny _ A (spliced ((false, eval e env) :: backTo pos (starEach es env))) R _ s
  refine Calls.spliced_cons (ha.bind (an ok).1 r hw fun v pv S1 D1 h1 tk1 x1 ra r1 q1 => hr (an ok).2 r1 q1 fun vs ps S2 D2 h2 tk2 x2 dl rs q2 => ?_)
  exact p (v :: vs) (pv :: ps) S2 D2 h2 tk2 (x1.trans x2) dl (.cons (ra.mono x2.mono) rs) q2
end
end Mine
end

section
open PySem PySem.W PyProof.Rows
namespace Mine

section
variable {prog : Program} {w : World} {G0 : Frz} {fa : Nat → Addr} {d : Option Addr} {fs : List Str} {N : Nat}

/-- the arguments of a call, none starred -/
theorem SEs.args {mes : MEs} (h : SEs prog w G0 fa d fs N mes) {c : Cx} {e1 : Expr} {es : List Expr} {env : Env} {A : Around} {σ : Sg} {ad : Nat → Addr} {S : Frz} {D : DS} {s : Shared} {Q : List PV → DS → Prop} {R : Args → Shared → Prop} {f : Value} {pos : Pos}
    (ok : okEs mes c (e1 :: es) = true) (r : Run G0 fa d fs N c env A σ ad S D s.heap) (hw : wpEs (CallOK prog w G0 d fa N) mes σ D Q)
    (k : ∀ vs ps S' D' h' tk', Ext d S s.heap S' h' → Reps d fa S' vs ps → Run G0 fa d fs N c env A σ ad S' D' h' → Q ps D' → R ⟨vs, []⟩ { s with heap := h', toks := tk' }) :
    wpAny (model prog w) A (evalArgs f true (backTo pos (starEach (e1 :: es) env)) []) R (fun _ _ => False) s := by
  have hs : ∀ rest, starEach (e1 :: rest) env = (false, eval e1 env) :: starEach rest env := by
    cases mes with
    | nil => exact no ok
    | cons a rr => exact okE_star (an ok).1
  have e : backTo pos (starEach (e1 :: es) env) = (false, eval e1 env) :: backTo pos (starEach es env) := by rw [hs]; rfl
  rw [e]
  refine Calls.evalArgs_plain ?_
  rw [← e]
  exact h ok r hw fun vs ps S' D' h' tk' ex dl rs q => k vs ps S' D' h' tk' ex rs (r.ext ex dl) q

theorem noStar {mes : MEs} {c : Cx} {es : List Expr} {env : Env} {pos : Pos} (ok : okEs mes c es = true) : (backTo pos (starEach es env)).any (·.1) = false := by
  induction es generalizing mes with
  | nil => rfl
  | cons e es ih =>
    cases mes with
    | nil => exact no ok
    | cons a rr =>
      rw [okE_star (an ok).1]
      show (false || (backTo pos (starEach es env)).any (·.1)) = false
      rw [ih (an ok).2]; rfl

theorem call_fn (GL : Globs G0 fs fa) {mes : MEs} (h : SEs prog w G0 fa d fs N mes) {c : Cx} {e1 : Expr} {es : List Expr} {env : Env} {A : Around} {σ : Sg} {ad : Nat → Addr} {S : Frz} {D : DS} {s : Shared} {Q : PV → DS → Prop} {R : Value → Shared → Prop} {k : Nat} {n : Str} {pos : Pos}
    (hk : fs[k]? = some n) (ok : okEs mes c (e1 :: es) = true) (r : Run G0 fa d fs N c env A σ ad S D s.heap) (hw : wpEs (CallOK prog w G0 d fa N) mes σ D fun vs D₁ => CallOK prog w G0 d fa N k vs D₁ Q) (p : Post d fa S s Q R) :
    wpAny (model prog w) A (callWith pos (.ref (fa k)) [] (backTo pos (starEach (e1 :: es) env)) []) R (fun _ _ => False) s := by
  obtain ⟨o, fd, g1, g2⟩ := GL.isfn k n hk
  refine Calls.callWith_function (o := o) (fd := fd) (h.args ok r hw fun vs ps S1 D1 h1 tk1 x1 rs r1 q => ⟨⟨r1.ok.sub _ _ (r1.ok.g _ _ g1), g2⟩, ?_⟩)
  exact q A S1 _ vs R r1.room r1.ok.g r1.ok.sub r1.ok.deal rs (p.after x1)

theorem se_call (GL : Globs G0 fs fa) {k : Nat} {mes : MEs} (h : SEs prog w G0 fa d fs N mes) : SE prog w G0 fa d fs N (.call k mes) := by
  intro c e env A σ ad S D s Q R ok r hw p
  apply xCallN_e ok; intro id np as pos ok
  apply lc_e (an ok).2; intro e1 es ok2
  refine Call_Name rfl (fn_name GL r (an ok).1 ?_)
  exact call_fn GL h (by rw [← r.hfs]; exact (isFn_inv (an ok).1).1) ok2 r hw p

/-- a def held by a letter: it is one of the text's defs -/
theorem se_callv {x : Nat} {mes : MEs} (h : SEs prog w G0 fa d fs N mes) (hall : ∀ k, ∃ o fd, G0 (fa k) = some o ∧ o.data = .func fd) : SE prog w G0 fa d fs N (.callv x mes) := by
  intro c e env A σ ad S D s Q R ok r hw p
  apply xCallN_e ok; intro id np as pos ok
  apply lc_e (an ok).2; intro e1 es ok2
  obtain ⟨k, e2, hw⟩ := asFn_inv hw
  obtain ⟨v, hv, rp⟩ := var_load r (an ok).1 e2
  cases rp with
  | fn k =>
    refine Call_Name rfl (name_holds r.eo.kind (isVar_inv (an ok).1).2.2.2 hv ?_)
    obtain ⟨o, fd, g1, g2⟩ := hall k
    refine Calls.callWith_function (o := o) (fd := fd) (h.args ok2 r hw fun vs ps S1 D1 h1 tk1 x1 rs r1 q => ⟨⟨r1.ok.sub _ _ (r1.ok.g _ _ g1), g2⟩, ?_⟩)
    exact q A S1 _ vs R r1.room r1.ok.g r1.ok.sub r1.ok.deal rs (p.after x1)

theorem SE.one {a : ME} (h : SE prog w G0 fa d fs N a) : SEs prog w G0 fa d fs N (.cons a .nil) := ses_cons h ses_nil
theorem na {a b : Bool} (h : a = true) (k : b = true) : (a && b) = true := by rw [h, k]; rfl
theorem ok_one {a : ME} {c : Cx} {e : Expr} (ok : okE a c e = true) : okEs (.cons a .nil) c [e] = true := na ok rfl
theorem ok_two {a b : ME} {c : Cx} {e f : Expr} (o1 : okE a c e = true) (o2 : okE b c f = true) : okEs (.cons a (.cons b .nil)) c [e, f] = true := na o1 (na o2 rfl)
theorem ok_three {a b t : ME} {c : Cx} {e f g : Expr} (o1 : okE a c e = true) (o2 : okE b c f = true) (o3 : okE t c g = true) : okEs (.cons a (.cons b (.cons t .nil))) c [e, f, g] = true := na o1 (na o2 (na o3 rfl))

/-- a built-in of one argument -/
theorem call_bi1 {a : ME} (h : SE prog w G0 fa d fs N a) {c : Cx} {e : Expr} {env : Env} {A : Around} {σ : Sg} {ad : Nat → Addr} {S : Frz} {D : DS} {s : Shared} {Q : PV → DS → Prop} {R : Value → Shared → Prop} {id : String} {pos : Pos}
    (ok : okE a c e = true) (r : Run G0 fa d fs N c env A σ ad S D s.heap) (hw : wpE (CallOK prog w G0 d fa N) a σ D Q)
    (k : ∀ v pv S' D' h' tk', Ext d S s.heap S' h' → Rep d fa S' v pv → Run G0 fa d fs N c env A σ ad S' D' h' → Q pv D' → wpAny (model prog w) A (call (.builtin id) [v]) R (fun _ _ => False) { s with heap := h', toks := tk' }) :
    wpAny (model prog w) A (callWith pos (.builtin id) [] (backTo pos (starEach [e] env)) []) R (fun _ _ => False) s := by
  refine Calls.callWith_builtin (noStar (ok_one ok)) (SEs.args (SE.one h) (ok_one ok) r (Q := fun ps D' => ∃ pv, ps = [pv] ∧ Q pv D') ?_ fun vs ps S1 D1 h1 tk1 x1 rs r1 q => ?_)
  · exact hw' a σ D hw
  · obtain ⟨pv, rfl, q⟩ := q
    cases rs with
    | cons h1' r' => cases r'; exact k _ _ S1 D1 h1 tk1 x1 h1' r1 q
where
  hw' (a : ME) (σ : Sg) (D : DS) {Q : PV → DS → Prop} (h : wpE (CallOK prog w G0 d fa N) a σ D Q) : wpE (CallOK prog w G0 d fa N) a σ D fun v D₁ => ∃ pv, [v] = [pv] ∧ Q pv D₁ := by
    have e : (fun v D₁ => ∃ pv, [v] = [pv] ∧ Q pv D₁) = Q := by
      funext v D₁
      apply propext
      constructor
      · rintro ⟨pv, h1, h2⟩
        cases h1
        exact h2
      · exact fun h => ⟨v, rfl, h⟩
    rw [e]
    exact h
theorem call_ty1 {a : ME} (h : SE prog w G0 fa d fs N a) {c : Cx} {e : Expr} {env : Env} {A : Around} {σ : Sg} {ad : Nat → Addr} {S : Frz} {D : DS} {s : Shared} {Q : PV → DS → Prop} {R : Value → Shared → Prop} {T : String} {pos : Pos}
    (ok : okE a c e = true) (r : Run G0 fa d fs N c env A σ ad S D s.heap) (hw : wpE (CallOK prog w G0 d fa N) a σ D Q)
    (k : ∀ v pv S' D' h' tk', Ext d S s.heap S' h' → Rep d fa S' v pv → Run G0 fa d fs N c env A σ ad S' D' h' → Q pv D' → wpAny (model prog w) A (call (.type T) [v]) R (fun _ _ => False) { s with heap := h', toks := tk' }) :
    wpAny (model prog w) A (callWith pos (.type T) [] (backTo pos (starEach [e] env)) []) R (fun _ _ => False) s := by
  refine PyProof.Rows.callWith_type (noStar (ok_one ok)) (SEs.args (SE.one h) (ok_one ok) r (Q := fun ps D' => ∃ pv, ps = [pv] ∧ Q pv D') ?_ fun vs ps S1 D1 h1 tk1 x1 rs r1 q => ?_)
  · exact call_bi1.hw' a σ D hw
  · obtain ⟨pv, rfl, q⟩ := q
    cases rs with
    | cons h1' r' => cases r'; exact k _ _ S1 D1 h1 tk1 x1 h1' r1 q

theorem lim63 {n : Nat} (h : n < lim) : (n : Int) < 2 ^ 63 := by
  have : lim = 1048576 := by decide
  omega

theorem se_lenv (GL : Globs G0 fs fa) {x : Nat} : SE prog w G0 fa d fs N (.lenv x) := by
  intro c e env A σ ad S D s Q R ok r hw p
  obtain ⟨mg, mb, g1, g2, _, b1, _⟩ := GL.names
  apply xCallN_e ok; intro id np as pos ok
  apply l1_e (an ok).2; intro a1 ok2
  apply xName_e ok2; intro v vp ok2
  refine Call_Name rfl (bi_name r g1 g2 (an ok).1 b1.1 b1.2 ?_)
  obtain ⟨xs, e1, q⟩ := asSome_inv hw
  obtain ⟨a, vs, k1, k2, k3, k4, k5⟩ := list_load r ok2 e1
  refine Calls.callWith_builtin rfl (Calls.evalArgs_plain (Calls.spliced_cons (name_holds r.eo.kind (isVar_inv ok2).2.2.2 k1 (Calls.spliced_nil ?_))))
  refine PyProof.Rows.len_list k2 (by rw [List.size_toArray]; exact lim63 k4) ?_
  rw [List.size_toArray, ← k5]
  exact p.val r.ok (.int _ _) q
end
end Mine
end

section
open PySem PySem.W PyProof.Rows
namespace Mine

section
variable {prog : Program} {w : World} {G0 : Frz} {fa : Nat → Addr} {d : Option Addr} {fs : List Str} {N : Nat}

theorem call1_e {nm : Str} {a : ME} {c : Cx} {e : Expr} {P : Expr → Prop} (ok : xCallN (fun id es => c.isGlob id nm && l1 (fun e => okE a c e) es) e = true) (k : ∀ id np e1 pos, c.isGlob id nm = true → okE a c e1 = true → P (.Call (.Name id np) [e1] [] pos)) : P e :=
  xCallN_e ok fun id np as pos ok => l1_e (P := fun as => P (.Call (.Name id np) as [] pos)) (an ok).2 fun e1 o2 => k id np e1 pos (an ok).1 o2

theorem se_len (GL : Globs G0 fs fa) {a : ME} (ha : SE prog w G0 fa d fs N a) : SE prog w G0 fa d fs N (.len a) := by
  intro c e env A σ ad S D s Q R ok r hw p
  obtain ⟨mg, mb, g1, g2, _, b1, _⟩ := GL.names
  apply call1_e ok; intro id np e1 pos o1 o2
  refine Call_Name rfl (bi_name r g1 g2 o1 b1.1 b1.2 (call_bi1 ha o2 r hw fun v pv S1 D1 h1 tk1 x1 rp r1 q => ?_))
  obtain ⟨xs, rfl, q⟩ := asList_inv q
  obtain ⟨a, rfl⟩ := rp.list_ref
  obtain ⟨vs, k1, k2, k3, k4⟩ := rp.listAt (s := { s with heap := h1, toks := tk1 }) r1.ok.sub
  refine PyProof.Rows.len_list k1 (by rw [List.size_toArray]; exact lim63 k3) ?_
  rw [List.size_toArray, ← k4]
  exact (p.after x1).val r1.ok (.int _ _) q
theorem se_abs (GL : Globs G0 fs fa) {a : ME} (ha : SE prog w G0 fa d fs N a) : SE prog w G0 fa d fs N (.abs a) := by
  intro c e env A σ ad S D s Q R ok r hw p
  obtain ⟨mg, mb, g1, g2, _, _, b1, _⟩ := GL.names
  apply call1_e ok; intro id np e1 pos o1 o2
  refine Call_Name rfl (bi_name r g1 g2 o1 b1.1 b1.2 (call_bi1 ha o2 r hw fun v pv S1 D1 h1 tk1 x1 rp r1 q => ?_))
  obtain ⟨i, rfl, q⟩ := asInt_inv q
  obtain ⟨t, rfl⟩ := rp.int_inv
  exact PyProof.Rows.call_abs_int fun u tk => (p.after x1 (tk' := tk1)).val r1.ok (.int _ _) q
theorem se_toInt (GL : Globs G0 fs fa) {a : ME} (ha : SE prog w G0 fa d fs N a) : SE prog w G0 fa d fs N (.toInt a) := by
  intro c e env A σ ad S D s Q R ok r hw p
  obtain ⟨mg, mb, g1, g2, _, _, _, _, b1, _⟩ := GL.names
  apply call1_e ok; intro id np e1 pos o1 o2
  refine Call_Name rfl (bi_name r g1 g2 o1 b1.1 b1.2 (call_ty1 ha o2 r hw fun v pv S1 D1 h1 tk1 x1 rp r1 q => ?_))
  obtain ⟨i, rfl, q⟩ := asInt_inv q
  obtain ⟨t, rfl⟩ := rp.int_inv
  exact call_int_int ((p.after x1).val0 r1.ok (.int _ _) q)
theorem se_sum (GL : Globs G0 fs fa) {a : ME} (ha : SE prog w G0 fa d fs N a) : SE prog w G0 fa d fs N (.sum a) := by
  intro c e env A σ ad S D s Q R ok r hw p
  obtain ⟨mg, mb, g1, g2, _, _, _, b1, _⟩ := GL.names
  apply call1_e ok; intro id np e1 pos o1 o2
  refine Call_Name rfl (bi_name r g1 g2 o1 b1.1 b1.2 (call_bi1 ha o2 r hw fun v pv S1 D1 h1 tk1 x1 rp r1 q => ?_))
  obtain ⟨xs, rfl, q⟩ := asList_inv q
  obtain ⟨ns, e3, q⟩ := asSome_inv q
  obtain ⟨a, rfl⟩ := rp.list_ref
  obtain ⟨vs, k1, k2, k3, k4⟩ := rp.listAt (s := { s with heap := h1, toks := tk1 }) r1.ok.sub
  have hi := k2.ints e3
  obtain ⟨ys, hx⟩ := hi.allInts.items
  have hn : numsOf vs.toArray.toList = ns := by rw [show vs.toArray.toList = vs from rfl, hi.numsOf]
  rw [hx] at k1 hn
  rw [nums_intItems] at hn
  refine sum_intListG r.room.handled k1 fun h' tk t' hk => ?_
  rw [preSum_eq, List.take_of_length_le (by simp), hn]
  exact ((p.after x1 (tk' := tk1)).after (Ext.of_grew r1.ok.sub hk) (tk' := tk)).val0 ⟨r1.ok.g, fun a o e => hk a o (r1.ok.sub a o e), r1.ok.deal.grew hk⟩ (.int _ _) q

theorem subTail {value slice : Expr} {A : Around} {s : Shared} {o i : Value} {T id : String} {R : Value → Shared → Prop} {E : Value → Shared → Prop} (hT : s.TypeIs o T) (hl : typeLookup (.type T) "__getitem__" = pure (some (.builtin id)))
    (hs : subscripted slice false o i = operate [o, i] (getItem o i)) (h : wpAny (model prog w) A (getItem o i) R E s) : wpAny (model prog w) A (subscriptTail value slice o i) R E s := by
  unfold subscriptTail
  refine wpAny_bind ?_
  rw [getitemInPython_of_ne hT.not_modules]
  refine wpAny_bind (wpAny_specialOf hT hl ?_)
  have fin : wpAny (model prog w) A (subscripted slice false o i) (fun r s₃ => wpAny (model prog w) A (letTemporaryGo value o r >>= fun _ => pure r) R E s₃) E s := by
    rw [hs]
    exact wpAny_operating (wpAny_mono h (fun r s₃ h₃ => wpAny_bind (wpAny_letTemporaryGo (wpAny_pure h₃))) fun _ _ x => x)
  first
    | exact wpAny_pure (wpAny_bind fin)
    | exact wpAny_bind (wpAny_pure (wpAny_bind fin))
    | exact wpAny_bind fin

theorem lim_val : lim = 1048576 := by decide

/-- an item of a list -/
theorem item_sound {A : Around} {s : Shared} {a : Addr} {vs : List Value} {k : Int} {t : Tok} {j : Nat} {v : Value} {R : Value → Shared → Prop} {E : Value → Shared → Prop} (hl : s.heap.IsList a vs.toArray) (l : vs.length < lim) (hj : seqIndex? k vs.length = some j) (hv : vs[j]? = some v) (h : R v s) :
    wpAny (model prog w) A (getItem (.ref a) (.int k t)) R E s := by
  have l' : vs.length < 1048576 := by rw [← lim_val]; exact l
  unfold seqIndex? at hj
  by_cases hk : k < 0
  · rw [if_pos hk] at hj
    dsimp only at hj
    split at hj
    · rename_i hc
      simp only [Bool.and_eq_true, decide_eq_true_eq] at hc
      cases hj
      refine wpAny_getItem_list_neg hl hk (by rw [List.size_toArray]; omega) (by omega) ?_ h
      rw [List.size_toArray, List.getElem?_toArray]
      exact hv
    · cases hj
  · rw [if_neg hk] at hj
    dsimp only at hj
    split at hj
    · rename_i hc
      simp only [Bool.and_eq_true, decide_eq_true_eq] at hc
      cases hj
      refine wpAny_getItem_list hl (by omega) (by omega) ?_ h
      rw [List.getElem?_toArray]
      exact hv
    · cases hj

theorem Holds.det {env : Env} {h : Heap} {n : Str} {v v' : Value} (x : Holds env h n v) (y : Holds env h n v') : v = v' := by
  rcases x with ⟨a, m, ⟨o, es, ep, g1, g2, g3, g4⟩, e⟩ | ⟨a, c, b, o, f, g⟩
  · rcases y with ⟨a', m', ⟨o', es', ep', g1', g2', g3', g4'⟩, e'⟩ | ⟨a', _⟩
    · rw [g1] at g1'; cases g1'
      rw [g2] at g2'; cases g2'
      rw [← g4, g4', e'] at e
      exact (Option.some.inj e).symm
    · rw [a] at a'; cases a'
  · rcases y with ⟨a', _⟩ | ⟨a', c', b', o', f', g'⟩
    · rw [a] at a'; cases a'
    · rw [b] at b'; cases b'
      rw [f] at f'; cases f'
      rw [g] at g'; cases g'
      rfl

theorem se_idxv {x : Nat} {i : ME} (hi : SE prog w G0 fa d fs N i) : SE prog w G0 fa d fs N (.idxv x i) := by
  intro c e env A σ ad S D s Q R ok r hw p
  apply xSubN_e ok; intro v vp sl pos ok
  obtain ⟨_, e0, hw⟩ := asSome_inv hw
  obtain ⟨a, vs0, k1, _⟩ := list_load r (an ok).1 e0
  refine Subscript_ (name_holds r.eo.kind (isVar_inv (an ok).1).2.2.2 k1 (hi.bind (an ok).2 r hw fun v1 pv S1 D1 h1 tk1 x1 rp r1 q => ?_))
  obtain ⟨k, rfl, q⟩ := asInt_inv q
  obtain ⟨t, rfl⟩ := rp.int_inv
  obtain ⟨xs, e1, q⟩ := asSome_inv q
  obtain ⟨j, e2, q⟩ := asSome_inv q
  obtain ⟨pj, e3, q⟩ := asSome_inv q
  obtain ⟨a', vs, m1, m2, m3, m4, m5⟩ := list_load (s := { s with heap := h1, toks := tk1 }) r1 (an ok).1 e1
  have ea := (k1.ext r.ok.deal x1).det m1
  cases ea
  obtain ⟨vj, e4, rj⟩ := m3.get e3
  have hl : ({ s with heap := h1, toks := tk1 } : Shared).heap.IsList a vs.toArray := m2
  exact subTail hl.typeIs slot_list_getitem.lookup (okE_slice (an ok).2 _ _) (item_sound hl m4 (by rw [← m5]; exact e2) e4 ((p.after x1).val0 r1.ok rj q))
theorem se_idx {b i : ME} (hb : SE prog w G0 fa d fs N b) (hi : SE prog w G0 fa d fs N i) : SE prog w G0 fa d fs N (.idx b i) := by
  intro c e env A σ ad S D s Q R ok r hw p
  apply xSub_e ok; intro e1 sl pos ok
  refine Subscript_ (hb.bind (an ok).1 r hw fun v0 p0 S0 D0 h0 tk0 x0 rp0 r0 q0 => hi.bind (an ok).2 r0 q0 fun v1 pv S1 D1 h1 tk1 x1 rp r1 q => ?_)
  obtain ⟨k, rfl, q⟩ := asInt_inv q
  obtain ⟨t, rfl⟩ := rp.int_inv
  obtain ⟨xs, rfl, q⟩ := asList_inv q
  obtain ⟨j, e2, q⟩ := asSome_inv q
  obtain ⟨pj, e3, q⟩ := asSome_inv q
  obtain ⟨a, rfl⟩ := rp0.list_ref
  obtain ⟨vs, m2, m3, m4, m5⟩ := (rp0.mono x1.mono).listAt (s := { s with heap := h1, toks := tk1 }) r1.ok.sub
  obtain ⟨vj, e4, rj⟩ := m3.get e3
  exact subTail m2.typeIs slot_list_getitem.lookup (okE_slice (an ok).2 _ _) (item_sound m2 m4 (by rw [← m5]; exact e2) e4 (((p.after x0).after x1).val0 r1.ok rj q))

/-- two new objects: the slice, then the list -/
theorem Post.newSL {S : Frz} {D : DS} {s : Shared} {Q : PV → DS → Prop} {R : Value → Shared → Prop} (p : Post d fa S s Q R) (x : Ok G0 fa d S D s.heap) {o : Obj} {vs : List Value} {xs : List PV} {n : Nat} {tk : Nat} (rs : Reps d fa S vs xs) (l : xs.length < lim) (q : Q (.list xs) D) :
    R (.ref (s.heap.objs.size + 1)) { s with heap := (s.heap.push o).push { cls := .type "list", data := .seq vs.toArray n }, toks := tk } := by
  have g := Grew.push s.heap o
  have x' : Ok G0 fa d S D (s.heap.push o) := ⟨x.g, fun a o' e => g a o' (x.sub a o' e), x.deal.grew g⟩
  have := (p.after (Ext.of_grew x.sub g) (tk' := s.toks)).newL (s := { s with heap := s.heap.push o, toks := s.toks }) x' (n := n) (tk := tk) rs l q
  rw [show ({ s with heap := s.heap.push o, toks := s.toks } : Shared).heap.objs.size = s.heap.objs.size + 1 from Heap.size_push ..] at this
  exact this

theorem gf_gv {σ : Sg} {x : Nat} {xs : List PV} (e : gf σ x = some xs) : gv σ x = some (.list xs) := by
  unfold gf at e; unfold gv
  split at e
  · rename_i q; rw [q]; cases e; rfl
  · cases e
theorem se_sliceTo {x : Nat} {i : ME} (hi : SE prog w G0 fa d fs N i) : SE prog w G0 fa d fs N (.sliceTo x i) := by
  intro c e env A σ ad S D s Q R ok r hw p
  apply xSubN_e ok; intro v vp sl pos ok
  apply xSlice_e ok; intro lo up st sp ok
  apply o0_e (an ok).1
  apply o0_e (an (an ok).2).1
  apply o1_e (an (an ok).2).2; intro u ok
  obtain ⟨xs, e0, hw⟩ := asSome_inv hw
  obtain ⟨v0, k1, rp0⟩ := var_load r (an ok).1 (gf_gv e0)
  obtain ⟨a, rfl⟩ := rp0.list_ref
  refine wpAny_Subscript_list_slice (name_holds r.eo.kind (isVar_inv (an ok).1).2.2.2 k1 ?_)
  refine wpAny_pure (hi.bind (an ok).2 r hw fun v1 pv S1 D1 h1 tk1 x1 rp r1 q => ?_)
  obtain ⟨k, rfl, q⟩ := asInt_inv q
  obtain ⟨t, rfl⟩ := rp.int_inv
  obtain ⟨vs, m2, m3, m4, m5⟩ := (rp0.mono x1.mono).listAt (s := { s with heap := h1, toks := tk1 }) r1.ok.sub
  obtain ⟨b, hb⟩ := Int.eq_ofNat_of_zero_le q.1
  subst hb
  refine ⟨a, vs.toArray, none, some ((b : Nat) : Int), rfl, m2, by rw [List.size_toArray]; have := lim_line; omega, .none, .int _ _, ?_⟩
  rw [slicePick_upto' vs.toArray b]
  have q2 := q.2
  exact (p.after x1 (tk' := tk1)).newSL r1.ok (m3.take b) (by rw [List.length_take]; omega) q2
theorem se_sliceAll {x : Nat} : SE prog w G0 fa d fs N (.sliceAll x) := by
  intro c e env A σ ad S D s Q R ok r hw p
  apply xSubN_e ok; intro v vp sl pos ok
  apply xSlice_e ok; intro lo up st sp ok
  apply o0_e (an ok).1
  apply o0_e (an (an ok).2).1
  apply o0_e (an (an (an ok).2).2).1
  have ok := (an (an (an ok).2).2).2
  obtain ⟨xs, e0, hw⟩ := asSome_inv hw
  obtain ⟨v0, k1, rp0⟩ := var_load r ok (gf_gv e0)
  obtain ⟨a, rfl⟩ := rp0.list_ref
  refine wpAny_Subscript_list_slice (name_holds r.eo.kind (isVar_inv ok).2.2.2 k1 ?_)
  refine wpAny_pure (wpAny_pure ?_)
  obtain ⟨vs, m2, m3, m4, m5⟩ := rp0.listAt r.ok.sub
  refine ⟨a, vs.toArray, none, none, rfl, m2, by rw [List.size_toArray]; have := lim_line; omega, .none, .none, ?_⟩
  rw [slicePick_all]
  exact p.newSL r.ok m3 (by omega) hw

theorem minusOne_eval {u : Expr} {env : Env} {A : Around} {s : Shared} {R : Value → Shared → Prop} {E : Value → Shared → Prop} (h : isMinusOne u = true) (hR : ∀ t tk, R (.int (-1) t) { s with toks := tk }) : wpAny (model prog w) A (eval u env) R E s := by
  rcases orr h with h | h
  · apply xUn_e h; intro o x pos h
    cases eq_of_beq (an h).1
    apply xConst_e (an h).2; intro v k p h
    apply kInt_e h; intro i h
    cases eq_of_beq h
    exact UnaryOp_ (wpAny_Constant_int (PyProof.Rows.neg_int (hR _ _)))
  · apply xBin_e h; intro l o rr pos h
    cases eq_of_beq (an h).1
    apply xConst_e (an (an h).2).1; intro v k p h1
    apply kInt_e h1; intro i h1
    apply xConst_e (an (an h).2).2; intro v' k' p' h2
    apply kInt_e h2; intro j h2
    cases eq_of_beq h1
    cases eq_of_beq h2
    exact wpAny_BinOp (wpAny_Constant_int (wpAny_Constant_int (PyProof.Rows.sub_int (hR _ _))))
theorem se_sliceRev {x : Nat} : SE prog w G0 fa d fs N (.sliceRev x) := by
  intro c e env A σ ad S D s Q R ok r hw p
  apply xSubN_e ok; intro v vp sl pos ok
  apply xSlice_e ok; intro lo up st sp ok
  apply o0_e (an ok).1
  apply o0_e (an (an ok).2).1
  apply o1_e (an (an ok).2).2; intro u ok
  obtain ⟨xs, e0, hw⟩ := asSome_inv hw
  obtain ⟨v0, k1, rp0⟩ := var_load r (an ok).1 (gf_gv e0)
  obtain ⟨a, rfl⟩ := rp0.list_ref
  obtain ⟨vs, m2, m3, m4, m5⟩ := rp0.listAt r.ok.sub
  refine wpAny_Subscript_Slice_step (T := "list") list_getitem_lookup (name_holds r.eo.kind (isVar_inv (an ok).1).2.2.2 k1 ?_)
  refine wpAny_Slice (wpAny_pure (wpAny_pure (minusOne_eval (an ok).2 fun t tk => ?_)))
  have m2' := m2.push { cls := .type "slice", data := .fields #[.none, .none, .int (-1) t] }
  refine ⟨m2'.typeIs, wpAny_getItem_list_slice m2' (Heap.IsSliceOf.new ..) .none .none (.int (-1) t) (by decide) ?_ (by rw [List.size_toArray]; have := lim_line; omega)⟩
  rw [krv_pick, Heap.size_push]
  exact p.newSL r.ok m3.reverse (by rw [List.length_reverse]; omega) hw

theorem se_list {mes : MEs} (h : SEs prog w G0 fa d fs N mes) : SE prog w G0 fa d fs N (.list mes) := by
  intro c e env A σ ad S D s Q R ok r hw p
  apply xList_e ok; intro es pos ok
  refine List_ (h ok r hw fun vs ps S1 D1 h1 tk1 x1 dl rs q => ?_)
  have r1 := r.ext x1 dl
  refine wpAny_newObj_type ((p.after x1 (tk' := tk1)).newL r1.ok rs q.1 q.2) ?_
  show vs.toArray.size ≤ sizeLine
  rw [List.size_toArray, rs.length]
  have := lim_line; have := q.1; omega
theorem se_tup {mes : MEs} (h : SEs prog w G0 fa d fs N mes) : SE prog w G0 fa d fs N (.tup mes) := by
  intro c e env A σ ad S D s Q R ok r hw p
  apply xTup_e ok; intro es k pos ok
  refine Tuple_ (h ok r hw fun vs ps S1 D1 h1 tk1 x1 dl rs q => ?_)
  have r1 := r.ext x1 dl
  refine wpAny_newObj_type ((p.after x1 (tk' := tk1)).newT r1.ok rs q.1 q.2) ?_
  show vs.toArray.size ≤ sizeLine
  rw [List.size_toArray, rs.length]
  have := lim_line; have := q.1; omega

theorem Rep.replicate' {S : Frz} {v : Value} {p : PV} (y : Rep d fa S v p) (n : Nat) : Reps d fa S (List.replicate n v) (List.replicate n p) := Reps.replicate y n
theorem foldl_one (v : Value) : ∀ n : Nat, List.foldl (fun x1 x2 => x1 ++ x2) #[] (List.replicate n #[v]) = (List.replicate n v).toArray := by
  have key : ∀ (n : Nat) (acc : Array Value), List.foldl (fun x1 x2 => x1 ++ x2) acc (List.replicate n #[v]) = acc ++ (List.replicate n v).toArray := by
    intro n
    induction n with
    | zero => intro acc; simp
    | succ n ih => intro acc; rw [List.replicate_succ, List.foldl_cons, ih, List.replicate_succ]; apply Array.toList_inj.mp; simp
  intro n
  rw [key]; simp

theorem se_rep {b n : ME} (hb : SE prog w G0 fa d fs N b) (hn : SE prog w G0 fa d fs N n) : SE prog w G0 fa d fs N (.rep b n) := by
  intro c e env A σ ad S D s Q R ok r hw p
  apply xBin_e ok; intro l o rr pos ok
  cases eq_of_beq (an ok).1
  apply xList_e (an ok).2; intro es lp ok
  apply l1_e ok; intro e1 ok
  refine wpAny_BinOp (List_ ?_)
  rw [okE_star (an ok).1]
  show wpAny _ A (spliced [(false, eval e1 env)]) _ _ s
  refine Calls.spliced_cons (hb.bind (an ok).1 r hw fun v0 p0 S0 D0 h0 tk0 x0 rp0 r0 q0 => Calls.spliced_nil (wpAny_newObj_type ?_))
  -- the one-item list, not frozen: it stays where it is
  have g := Grew.push h0 { cls := .type "list", data := .seq [v0].toArray 0 }
  have xg := Ext.of_grew (d := d) r0.ok.sub g
  have r0' := r0.ext xg (r0.ok.deal.grew g)
  have new : (h0.push { cls := .type "list", data := .seq [v0].toArray 0 }).get? h0.objs.size = some { cls := .type "list", data := .seq [v0].toArray 0 } := Heap.get?_push_size _ rfl
  refine hn.bind (s := { s with heap := h0.push { cls := .type "list", data := .seq [v0].toArray 0 }, toks := tk0 }) (an ok).2 r0' q0 fun v1 pv S1 D1 h1 tk1 x1 rp r1 q => ?_
  obtain ⟨k, rfl, ⟨hk0, hk⟩, q⟩ := asInt_inv q
  obtain ⟨t, rfl⟩ := rp.int_inv
  have ne : some h0.objs.size ≠ d := deal_ne r0.ok.deal (size_none h0)
  have ho := x1.keep _ _ ne new
  have hk' : k < 1048576 := by rw [← show ((lim : Nat) : Int) = 1048576 by rw [lim_val]; rfl]; exact hk
  refine wpAny_binaryOp_repeat_ref (T := "list") (U := "int") (by decide) ⟨_, ho, rfl⟩ (fun s' => typeIs_int s' k t) noFill_list_mul F.fills_int_mul F.slot_int_rmul repeat_list F.slot_int_index.lookup
    (call_meets F.slot_int_rmul (typeIs_int _ k t) F.entry_int_rmul (F.args_int_rmul_2 _ _) (int___rmul___int_list k t h0.objs.size [v0].toArray 0)
      ⟨ho, rfl, ⟨_, ho, rfl⟩, call_meets F.slot_list_mul ⟨_, ho, rfl⟩ F.entry_list_mul (F.args_list_mul_2 _ _)
        (AutoListH.list___mul___list_int_3 h0.objs.size [v0].toArray 0 k t (by simp [Builtin.List.listFitsIndex]; omega) (by simp; omega) (by simp [Builtin.List.listTooLong, sizeLine]; omega)) ⟨ho, ?_⟩⟩)
  have e : List.foldl (fun x1 x2 => x1 ++ x2) #[] (List.replicate (if ([v0].toArray : Array Value).isEmpty = true then 0 else k.toNat) [v0].toArray) = (List.replicate k.toNat v0).toArray := by
    rw [if_neg (by simp)]
    exact foldl_one v0 k.toNat
  rw [e]
  have rv : Rep d fa S1 v0 p0 := (rp0.mono xg.mono).mono x1.mono
  exact ((p.after x0 (tk' := tk0)).after (xg.trans x1) (tk' := tk1)).newL r1.ok (rv.replicate' k.toNat) (by rw [List.length_replicate, lim_val]; omega) q
end
end Mine
end

section
open PySem PySem.W PyProof.Rows
namespace Mine

section
variable {prog : Program} {w : World} {G0 : Frz} {fa : Nat → Addr} {d : Option Addr} {fs : List Str} {N : Nat}

theorem base_plain {o : Expr} {n : Str} {env : Env} (h : plainBase o = true) : attributeBase o n env (eval o env) = eval o env := by
  rcases orr h with h | h
  · apply xName_e h; intro _ _ _; rfl
  · rcases orr h with h | h
    · apply xSub_e h; intro _ _ _ _; rfl
    · apply xCall_e h; intro f as ks p h
      apply lc_e h; intro a r _
      cases f <;> rfl

/-- a method's call of a built-in's: the base, the method, the arguments -/
theorem method_call {o : Expr} {n : Str} {ap ps : Pos} {as : List Expr} {env : Env} {A : Around} {s : Shared} {R : Value → Shared → Prop} {E : Value → Shared → Prop} (hb : plainBase o = true) (hl : (ap.endLine == ps.line) = true)
    (hf : methodCallForm (as.length + 0) (backTo ps (starEach as env)) [] = true)
    (h : wpAny (model prog w) A (eval o env) (fun ov s₁ => ∀ pl : Sem Bool, wpAny (model prog w) A (getMethod ov n pl) (fun fx s₂ => wpAny (model prog w) A (callWith ps fx.1 fx.2 (backTo ps (starEach as env)) []) R E s₂) E s₁) E s) :
    wpAny (model prog w) A (eval (.Call (.Attribute o n ap) as [] ps) env) R E s := by
  rw [arm_eval_Call, base_plain hb]
  refine wpAny_bind (wpAny_mono h (fun ov s₁ h₁ => wpAny_bind (wpAny_standAt ?_)) fun _ _ x => x)
  have hp : methodCallPos true o env ap ps = pure ps := by unfold methodCallPos; simp [hl]
  show wpAny _ A (methodCall o n ap ps env ov (as.length + 0) (backTo ps (starEach as env)) []) R E s₁
  unfold methodCall
  rw [hf, hp]
  refine wpAny_bind (wpAny_holding ?_)
  show wpAny _ A (getMethod ov n _) _ E s₁
  refine wpAny_mono (h₁ _) (fun fx s₂ h₂ => ?_) fun _ _ x => x
  exact wpAny_bind (wpAny_pure h₂)

set_option maxRecDepth 100000 in
theorem se_bitlen {a : ME} (ha : SE prog w G0 fa d fs N a) : SE prog w G0 fa d fs N (.bitlen a) := by
  intro c e env A σ ad S D s Q R ok r hw p
  apply xMeth_e ok; intro o n ap ps ok
  have o1 := (an (an ok).1).1
  have en : n = ("bit_length" : Str) := by simpa using o1
  subst en
  refine method_call (an (an ok).2).1 (an (an ok).1).2 rfl (ha.bind (an (an ok).2).2 r hw fun v pv S1 D1 h1 tk1 x1 rp r1 q => fun pl => ?_)
  obtain ⟨i, rfl, q⟩ := asInt_inv q
  obtain ⟨t, rfl⟩ := rp.int_inv
  refine getMethod_int_bit_length ?_
  refine callWith_method0 ?_
  refine call_int_bit_length ?_
  exact (p.after x1 (tk' := tk1)).val r1.ok (.int _ _) q
end
end Mine
end

section
open PySem PySem.W PyProof.Rows
namespace Mine

noncomputable def ItemRep (pat : MP) (d : Option Addr) (fa : Nat → Addr) (S : Frz) (h : Heap) (v : Value) (p : PV) : Prop := match pat with
  | .one _ => Rep d fa S v p
  | .two _ _ => ∃ T v1 v2 p1 p2, v = .ref T ∧ h.IsTuple T #[v1, v2] ∧ p = .tup [p1, p2] ∧ Rep d fa S v1 p1 ∧ Rep d fa S v2 p2

noncomputable def TargetOk (pat : MP) (t : Expr) : Prop := match pat with
  | .one _ => ∃ id p, t = .Name id p
  | .two _ _ => ∃ es k p, t = .Tuple es k p

noncomputable def IterAt (prog : Program) (w : World) (A : Around) (d : Option Addr) (fa : Nat → Addr) (t : Expr) (pat : MP) (S : Frz) (h0 : Heap) (xs : List PV) (it : Value) (h : Heap) : Prop :=
  ∃ (I : Addr) (fp wr : List Addr) (P Md : Nat → Value → Heap → Prop) (St : Nat → Heap → Prop), it = .ref I ∧ KTurns prog w A t I fp wr xs.length P Md St ∧
    (∀ i (s : Shared) (Q : Value → Shared → Prop) (E : Value → Shared → Prop), St i s.heap → Q (.ref I) s → wpAny (model prog w) A (pyIter (.ref I)) Q E s) ∧ St 0 h ∧
    (∀ b ∈ fp, (∃ o, S b = some o) ∨ h0.get? b = none) ∧ (∀ i h', St i h' → ∀ b ∈ fp, ∃ o, h'.get? b = some o) ∧ (∀ b ∈ wr, h0.get? b = none ∧ S b = none) ∧
    ∀ i v h' S', i < xs.length → P i v h' → Le S S' → Sub S' h' → ∃ p, xs[i]? = some p ∧ ItemRep pat d fa S' h' v p

section
variable (prog : Program) (w : World) (G0 : Frz) (fa : Nat → Addr) (d : Option Addr) (fs : List Str) (N : Nat)
noncomputable def SI (mi : MI) : Prop := ∀ {c : Cx} {e : Expr} {env : Env} {A : Around} {σ : Sg} {ad : Nat → Addr} {S : Frz} {D : DS} {s : Shared} {Q : List PV → DS → Prop} {t : Expr} {pat : MP} {K : Value → Shared → Prop},
  okI mi c e = true → shapeOk pat mi = true → TargetOk pat t → Run G0 fa d fs N c env A σ ad S D s.heap → wpI (CallOK prog w G0 d fa N) mi σ D Q →
  (∀ xs S' D' h' tk' it, Ext d S s.heap S' h' → Run G0 fa d fs N c env A σ ad S' D' h' → IterAt prog w A d fa t pat S' s.heap xs it h' → Q xs D' → K it { s with heap := h', toks := tk' }) →
  wpAny (model prog w) A (eval e env) (fun x s₁ => wpAny (model prog w) A (pyIter x) K (fun _ _ => False) s₁) (fun _ _ => False) s
end

section
variable {prog : Program} {w : World} {G0 : Frz} {fa : Nat → Addr} {d : Option Addr} {fs : List Str} {N : Nat}

theorem IsTup_eq {h : Heap} {t : Addr} {items : Array Value} (x : IsTup h t items) : h.IsTuple t items := x

theorem all_nil {α : Type} {P : α → Prop} : ∀ b ∈ ([] : List α), P b := fun _ h => nomatch h
theorem all_cons {α : Type} {P : α → Prop} {a : α} {l : List α} (h : P a) (t : ∀ b ∈ l, P b) : ∀ b ∈ a :: l, P b := List.forall_mem_cons.mpr ⟨h, t⟩

/-- a list's iterator -/
theorem iter_list {A : Around} {S : Frz} {s : Shared} {D : DS} {t : Expr} {pat : MP} {K : Value → Shared → Prop} {a : Addr} {xs : List PV} {c : Cx} {env : Env} {σ : Sg} {ad : Nat → Addr} {h0 : Heap}
    (ht : ∃ x, pat = .one x) (hg : TargetOk pat t) (r : Run G0 fa d fs N c env A σ ad S D s.heap) (rp : Rep d fa S (.ref a) (.list xs)) (h00 : ∀ b, s.heap.get? b = none → h0.get? b = none)
    (k : ∀ h' tk' it, Ext d S s.heap S h' → Run G0 fa d fs N c env A σ ad S D h' → IterAt prog w A d fa t pat S h0 xs it h' → K it { s with heap := h', toks := tk' }) :
    wpAny (model prog w) A (pyIter (.ref a)) K (fun _ _ => False) s := by
  obtain ⟨x, rfl⟩ := ht
  obtain ⟨id, tp, rfl⟩ := hg
  obtain ⟨vs, m2, m3, m4, m5⟩ := rp.listAt r.ok.sub
  have aS : ∃ o, S a = some o := by cases rp with | list h1 _ _ _ _ => exact ⟨_, h1⟩
  obtain ⟨oa, hoa⟩ := aS
  have hne : a ≠ s.heap.objs.size := Nat.ne_of_lt (Heap.lt_size (r.ok.sub _ _ hoa))
  refine wpAny_pyIter_list m2 ?_
  have g := Grew.push s.heap { cls := .type "list_iterator", data := .fields #[.ref a, .int 0 0] }
  have xg := Ext.of_grew (d := d) r.ok.sub g
  have W := Walks.list (prog := prog) (w := w) r.room.handled s.heap.objs.size a hne vs.toArray
  have hn : vs.toArray.size = xs.length := by rw [List.size_toArray, m5]
  rw [hn] at W
  refine k _ s.toks _ xg (r.ext xg (r.ok.deal.grew g)) ⟨_, _, _, _, _, _, rfl, KTurns.ofWalks W fun i v s' Q E _ q => ?_, W.self, ⟨⟨_, Heap.get?_push_size _ rfl, rfl, rfl⟩, m2.push _⟩, ?_, ?_, ?_, ?_⟩
  · exact wpAny_of_eq (a := ()) rfl q
  · exact all_cons (.inr (h00 _ (size_none _))) (all_cons (.inl ⟨_, hoa⟩) all_nil)
  · exact fun i h' z => all_cons ⟨z.1.choose, z.1.choose_spec.1⟩ (all_cons ⟨z.2.choose, z.2.choose_spec.1⟩ all_nil)
  · exact all_cons ⟨h00 _ (size_none _), S_none r.ok.sub (size_none _)⟩ all_nil
  · intro i v h' S' hi hP le sub
    have hP' : vs.toArray[i]? = some v := hP
    rw [List.getElem?_toArray] at hP'
    obtain ⟨p, e1, e2⟩ := m3.getV hP'
    exact ⟨p, e1, e2.mono le⟩

/-- a tuple's iterator -/
theorem iter_tup {A : Around} {S : Frz} {s : Shared} {D : DS} {t : Expr} {pat : MP} {K : Value → Shared → Prop} {a : Addr} {xs : List PV} {c : Cx} {env : Env} {σ : Sg} {ad : Nat → Addr} {h0 : Heap}
    (ht : ∃ x, pat = .one x) (hg : TargetOk pat t) (r : Run G0 fa d fs N c env A σ ad S D s.heap) (rp : Rep d fa S (.ref a) (.tup xs)) (h00 : ∀ b, s.heap.get? b = none → h0.get? b = none)
    (k : ∀ h' tk' it, Ext d S s.heap S h' → Run G0 fa d fs N c env A σ ad S D h' → IterAt prog w A d fa t pat S h0 xs it h' → K it { s with heap := h', toks := tk' }) :
    wpAny (model prog w) A (pyIter (.ref a)) K (fun _ _ => False) s := by
  obtain ⟨x, rfl⟩ := ht
  obtain ⟨id, tp, rfl⟩ := hg
  cases rp with
  | @tup _ o vs n _ h1 h2 h3 h4 m3 =>
    have m2 : s.heap.IsTuple a vs.toArray := ⟨o, r.ok.sub _ _ h1, h2, n, h3⟩
    have hne : a ≠ s.heap.objs.size := Nat.ne_of_lt (Heap.lt_size (r.ok.sub _ _ h1))
    refine wpAny_pyIter_tuple m2 ?_
    have g := Grew.push s.heap { cls := .type "tuple_iterator", data := .fields #[.ref a, .int 0 0] }
    have xg := Ext.of_grew (d := d) r.ok.sub g
    have W := Walks.tuple (prog := prog) (w := w) r.room.handled s.heap.objs.size a hne vs.toArray
    have hn : vs.toArray.size = xs.length := by rw [List.size_toArray, m3.length]
    rw [hn] at W
    refine k _ s.toks _ xg (r.ext xg (r.ok.deal.grew g)) ⟨_, _, _, _, _, _, rfl, KTurns.ofWalks W fun i v s' Q E _ q => ?_, W.self, ⟨⟨_, Heap.get?_push_size _ rfl, rfl, rfl⟩, m2.at fun o e => g _ _ e⟩, ?_, ?_, ?_, ?_⟩
    · exact wpAny_of_eq (a := ()) rfl q
    · exact all_cons (.inr (h00 _ (size_none _))) (all_cons (.inl ⟨_, h1⟩) all_nil)
    · exact fun i h' z => all_cons ⟨z.1.choose, z.1.choose_spec.1⟩ (all_cons ⟨z.2.choose, z.2.choose_spec.1⟩ all_nil)
    · exact all_cons ⟨h00 _ (size_none _), S_none r.ok.sub (size_none _)⟩ all_nil
    · intro i v h' S' hi hP le sub
      have hP' : vs.toArray[i]? = some v := hP
      rw [List.getElem?_toArray] at hP'
      obtain ⟨p, e1, e2⟩ := m3.getV hP'
      exact ⟨p, e1, e2.mono le⟩

theorem si_of {e0 : ME} (h : SE prog w G0 fa d fs N e0) : SI prog w G0 fa d fs N (.of e0) := by
  intro c e env A σ ad S D s Q t pat K ok sh tg r hw k
  have ht : ∃ x, pat = .one x := by cases pat <;> first | exact ⟨_, rfl⟩ | exact no sh
  refine h.bind ok r hw fun v pv S1 D1 h1 tk1 x1 rp r1 q => ?_
  cases pv with
  | list xs =>
    obtain ⟨a, rfl⟩ := rp.list_ref
    exact iter_list (s := { s with heap := h1, toks := tk1 }) ht tg r1 rp (fun b e => x1.dom b e) fun h' tk' it x2 r2 ia => k xs S1 D1 h' tk' it (x1.trans x2) r2 ia q
  | tup xs =>
    cases rp with
    | tup g1 g2 g3 g4 g5 => exact iter_tup (s := { s with heap := h1, toks := tk1 }) ht tg r1 (.tup g1 g2 g3 g4 g5) (fun b e => x1.dom b e) fun h' tk' it x2 r2 ia => k xs S1 D1 h' tk' it (x1.trans x2) r2 ia q
  | _ => exact q.elim

/-- a range's iterator -/
theorem iter_range {A : Around} {S : Frz} {s : Shared} {D : DS} {t : Expr} {pat : MP} {K : Value → Shared → Prop} {rg : Addr} {a b cc : Int} {t1 t2 t3 : Tok} {c : Cx} {env : Env} {σ : Sg} {ad : Nat → Addr} {h0 : Heap}
    (ht : ∃ x, pat = .one x) (hg : TargetOk pat t) (r : Run G0 fa d fs N c env A σ ad S D s.heap) (hr : IsRange s.heap rg a b cc t1 t2 t3) (hsm : Builtin.Range.small a b cc = true) (h00 : ∀ b, s.heap.get? b = none → h0.get? b = none)
    (k : ∀ h' tk' it, Ext d S s.heap S h' → Run G0 fa d fs N c env A σ ad S D h' → IterAt prog w A d fa t pat S h0 ((rangeInts a b cc).map .int) it h' → K it { s with heap := h', toks := tk' }) :
    wpAny (model prog w) A (pyIter (.ref rg)) K (fun _ _ => False) s := by
  obtain ⟨x, rfl⟩ := ht
  obtain ⟨id, tp, rfl⟩ := hg
  refine wpAny_pyIter_range hr hsm ?_
  have g := Grew.push s.heap { cls := .type "range_iterator", data := .fields #[rawInt a, rawInt (Builtin.Range.rangeSize a b cc), rawInt cc] }
  have xg := Ext.of_grew (d := d) r.ok.sub g
  have hpos : 0 ≤ Builtin.Range.rangeSize a b cc := by
    unfold Builtin.Range.rangeSize
    split <;> split <;> first | omega | (have := Int.ediv_nonneg (a := b - a - 1) (b := cc) (by omega) (by omega); omega) | (have := Int.ediv_nonneg (a := a - b - 1) (b := -cc) (by omega) (by omega); omega)
  have W := Walks.range (prog := prog) (w := w) r.room.handled s.heap.objs.size a cc (Builtin.Range.rangeSize a b cc).toNat
  have hlen : (Builtin.Range.rangeSize a b cc).toNat = ((rangeInts a b cc).map PV.int).length := by simp [rangeInts]
  rw [hlen] at W
  refine k _ s.toks _ xg (r.ext xg (r.ok.deal.grew g)) ⟨_, _, _, _, _, _, rfl, KTurns.ofWalks W fun i v s' Q E _ q => ?_, W.self, ?_, ?_, ?_, ?_, ?_⟩
  · exact wpAny_of_eq (a := ()) rfl q
  · show IsRangeIter _ _ (a + ((0 : Nat) : Int) * cc) (((((rangeInts a b cc).map PV.int).length : Nat) : Int) - ((0 : Nat) : Int)) cc
    rw [← hlen, Int.toNat_of_nonneg hpos]
    simp only [Int.natCast_zero, Int.zero_mul, Int.add_zero, Int.sub_zero]
    exact Heap.get?_push_size _ rfl
  · exact all_cons (.inr (h00 _ (size_none _))) all_nil
  · exact fun i h' hst => all_cons ⟨_, hst⟩ all_nil
  · exact all_cons ⟨h00 _ (size_none _), S_none r.ok.sub (size_none _)⟩ all_nil
  · intro i v h' S' hi hP le sub
    obtain ⟨tt, rfl⟩ := hP
    rw [← hlen] at hi
    refine ⟨.int (a + cc * (i : Int)), ?_, ?_⟩
    · simp only [rangeInts, List.map_map, List.getElem?_map, List.getElem?_range hi, Option.map_some, Function.comp]
    · rw [Int.mul_comm cc]; exact .int _ _

theorem small_of {a b cc : Int} (ha : a.natAbs < lim) (hb : b.natAbs < lim) (hc : cc.natAbs < lim) : Builtin.Range.small a b cc = true := by
  rw [lim_val] at ha hb hc
  have hs : 0 ≤ Builtin.Range.rangeSize a b cc ∧ Builtin.Range.rangeSize a b cc ≤ 4194304 := by
    unfold Builtin.Range.rangeSize
    split <;> split
    · rename_i h1 h2
      have l1 := Int.ediv_nonneg (a := b - a - 1) (b := cc) (by omega) (by omega)
      have l2 := Int.ediv_le_self (a := b - a - 1) cc (by omega)
      omega
    · omega
    · rename_i h1 h2
      have l1 := Int.ediv_nonneg (a := a - b - 1) (b := -cc) (by omega) (by omega)
      have l2 := Int.ediv_le_self (a := a - b - 1) (-cc) (by omega)
      omega
    · omega
  unfold Builtin.Range.small Builtin.Range.rangeFitsLong
  simp only [Bool.and_eq_true, Bool.or_eq_true, decide_eq_true_eq]
  refine ⟨⟨⟨⟨?_, ?_⟩, ?_⟩, ?_⟩, .inr ?_⟩
  all_goals first
    | omega
    | (split <;> simp only [Bool.and_eq_true, decide_eq_true_eq] <;> omega)

theorem si_range1 (GL : Globs G0 fs fa) {a : ME} (ha : SE prog w G0 fa d fs N a) : SI prog w G0 fa d fs N (.range1 a) := by
  intro c e env A σ ad S D s Q t pat K ok sh tg r hw k
  have ht : ∃ x, pat = .one x := by cases pat <;> first | exact ⟨_, rfl⟩ | exact no sh
  obtain ⟨mg, mb, g1, g2, _, _, _, _, _, b1, _⟩ := GL.names
  apply call1_e ok; intro id np a1 pos o1 o2
  refine Call_Name rfl (bi_name r g1 g2 o1 b1.1 b1.2 (call_ty1 ha o2 r hw fun v pv S1 D1 h1 tk1 x1 rp r1 q => ?_))
  obtain ⟨i, rfl, q1, q2⟩ := asInt_inv q
  obtain ⟨tt, rfl⟩ := rp.int_inv
  refine call_range_1 ?_
  have g := Grew.push h1 { cls := .type "range", data := .fields #[.int 0 tk1, .int i tt, .int 1 (tk1 + 1)] }
  have xg := Ext.of_grew (d := d) r1.ok.sub g
  exact iter_range (s := { s with heap := h1.push { cls := .type "range", data := .fields #[.int 0 tk1, .int i tt, .int 1 (tk1 + 1)] }, toks := tk1 + 1 + 1 }) (h0 := s.heap) ht tg (r1.ext xg (r1.ok.deal.grew g)) (IsRange.new ..) (small_of (by decide) q1 (by decide))
    (fun b e => x1.dom b (g.dom b e)) fun h' tk' it x2 r2 ia => k _ S1 D1 h' tk' it (x1.trans (xg.trans x2)) r2 ia q2

end
end Mine
end

section
open PySem PySem.W PyProof.Rows
namespace Mine

section
variable {prog : Program} {w : World} {G0 : Frz} {fa : Nat → Addr} {d : Option Addr} {fs : List Str} {N : Nat}

theorem wpE_mono (me : ME) (σ : Sg) (D : DS) {Q Q' : PV → DS → Prop} (h : wpE (CallOK prog w G0 d fa N) me σ D Q) (m : ∀ v D', Q v D' → Q' v D') : wpE (CallOK prog w G0 d fa N) me σ D Q' :=
  wpE_mono' (C := CallOK prog w G0 d fa N) (fun k vs D Q Q' h m => CallOK.mono h (Nat.le_refl _) m) me σ D h m

theorem call_tys {mes : MEs} (h : SEs prog w G0 fa d fs N mes) {c : Cx} {e1 : Expr} {es : List Expr} {env : Env} {A : Around} {σ : Sg} {ad : Nat → Addr} {S : Frz} {D : DS} {s : Shared} {Q : List PV → DS → Prop} {R : Value → Shared → Prop} {T : String} {pos : Pos}
    (ok : okEs mes c (e1 :: es) = true) (r : Run G0 fa d fs N c env A σ ad S D s.heap) (hw : wpEs (CallOK prog w G0 d fa N) mes σ D Q)
    (k : ∀ vs ps S' D' h' tk', Ext d S s.heap S' h' → Reps d fa S' vs ps → Run G0 fa d fs N c env A σ ad S' D' h' → Q ps D' → wpAny (model prog w) A (call (.type T) vs) R (fun _ _ => False) { s with heap := h', toks := tk' }) :
    wpAny (model prog w) A (callWith pos (.type T) [] (backTo pos (starEach (e1 :: es) env)) []) R (fun _ _ => False) s :=
  PyProof.Rows.callWith_type (noStar ok) (SEs.args h ok r hw fun vs ps S1 D1 h1 tk1 x1 rs r1 q => k vs ps S1 D1 h1 tk1 x1 rs r1 q)

theorem call2_e {nm : Str} {a b : ME} {c : Cx} {e : Expr} {P : Expr → Prop} (ok : xCallN (fun id es => c.isGlob id nm && l2 (fun e f => okE a c e && okE b c f) es) e = true) (k : ∀ id np e1 e2 pos, c.isGlob id nm = true → okE a c e1 = true → okE b c e2 = true → P (.Call (.Name id np) [e1, e2] [] pos)) : P e :=
  xCallN_e ok fun id np as pos ok => l2_e (P := fun as => P (.Call (.Name id np) as [] pos)) (an ok).2 fun e1 e2 o2 => k id np e1 e2 pos (an ok).1 (an o2).1 (an o2).2
theorem call3_e {nm : Str} {a b t : ME} {c : Cx} {e : Expr} {P : Expr → Prop} (ok : xCallN (fun id es => c.isGlob id nm && l3 (fun e f g => okE a c e && (okE b c f && okE t c g)) es) e = true) (k : ∀ id np e1 e2 e3 pos, c.isGlob id nm = true → okE a c e1 = true → okE b c e2 = true → okE t c e3 = true → P (.Call (.Name id np) [e1, e2, e3] [] pos)) : P e :=
  xCallN_e ok fun id np as pos ok => l3_e (P := fun as => P (.Call (.Name id np) as [] pos)) (an ok).2 fun e1 e2 e3 o2 => k id np e1 e2 e3 pos (an ok).1 (an o2).1 (an (an o2).2).1 (an (an o2).2).2

theorem si_range2 (GL : Globs G0 fs fa) {a b : ME} (ha : SE prog w G0 fa d fs N a) (hb : SE prog w G0 fa d fs N b) : SI prog w G0 fa d fs N (.range2 a b) := by
  intro c e env A σ ad S D s Q t pat K ok sh tg r hw k
  have ht : ∃ x, pat = .one x := by cases pat <;> first | exact ⟨_, rfl⟩ | exact no sh
  obtain ⟨mg, mb, g1, g2, _, _, _, _, _, b1, _⟩ := GL.names
  apply call2_e ok; intro id np e1 e2 pos o1 o2 o3
  refine Call_Name rfl (bi_name r g1 g2 o1 b1.1 b1.2 (call_tys (ses_cons ha (ses_cons hb ses_nil)) (ok_two o2 o3) r
    (Q := fun ps D₂ => ∃ va vb, ps = [va, vb] ∧ asInt va fun m => asInt vb fun n => (m.natAbs < lim ∧ n.natAbs < lim) ∧ Q ((rangeInts m n 1).map .int) D₂) ?_ fun vs ps S1 D1 h1 tk1 x1 rs r1 q => ?_))
  · exact wpE_mono _ _ _ hw fun va D1 h1 => wpE_mono _ _ _ h1 fun vb D2 h2 => ⟨va, vb, rfl, h2⟩
  · obtain ⟨va, vb, rfl, q⟩ := q
    obtain ⟨m, rfl, qa⟩ := asInt_inv q
    obtain ⟨n, rfl, q1, q2⟩ := asInt_inv qa
    cases rs with
    | cons ra rs =>
      cases rs with
      | cons rb rs =>
        cases rs
        obtain ⟨t1, rfl⟩ := ra.int_inv
        obtain ⟨t2, rfl⟩ := rb.int_inv
        refine call_range_2 ?_
        have g := Grew.push h1 { cls := .type "range", data := .fields #[.int m t1, .int n t2, .int 1 tk1] }
        have xg := Ext.of_grew (d := d) r1.ok.sub g
        exact iter_range (s := { s with heap := h1.push { cls := .type "range", data := .fields #[.int m t1, .int n t2, .int 1 tk1] }, toks := tk1 + 1 }) (h0 := s.heap) ht tg (r1.ext xg (r1.ok.deal.grew g)) (IsRange.new ..) (small_of q1.1 q1.2 (by decide))
          (fun b e => x1.dom b (g.dom b e)) fun h' tk' it x2 r2 ia => k _ S1 D1 h' tk' it (x1.trans (xg.trans x2)) r2 ia q2

theorem si_range3 (GL : Globs G0 fs fa) {a b cc : ME} (ha : SE prog w G0 fa d fs N a) (hb : SE prog w G0 fa d fs N b) (hc : SE prog w G0 fa d fs N cc) : SI prog w G0 fa d fs N (.range3 a b cc) := by
  intro c e env A σ ad S D s Q t pat K ok sh tg r hw k
  have ht : ∃ x, pat = .one x := by cases pat <;> first | exact ⟨_, rfl⟩ | exact no sh
  obtain ⟨mg, mb, g1, g2, _, _, _, _, _, b1, _⟩ := GL.names
  apply call3_e ok; intro id np e1 e2 e3 pos o1 o2 o3 o4
  refine Call_Name rfl (bi_name r g1 g2 o1 b1.1 b1.2 (call_tys (ses_cons ha (ses_cons hb (ses_cons hc ses_nil))) (ok_three o2 o3 o4) r
    (Q := fun ps D₃ => ∃ va vb vc, ps = [va, vb, vc] ∧ asInt va fun m => asInt vb fun n => asInt vc fun s => (m.natAbs < lim ∧ n.natAbs < lim ∧ s.natAbs < lim ∧ s ≠ 0) ∧ Q ((rangeInts m n s).map .int) D₃) ?_ fun vs ps S1 D1 h1 tk1 x1 rs r1 q => ?_))
  · exact wpE_mono _ _ _ hw fun va D1 h1 => wpE_mono _ _ _ h1 fun vb D2 h2 => wpE_mono _ _ _ h2 fun vc D3 h3 => ⟨va, vb, vc, rfl, h3⟩
  · obtain ⟨va, vb, vc, rfl, q⟩ := q
    obtain ⟨m, rfl, qa⟩ := asInt_inv q
    obtain ⟨n, rfl, qb⟩ := asInt_inv qa
    obtain ⟨st, rfl, ⟨q1, q2, q3, q4⟩, q5⟩ := asInt_inv qb
    cases rs with
    | cons ra rs =>
      cases rs with
      | cons rb rs =>
        cases rs with
        | cons rc rs =>
          cases rs
          obtain ⟨t1, rfl⟩ := ra.int_inv
          obtain ⟨t2, rfl⟩ := rb.int_inv
          obtain ⟨t3, rfl⟩ := rc.int_inv
          have q3' : st.natAbs < 1073741824 := by rw [lim_val] at q3; omega
          refine call_range_3 q4 ?_ (Or.inl (PyProof.noPylong_small q3'))
          have g := Grew.push h1 { cls := .type "range", data := .fields #[.int m t1, .int n t2, .int st t3] }
          have xg := Ext.of_grew (d := d) r1.ok.sub g
          exact iter_range (s := { s with heap := h1.push { cls := .type "range", data := .fields #[.int m t1, .int n t2, .int st t3] }, toks := tk1 }) (h0 := s.heap) ht tg (r1.ext xg (r1.ok.deal.grew g)) (IsRange.new ..) (small_of q1 q2 q3)
            (fun b e => x1.dom b (g.dom b e)) fun h' tk' it x2 r2 ia => k _ S1 D1 h' tk' it (x1.trans (xg.trans x2)) r2 ia q5

theorem si_enum (GL : Globs G0 fs fa) {a : ME} (ha : SE prog w G0 fa d fs N a) : SI prog w G0 fa d fs N (.enum a) := by
  intro c e env A σ ad S D s Q t pat K ok sh tg r hw k
  have ht : ∃ x y, pat = .two x y := by cases pat <;> first | exact ⟨_, _, rfl⟩ | exact no sh
  obtain ⟨px, py, rfl⟩ := ht
  obtain ⟨elts, tk0, tp, rfl⟩ := tg
  obtain ⟨mg, mb, g1, g2, _, _, _, _, _, _, b1, _⟩ := GL.names
  apply call1_e ok; intro id np a1 pos o1 o2
  refine Call_Name rfl (bi_name r g1 g2 o1 b1.1 b1.2 (call_ty1 ha o2 r hw fun v pv S1 D1 h1 tk1 x1 rp r1 q => ?_))
  obtain ⟨xs, rfl, q⟩ := asList_inv q
  obtain ⟨l, rfl⟩ := rp.list_ref
  obtain ⟨vs, m2, m3, m4, m5⟩ := rp.listAt (s := { s with heap := h1, toks := tk1 }) r1.ok.sub
  have lS : ∃ o, S1 l = some o := by cases rp with | list h1 _ _ _ _ => exact ⟨_, h1⟩
  obtain ⟨lo, hlo⟩ := lS
  have hlt : l < h1.objs.size := Heap.lt_size (r1.ok.sub _ _ hlo)
  refine call_enumerate_list m2 fun h' hE hI hsz hk => ?_
  refine wpAny_pyIter_enum hE ?_
  have hgr : Grew h1 h' := hk
  have xg := Ext.of_grew (d := d) r1.ok.sub hgr
  have W := (WalksT.enumerate (prog := prog) (w := w) r.room.handled (h1.objs.size + 1) h1.objs.size l (Nat.succ_ne_self _) (ktu_ne 1 hlt) (Nat.ne_of_lt hlt) vs.toArray).toU
  have hn : vs.toArray.size = (xs.zipIdx.map fun (x, i) => PV.tup [.int i, x]).length := by rw [List.size_toArray, List.length_map, List.length_zipIdx, m5]
  rw [hn] at W
  have fr : ∀ b, h1.objs.size ≤ b → s.heap.get? b = none := fun b hb => x1.dom b (none_of_size hb)
  have frS : ∀ b, h1.objs.size ≤ b → S1 b = none := fun b hb => S_none (s := { s with heap := h1, toks := tk1 }) r1.ok.sub (none_of_size hb)
  refine k _ S1 D1 h' tk1 _ (x1.trans xg) (r1.ext xg (r1.ok.deal.grew hgr)) ⟨_, _, _, _, _, _, rfl, KTurns.ofWalksU W, W.self, ⟨⟨.none, hE⟩, hI, m2.at fun o e => hk l o e⟩, ?_, ?_, ?_, ?_⟩ q
  · exact all_cons (.inr (fr _ (Nat.le_succ _))) (all_cons (.inr (fr _ (Nat.le_refl _))) (all_cons (.inl ⟨_, hlo⟩) all_nil))
  · exact fun i h2 z => all_cons ⟨_, z.1.choose_spec⟩ (all_cons ⟨_, z.2.1.choose_spec.1⟩ (all_cons ⟨_, z.2.2.choose_spec.1⟩ all_nil))
  · exact all_cons ⟨fr _ (Nat.le_succ _), frS _ (Nat.le_succ _)⟩ (all_cons ⟨fr _ (Nat.le_refl _), frS _ (Nat.le_refl _)⟩ all_nil)
  · rintro i v hh S' hi ⟨T, vals, rfl, ⟨tt, x, hx, rfl⟩, hT⟩ le sub
    rw [List.getElem?_toArray] at hx
    obtain ⟨p, e1, e2⟩ := m3.getV hx
    refine ⟨.tup [.int i, p], ?_, T, _, _, _, _, rfl, hT, rfl, .int _ _, e2.mono le⟩
    rw [List.getElem?_map, List.getElem?_zipIdx, e1]
    simp

theorem si_zip (GL : Globs G0 fs fa) {a b : ME} (ha : SE prog w G0 fa d fs N a) (hb : SE prog w G0 fa d fs N b) : SI prog w G0 fa d fs N (.zip a b) := by
  intro c e env A σ ad S D s Q t pat K ok sh tg r hw k
  have ht : ∃ x y, pat = .two x y := by cases pat <;> first | exact ⟨_, _, rfl⟩ | exact no sh
  obtain ⟨px, py, rfl⟩ := ht
  obtain ⟨elts, tk0, tp, rfl⟩ := tg
  obtain ⟨mg, mb, g1, g2, _, _, _, _, _, _, _, b1⟩ := GL.names
  apply call2_e ok; intro id np e1 e2 pos o1 o2 o3
  refine Call_Name rfl (bi_name r g1 g2 o1 b1.1 b1.2 (call_tys (ses_cons ha (ses_cons hb ses_nil)) (ok_two o2 o3) r
    (Q := fun ps D₂ => ∃ va vb, ps = [va, vb] ∧ asList va fun xs => asList vb fun ys => Q ((xs.zip ys).map fun (x, y) => .tup [x, y]) D₂) ?_ fun vs ps S1 D1 h1 tk1 x1 rs r1 q => ?_))
  · exact wpE_mono _ _ _ hw fun va D1 h1 => wpE_mono _ _ _ h1 fun vb D2 h2 => ⟨va, vb, rfl, h2⟩
  · obtain ⟨va, vb, rfl, q⟩ := q
    obtain ⟨xs, rfl, qa⟩ := asList_inv q
    obtain ⟨ys, rfl, qb⟩ := asList_inv qa
    cases rs with
    | cons ra rs =>
      cases rs with
      | cons rb rs =>
        cases rs
        obtain ⟨l1, rfl⟩ := ra.list_ref
        obtain ⟨l2, rfl⟩ := rb.list_ref
        obtain ⟨vs1, m2, m3, m4, m5⟩ := ra.listAt (s := { s with heap := h1, toks := tk1 }) r1.ok.sub
        obtain ⟨vs2, n2, n3, n4, n5⟩ := rb.listAt (s := { s with heap := h1, toks := tk1 }) r1.ok.sub
        have lS1 : ∃ o, S1 l1 = some o := by cases ra with | list h1 _ _ _ _ => exact ⟨_, h1⟩
        obtain ⟨lo1, hlo1⟩ := lS1
        have lS2 : ∃ o, S1 l2 = some o := by cases rb with | list h1 _ _ _ _ => exact ⟨_, h1⟩
        obtain ⟨lo2, hlo2⟩ := lS2
        have hlt1 : l1 < h1.objs.size := Heap.lt_size (r1.ok.sub _ _ hlo1)
        have hlt2 : l2 < h1.objs.size := Heap.lt_size (r1.ok.sub _ _ hlo2)
        have AP : ZipApart (h1.objs.size + 4) (h1.objs.size + 2) (h1.objs.size + 3) h1.objs.size (h1.objs.size + 1) l1 l2 := ktu_apart _ _ _ hlt1 hlt2
        refine call_zip_2 m2 n2 fun h' hz hTI hTO hi1 hi2 hsz hk => ?_
        refine wpAny_pyIter_zip hz ?_
        have hgr : Grew h1 h' := hk
        have xg := Ext.of_grew (d := d) r1.ok.sub hgr
        have W := (WalksT.zip2 (prog := prog) (w := w) r.room.handled _ _ _ _ _ _ _ AP vs1.toArray vs2.toArray).toU
        have hn : min vs1.toArray.size vs2.toArray.size = ((xs.zip ys).map fun (x, y) => PV.tup [x, y]).length := by rw [List.size_toArray, List.size_toArray, List.length_map, List.length_zip, m5, n5]
        rw [hn] at W
        have fr : ∀ b, h1.objs.size ≤ b → s.heap.get? b = none := fun b hb => x1.dom b (none_of_size hb)
        have frS : ∀ b, h1.objs.size ≤ b → S1 b = none := fun b hb => S_none (s := { s with heap := h1, toks := tk1 }) r1.ok.sub (none_of_size hb)
        refine k _ S1 D1 h' tk1 _ (x1.trans xg) (r1.ext xg (r1.ok.deal.grew hgr)) ⟨_, _, _, _, _, _, rfl, KTurns.ofWalksU W, W.self, ⟨hz, hTI, ⟨_, _, hTO⟩, hi1, hi2, m2.at fun o e => hk l1 o e, n2.at fun o e => hk l2 o e⟩, ?_, ?_, ?_, ?_⟩ qb
        · exact all_cons (.inr (fr _ (Nat.le_add_right _ _))) (all_cons (.inr (fr _ (Nat.le_add_right _ _))) (all_cons (.inr (fr _ (Nat.le_add_right _ _))) (all_cons (.inr (fr _ (Nat.le_refl _))) (all_cons (.inr (fr _ (Nat.le_add_right _ _))) (all_cons (.inl ⟨_, hlo1⟩) (all_cons (.inl ⟨_, hlo2⟩) all_nil))))))
        · exact fun i h2 z => all_cons ⟨_, z.1⟩ (all_cons ⟨_, z.2.1⟩ (all_cons ⟨_, z.2.2.1.choose_spec.choose_spec⟩ (all_cons ⟨_, z.2.2.2.1.choose_spec.1⟩ (all_cons ⟨_, z.2.2.2.2.1.choose_spec.1⟩ (all_cons ⟨_, z.2.2.2.2.2.1.choose_spec.1⟩ (all_cons ⟨_, z.2.2.2.2.2.2.choose_spec.1⟩ all_nil))))))
        · exact all_cons ⟨fr _ (Nat.le_add_right _ _), frS _ (Nat.le_add_right _ _)⟩ (all_cons ⟨fr _ (Nat.le_add_right _ _), frS _ (Nat.le_add_right _ _)⟩ (all_cons ⟨fr _ (Nat.le_refl _), frS _ (Nat.le_refl _)⟩ (all_cons ⟨fr _ (Nat.le_add_right _ _), frS _ (Nat.le_add_right _ _)⟩ all_nil)))
        · rintro i v hh S' hi ⟨T, vals, rfl, ⟨x, y, hx, hy, rfl⟩, hT⟩ le sub
          rw [List.getElem?_toArray] at hx hy
          obtain ⟨p, e1, e2⟩ := m3.getV hx
          obtain ⟨p', e1', e2'⟩ := n3.getV hy
          refine ⟨.tup [p, p'], ?_, T, _, _, _, _, rfl, hT, rfl, e2.mono le, e2'.mono le⟩
          have hz2 : (xs.zip ys)[i]? = some (p, p') := List.getElem?_zip_eq_some.mpr ⟨e1, e1'⟩
          rw [List.getElem?_map, hz2]
          rfl

end
end Mine
end

section
open PySem PySem.W PyProof.Rows
namespace Mine

theorem lookup_some_of_mem {α : Type} : ∀ {l : List (Str × α)} {n : Str} {a : α}, (n, a) ∈ l → ∃ a', l.lookup n = some a'
  | (k, v) :: r, n, a, h => by
    rw [List.lookup_cons]
    cases hb : n == k with
    | true => exact ⟨v, rfl⟩
    | false =>
      rcases List.mem_cons.mp h with e | h
      · cases e; simp at hb
      · exact lookup_some_of_mem h

theorem closure_free {scope : Scope} {env : Env} (h : ∀ y ∈ scope.names, y.2 = .free → ∃ a, env.cells.lookup y.1 = some a) :
    ∃ cl, closureFor scope env = pure cl ∧ ∀ n a, (n, NameKind.free) ∈ scope.names → env.cells.lookup n = some a → cl.lookup n = some a := by
  have key : ∀ (names : List (Str × NameKind)), (∀ y ∈ names, y.2 = .free → ∃ a, env.cells.lookup y.1 = some a) → ∀ acc : List (Str × Addr), (∀ p ∈ acc, env.cells.lookup p.1 = some p.2) →
      ∃ cl, (forIn names acc (fun x (cs : List (Str × Addr)) => if (x.2 == NameKind.free) = true then (do let a ← cellOf env x.1; pure (ForInStep.yield ((x.1, a) :: cs))) else pure (ForInStep.yield cs)) : Sem (List (Str × Addr))) = pure cl ∧
        (∀ p ∈ cl, env.cells.lookup p.1 = some p.2) ∧ (∀ p ∈ acc, p ∈ cl) ∧ ∀ n, (n, NameKind.free) ∈ names → ∃ a, (n, a) ∈ cl := by
    intro names
    induction names with
    | nil => intro _ acc ha; exact ⟨acc, rfl, ha, fun _ h => h, fun n hn => (nomatch hn)⟩
    | cons y r ih =>
      intro hn acc ha
      obtain ⟨n, k⟩ := y
      rw [List.forIn_cons]
      by_cases hk : (k == NameKind.free) = true
      · have ek : k = .free := by simpa using hk
        obtain ⟨a, e⟩ := hn (n, k) List.mem_cons_self ek
        have hc : cellOf env n = pure a := by unfold cellOf; rw [show env.cells.lookup n = some a from e]
        obtain ⟨cl, c1, c2, c3, c4⟩ := ih (fun y hy => hn y (List.mem_cons_of_mem _ hy)) ((n, a) :: acc) (fun p hp => by
          rcases List.mem_cons.mp hp with rfl | hp
          · exact e
          · exact ha p hp)
        refine ⟨cl, ?_, c2, fun p hp => c3 p (List.mem_cons_of_mem _ hp), fun n' hn' => ?_⟩
        · dsimp only
          rw [if_pos hk, hc]
          exact c1
        · rcases List.mem_cons.mp hn' with e' | hn'
          · cases e'; exact ⟨a, c3 _ List.mem_cons_self⟩
          · exact c4 n' hn'
      · obtain ⟨cl, c1, c2, c3, c4⟩ := ih (fun y hy => hn y (List.mem_cons_of_mem _ hy)) acc ha
        refine ⟨cl, ?_, c2, c3, fun n' hn' => ?_⟩
        · dsimp only
          rw [if_neg hk]
          exact c1
        · rcases List.mem_cons.mp hn' with e' | hn'
          · cases e'; simp at hk
          · exact c4 n' hn'
  obtain ⟨cl, c1, c2, _, c4⟩ := key scope.names h [] (fun p hp => (nomatch hp))
  refine ⟨cl, ?_, fun n a hm e => ?_⟩
  · unfold closureFor
    show (forIn scope.names [] _ >>= _) = _
    rw [show (forIn scope.names ([] : List (Str × Addr)) (fun x (cs : List (Str × Addr)) => _) : Sem (List (Str × Addr))) = pure cl from c1]
    rfl
  · obtain ⟨a', hm'⟩ := c4 n hm
    obtain ⟨a2, e2⟩ := lookup_some_of_mem hm'
    have := c2 _ (mem_of_lookup e2)
    rw [e2, ← this, e]
end Mine
end

section
open PySem PySem.W PyProof.Rows
namespace Mine

theorem lookup_relab (ks : List (Str × NameKind)) : ∀ (names : List (Str × NameKind)) (n : Str), (relab ks names).lookup n = (names.lookup n).map fun k => if (k == .free && ks.lookup n == some .cell) = true then .cell else k
  | [], n => rfl
  | (m, k) :: r, n => by
    have ih := lookup_relab ks r n
    have e : relab ks ((m, k) :: r) = (if (k == .free && ks.lookup m == some .cell) = true then (m, NameKind.cell) else (m, k)) :: relab ks r := rfl
    rw [e]
    by_cases hb : (n == m) = true
    · have en : n = m := by simpa using hb
      subst en
      by_cases hc : (k == NameKind.free && ks.lookup n == some .cell) = true
      · rw [if_pos hc, List.lookup_cons, List.lookup_cons, hb]
        simp only [Option.map_some]
        rw [if_pos hc]
      · rw [if_neg hc, List.lookup_cons, List.lookup_cons, hb]
        simp only [Option.map_some]
        rw [if_neg hc]
    · have hb' : (n == m) = false := by simpa using hb
      by_cases hc : (k == NameKind.free && ks.lookup m == some .cell) = true
      · rw [if_pos hc, List.lookup_cons, List.lookup_cons, hb']; exact ih
      · rw [if_neg hc, List.lookup_cons, List.lookup_cons, hb']; exact ih

structure ScopeFacts (c : Cx) (scope : Scope) (pat : MP) : Prop where
  nocell : ∀ y ∈ scope.names, y.2 ≠ .cell
  kind : scope.kind = .function
  loc : ∀ y ∈ scope.names, y.2 = .local → scope.names.lookup y.1 = some .local
  free : ∀ y ∈ scope.names, y.2 = .free → c.ks.lookup y.1 = some .cell ∧ scope.names.lookup y.1 = some .free
  inj : ∀ x ∈ (c.inner scope pat).vis, ∀ y ∈ (c.inner scope pat).vis, c.nm[x]? = c.nm[y]? → x = y
  tgt : ∀ x ∈ pat.vars, ∃ n, c.nm[x]? = some n ∧ scope.names.lookup n = some .local
  new : ∀ x ∈ pat.vars, x ∉ c.vis

theorem scope_facts {c : Cx} {scope : Scope} {pat : MP} (h : c.scopeOk scope pat = true) : ScopeFacts c scope pat := by
  unfold Cx.scopeOk at h
  simp only [Bool.and_eq_true, List.all_eq_true, Bool.or_eq_true, beq_iff_eq, bne_iff_ne, ne_eq, Bool.not_eq_true'] at h
  obtain ⟨h1, h2, h3, h4, h5, h6, h7⟩ := h
  refine ⟨h1, h2, fun y hy e => ?_, fun y hy e => ?_, fun x hx y hy e => ?_, fun x hx => ?_, fun x hx => ?_⟩
  · rcases h3 y hy with h | h
    · exact absurd e h
    · exact h
  · rcases h4 y hy with h | h
    · exact absurd e h
    · exact h
  · unfold Cx.inj at h5
    simp only [List.all_eq_true, Bool.or_eq_true, beq_iff_eq, bne_iff_ne, ne_eq] at h5
    rcases h5 x hx y hy with h | h
    · exact h
    · exact absurd e h
  · have := h6 x hx
    split at this
    · rename_i n hn
      exact ⟨n, hn, by simpa using this⟩
    · cases this
  · have := h7 x hx
    simpa using this

section
variable {prog : Program} {w : World} {G0 : Frz} {fa : Nat → Addr} {d : Option Addr} {fs : List Str} {N : Nat}

theorem relab_names {c : Cx} {env : Env} (eo : EnvOK c env) (scope : Scope) : (relabel scope env).names = relab c.ks scope.names := by
  unfold relabel relab
  dsimp only
  congr 1
  funext x
  unfold Env.kindOf
  rw [eo.kind, eo.names]
  simp

theorem inner_vis {c : Cx} {scope : Scope} {pat : MP} {x : Nat} (h : x ∈ (c.inner scope pat).vis) : (x ∈ c.vis ∧ ∃ n, c.nm[x]? = some n ∧ scope.names.lookup n = some .free) ∨ x ∈ pat.vars := by
  have h' : x ∈ (c.vis.filter fun x => match c.nm[x]? with | some n => scope.names.lookup n == some .free | none => false) ++ pat.vars := h
  rcases List.mem_append.mp h' with h | h
  · obtain ⟨h1, h2⟩ := List.mem_filter.mp h
    refine .inl ⟨h1, ?_⟩
    split at h2
    · rename_i n hn
      exact ⟨n, hn, by simpa using h2⟩
    · cases h2
  · exact .inr h

theorem inner_env {c : Cx} {env : Env} {scope : Scope} {pat : MP} {cl : List (Str × Addr)} {C : Addr} (eo : EnvOK c env) (sf : ScopeFacts c scope pat)
    (hcl : ∀ n a, (n, NameKind.free) ∈ scope.names → env.cells.lookup n = some a → cl.lookup n = some a) : EnvOK (c.inner scope pat) (compEnvC scope cl C env) where
  kind := sf.kind
  names := relab_names eo scope
  globals := eo.globals
  builtins := eo.builtins
  cells := fun n h => by
    have h' : (relab c.ks scope.names).lookup n = some .cell := h
    rw [lookup_relab] at h'
    cases q : scope.names.lookup n with
    | none => rw [q] at h'; cases h'
    | some k =>
      rw [q] at h'
      simp only [Option.map_some, Option.some.injEq] at h'
      have hm := mem_of_lookup q
      split at h'
      · rename_i hc
        simp only [Bool.and_eq_true, beq_iff_eq] at hc
        obtain ⟨rfl, hk⟩ := hc
        obtain ⟨a, ha⟩ := eo.cells n hk
        exact ⟨a, hcl n a hm ha⟩
      · exact absurd h' (sf.nocell _ hm)
  inj := sf.inj
  named := fun x hx => by
    rcases inner_vis hx with ⟨_, n, h, _⟩ | h
    · exact ⟨n, h⟩
    · obtain ⟨n, h, _⟩ := sf.tgt x h; exact ⟨n, h⟩

theorem holds_inner {c : Cx} {env : Env} {scope : Scope} {pat : MP} {cl : List (Str × Addr)} {C : Addr} {h : Heap} {n : Str} {v : Value} (eo : EnvOK c env) (sf : ScopeFacts c scope pat)
    (hcl : ∀ n a, (n, NameKind.free) ∈ scope.names → env.cells.lookup n = some a → cl.lookup n = some a) (hf : scope.names.lookup n = some .free) (x : Holds env h n v) : Holds (compEnvC scope cl C env) h n v := by
  have hm := mem_of_lookup hf
  have hk := (sf.free _ hm rfl).1
  rcases x with ⟨a, _⟩ | ⟨_, a, b, i⟩
  · rw [eo.names, hk] at a; cases a
  · refine .inr ⟨?_, a, hcl n a hm b, i⟩
    show (relabel scope env).names.lookup n = _
    rw [relab_names eo, lookup_relab, hf]
    simp [hk]

theorem inner_fit {c : Cx} {env : Env} {scope : Scope} {pat : MP} {cl : List (Str × Addr)} {C : Addr} {ad : Nat → Addr} {σ σ' : Sg} {S : Frz} {h : Heap} {m : Str → Option Value} (eo : EnvOK c env) (sf : ScopeFacts c scope pat)
    (hcl : ∀ n a, (n, NameKind.free) ∈ scope.names → env.cells.lookup n = some a → cl.lookup n = some a) (fit : Fit c env fa d ad σ S h) (hn : h.Ns C m) (hσ : ∀ x ∈ c.vis, σ'[x]? = σ[x]?)
    (hp : ∀ x ∈ pat.vars, ∀ n p, c.nm[x]? = some n → σ'[x]? = some (.v p) → ∃ v, m n = some v ∧ Rep d fa S v p) (hno : ∀ x ∈ pat.vars, ∀ xs, σ'[x]? ≠ some (.own xs)) :
    Fit (c.inner scope pat) (compEnvC scope cl C env) fa d ad σ' S h where
  val := fun x hx n p h1 h2 => by
    rcases inner_vis hx with ⟨hv, n', e1, e2⟩ | hv
    · have e3 : n' = n := Option.some.inj (e1.symm.trans h1)
      subst e3
      obtain ⟨v, a, b⟩ := fit.val x hv n' p h1 (hσ x hv ▸ h2)
      exact ⟨v, holds_inner eo sf hcl e2 a, b⟩
    · obtain ⟨v, a, b⟩ := hp x hv n p h1 h2
      obtain ⟨n', e1, e2⟩ := sf.tgt x hv
      have e3 : n' = n := Option.some.inj (e1.symm.trans h1)
      subst e3
      refine ⟨v, .inl ⟨?_, m, hn, a⟩, b⟩
      show (relabel scope env).names.lookup n' = _
      rw [relab_names eo, lookup_relab, e2]
      simp
  own := fun x hx n xs h1 h2 => by
    rcases inner_vis hx with ⟨hv, n', e1, e2⟩ | hv
    · have e3 : n' = n := Option.some.inj (e1.symm.trans h1)
      subst e3
      obtain ⟨a, b⟩ := fit.own x hv n' xs h1 (hσ x hv ▸ h2)
      exact ⟨holds_inner eo sf hcl e2 a, b⟩
    · exact absurd h2 (hno x hv xs)
  apart := fun x hx y hy xs ys h1 h2 e => by
    rcases inner_vis hx with ⟨hv, _⟩ | hv
    · rcases inner_vis hy with ⟨hw, _⟩ | hw
      · exact fit.apart x hv y hw xs ys (hσ x hv ▸ h1) (hσ y hw ▸ h2) e
      · exact absurd h2 (hno y hw ys)
    · exact absurd h1 (hno x hv xs)

theorem DealAt.at {D : DS} {S : Frz} {h h' : Heap} (x : DealAt d fa D S h) (k : ∀ a o, d = some a → h.get? a = some o → h'.get? a = some o) : DealAt d fa D S h' := fun a q => by
  obtain ⟨n, l, vs, k', o, h1, h2, h3, h4⟩ := x a q
  exact ⟨n, l, vs, k', o, k a o q h1, h2, h3, h4⟩

/-- the target of a comprehension's turn -/
theorem bind_inner {c' : Cx} {cenv : Env} {pat : MP} {t : Expr} {A : Around} {s : Shared} {S : Frz} {m : Str → Option Value} {v : Value} {x : PV} {σ : Sg} {K : Sg → Prop} {R : Unit → Shared → Prop} {E : Value → Shared → Prop}
    (hh : A.handled = none) (ok : okP c' pat t = true) (eo : EnvOK c' cenv) (hloc : ∀ y ∈ pat.vars, ∀ n, c'.nm[y]? = some n → c'.ks.lookup n = some .local) (hn : s.heap.Ns cenv.locals m) (hit : ItemRep pat d fa S s.heap v x) (hw : bindP pat x σ K)
    (k : ∀ h' tk' σ' m', h'.Ns cenv.locals m' → (∀ b o, b ≠ cenv.locals → s.heap.get? b = some o → h'.get? b = some o) → (∀ y, y ∉ pat.vars → σ'[y]? = σ[y]?) →
      (∀ y ∈ pat.vars, ∀ n p, c'.nm[y]? = some n → σ'[y]? = some (.v p) → ∃ v, m' n = some v ∧ Rep d fa S v p) → (∀ y ∈ pat.vars, ∀ xs, σ'[y]? ≠ some (.own xs)) → K σ' → R () { s with heap := h', toks := tk' }) :
    wpAny (model prog w) A (assign t cenv v) R E s := by
  have hp : (cenv.scope.kind == .class || (cenv.scope.kind == .module && cenv.locals != cenv.globals)) = false := by rw [eo.kind]; rfl
  cases pat with
  | one y =>
    apply xName_e ok; intro id tp ok
    obtain ⟨_, h2, _, _⟩ := isVar_inv ok
    have hl : cenv.kindOf id = some .local := by unfold Env.kindOf; rw [eo.names]; exact hloc y (by simp [MP.vars]) id h2
    have hit' : Rep d fa S v x := hit
    have hw' : K (σ.set y (.v x)) := hw
    refine wpAny_assign_Name (wpAny_storeName_local hl hn (fun h' hn' hs' => ?_) hp)
    refine k h' _ (σ.set y (.v x)) _ hn' (fun b o hb e => hs'.extBut b o hb e) (fun z hz => ?_) (fun z hz n p e1 e2 => ?_) (fun z hz xs e => ?_) hw'
    · rw [List.getElem?_set_ne]; simp [MP.vars] at hz; exact fun e => hz e.symm
    · have ez : z = y := by simpa [MP.vars] using hz
      subst ez
      have en : n = id := Option.some.inj (e1.symm.trans h2)
      subst en
      refine ⟨v, by simp, ?_⟩
      rw [List.getElem?_set_self'] at e2
      cases hq : σ[z]? with
      | none => rw [hq] at e2; cases e2
      | some _ => rw [hq] at e2; cases e2; exact hit'
    · have ez : z = y := by simpa [MP.vars] using hz
      subst ez
      rw [List.getElem?_set_self'] at e
      cases hq : σ[z]? with
      | none => rw [hq] at e; cases e
      | some _ => rw [hq] at e; cases e
  | two y z =>
    obtain ⟨T, v1, v2, p1, p2, rfl, hT, rfl, r1, r2⟩ := hit
    have hw' : K ((σ.set y (.v p1)).set z (.v p2)) := hw
    apply xTup_e ok; intro es tk tp ok
    apply l2_e ok; intro a' b' ok
    apply xName_e ok; intro a ap ok
    apply xName_e ok; intro b bp ok
    have oa := (an ok).1
    have ob := (an (an ok).2).1
    have hne : y ≠ z := by simpa using (an (an ok).2).2
    obtain ⟨va, ha2, _, _⟩ := isVar_inv oa
    obtain ⟨vb, hb2, _, _⟩ := isVar_inv ob
    have hla : cenv.kindOf a = some .local := by unfold Env.kindOf; rw [eo.names]; exact hloc y (by simp [MP.vars]) a ha2
    have hlb : cenv.kindOf b = some .local := by unfold Env.kindOf; rw [eo.names]; exact hloc z (by simp [MP.vars]) b hb2
    have hab : a ≠ b := fun e => hne (eo.inj y va z vb (by rw [ha2, hb2, e]))
    refine kcp_assign hh hT hla hlb hp hn fun h' tk hn' hk => ?_
    have g : ∀ q : Nat, ((σ.set y (.v p1)).set z (.v p2))[q]? = if q = z then (σ[z]?).map (fun _ => Sl.v p2) else if q = y then (σ[y]?).map (fun _ => Sl.v p1) else σ[q]? := by
      intro q
      by_cases e1 : q = z
      · subst e1
        rw [if_pos rfl, List.getElem?_set_self', List.getElem?_set_ne hne]; rfl
      · rw [if_neg e1, List.getElem?_set_ne (Ne.symm e1)]
        by_cases e2 : q = y
        · subst e2; rw [if_pos rfl, List.getElem?_set_self']; rfl
        · rw [if_neg e2, List.getElem?_set_ne (Ne.symm e2)]
    refine k h' tk _ _ hn' hk (fun q hq => ?_) (fun q hq n p e1 e2 => ?_) (fun q hq xs e => ?_) hw'
    · have : q ≠ y ∧ q ≠ z := by simpa [MP.vars] using hq
      rw [g, if_neg this.2, if_neg this.1]
    · rw [g] at e2
      by_cases ez : q = z
      · subst ez
        have en : n = b := Option.some.inj (e1.symm.trans hb2)
        subst en
        rw [if_pos rfl] at e2
        cases hq : σ[q]? with
        | none => rw [hq] at e2; cases e2
        | some _ => rw [hq] at e2; cases e2; exact ⟨v2, by simp, r2⟩
      · have ey : q = y := by
          rcases (by simpa [MP.vars] using hq : q = y ∨ q = z) with h | h
          · exact h
          · exact absurd h ez
        subst ey
        have en : n = a := Option.some.inj (e1.symm.trans ha2)
        subst en
        rw [if_neg ez, if_pos rfl] at e2
        cases hq : σ[q]? with
        | none => rw [hq] at e2; cases e2
        | some _ => rw [hq] at e2; cases e2; exact ⟨v1, by simp [hab], r1⟩
    · rw [g] at e
      by_cases ez : q = z
      · rw [if_pos ez] at e
        cases hq : σ[z]? with
        | none => rw [hq] at e; cases e
        | some _ => rw [hq] at e; cases e
      · have ey : q = y := by
          rcases (by simpa [MP.vars] using hq : q = y ∨ q = z) with h | h
          · exact h
          · exact absurd h ez
        rw [if_neg ez, if_pos ey] at e
        cases hq : σ[y]? with
        | none => rw [hq] at e; cases e
        | some _ => rw [hq] at e; cases e
end
end Mine
end

section
open PySem PySem.W PyProof.Rows
namespace Mine

/-- how things stand between two turns of a comprehension -/
structure CI (d : Option Addr) (fa : Nat → Addr) (S0 S1 : Frz) (hb : Heap) (C AD : Addr) (wr : List Addr) (ys : List Value) (acc : List PV) (S : Frz) (D : DS) (h : Heap) : Prop where
  ext : Ext d S0 hb S h
  le : Le S1 S
  deal : DealAt d fa D S h
  lst : h.IsList AD ys.toArray
  ns : ∃ m, h.Ns C m
  adS : S AD = none
  cS : S C = none
  wrS : ∀ b ∈ wr, S b = none
  rep : Reps d fa S ys acc

section
variable {prog : Program} {w : World} {G0 : Frz} {fa : Nat → Addr} {d : Option Addr} {fs : List Str} {N : Nat}
variable {S0 S1 : Frz} {hb : Heap} {C AD : Addr} {wr : List Addr} {ys : List Value} {acc : List PV} {S : Frz} {D : DS} {h h' : Heap}

theorem CI.touch (x : CI d fa S0 S1 hb C AD wr ys acc S D h) (k : ∀ b o, b ∉ wr → h.get? b = some o → h'.get? b = some o) (hwr : ∀ b ∈ wr, hb.get? b = none) (hA : AD ∉ wr) (hC : C ∉ wr) (hd : ∀ a, d = some a → a ∉ wr) : CI d fa S0 S1 hb C AD wr ys acc S D h' where
  ext := ⟨x.ext.mono, fun a o e => k a o (fun hm => by rw [x.wrS a hm] at e; cases e) (x.ext.sub a o e), x.ext.fresh, fun a o n e => k a o (fun hm => by rw [hwr a hm] at e; cases e) (x.ext.keep a o n e), fun a e => by
    by_cases hm : a ∈ wr
    · exact hwr a hm
    · refine x.ext.dom a ?_
      cases q : h.get? a with
      | none => rfl
      | some o => rw [k a o hm q] at e; cases e⟩
  le := x.le
  deal := x.deal.at fun a o e => k a o (hd a e)
  lst := x.lst.at fun o => k AD o hA
  ns := let ⟨m, n⟩ := x.ns; ⟨m, n.at' fun o => k C o hC⟩
  adS := x.adS
  cS := x.cS
  wrS := x.wrS
  rep := x.rep

/-- the block's own letters change -/
theorem CI.own (x : CI d fa S0 S1 hb C AD wr ys acc S D h) (k : ∀ b o, b ≠ C → h.get? b = some o → h'.get? b = some o) (hC : hb.get? C = none) (hn : ∃ m, h'.Ns C m) (hA : AD ≠ C) (hd : ∀ a, d = some a → a ≠ C) : CI d fa S0 S1 hb C AD wr ys acc S D h' where
  ext := ⟨x.ext.mono, fun a o e => k a o (fun q => by subst q; rw [x.cS] at e; cases e) (x.ext.sub a o e), x.ext.fresh, fun a o n e => k a o (fun q => by subst q; rw [hC] at e; cases e) (x.ext.keep a o n e), fun a e => by
    by_cases hm : a = C
    · subst hm; exact hC
    · refine x.ext.dom a ?_
      cases q : h.get? a with
      | none => rfl
      | some o => rw [k a o hm q] at e; cases e⟩
  le := x.le
  deal := x.deal.at fun a o e => k a o (hd a e)
  lst := x.lst.at fun o => k AD o hA
  ns := hn
  adS := x.adS
  cS := x.cS
  wrS := x.wrS
  rep := x.rep

/-- the element was walked -/
theorem CI.step {S' : Frz} {D' : DS} (x : CI d fa S0 S1 hb C AD wr ys acc S D h) (e : Ext d S h S' h') (dl : DealAt d fa D' S' h') (hex : ∀ b ∈ wr, ∃ o, h.get? b = some o) (hA : some AD ≠ d) (hC : some C ≠ d) : CI d fa S0 S1 hb C AD wr ys acc S' D' h' where
  ext := x.ext.trans e
  le := x.le.trans e.mono
  deal := dl
  lst := x.lst.at fun o q => e.keep AD o hA q
  ns := let ⟨m, n⟩ := x.ns; ⟨m, n.at' fun o q => e.keep C o hC q⟩
  adS := by
    cases z : S' AD with
    | none => rfl
    | some o =>
      rcases e.fresh AD o z with q | q
      · rw [x.adS] at q; cases q
      · obtain ⟨o', h1, _⟩ := x.lst; rw [h1] at q; cases q
  cS := by
    cases z : S' C with
    | none => rfl
    | some o =>
      rcases e.fresh C o z with q | q
      · rw [x.cS] at q; cases q
      · obtain ⟨m, o', _, _, h1, _⟩ := x.ns; rw [h1] at q; cases q
  wrS := fun b hb' => by
    cases z : S' b with
    | none => rfl
    | some o =>
      rcases e.fresh b o z with q | q
      · rw [x.wrS b hb'] at q; cases q
      · obtain ⟨o', h1⟩ := hex b hb'; rw [h1] at q; cases q
  rep := x.rep.mono e.mono

/-- the list has grown by one -/
theorem CI.push {v : Value} {p : PV} (x : CI d fa S0 S1 hb C AD wr ys acc S D h) (rv : Rep d fa S v p) (hl : h'.IsList AD (ys.toArray.push v)) (k : Heap.SameBut AD h h') (hAb : hb.get? AD = none) (hA : AD ≠ C) (hd : ∀ a, d = some a → a ≠ AD) :
    CI d fa S0 S1 hb C AD wr (ys ++ [v]) (acc ++ [p]) S D h' where
  ext := ⟨x.ext.mono, fun a o e => k.extBut a o (fun q => by subst q; rw [x.adS] at e; cases e) (x.ext.sub a o e), x.ext.fresh, fun a o n e => k.extBut a o (fun q => by subst q; rw [hAb] at e; cases e) (x.ext.keep a o n e), fun a e => by
    by_cases hm : a = AD
    · subst hm; exact hAb
    · refine x.ext.dom a ?_
      rw [← k.2 a hm]; exact e⟩
  le := x.le
  deal := x.deal.at fun a o e => k.extBut a o (hd a e)
  lst := by rw [show (ys ++ [v]).toArray = ys.toArray.push v by simp]; exact hl
  ns := let ⟨m, n⟩ := x.ns; ⟨m, n.sameBut k (Ne.symm hA)⟩
  adS := x.adS
  cS := x.cS
  wrS := x.wrS
  rep := x.rep.snoc rv

theorem comp_core {c : Cx} {env : Env} {A : Around} {σ : Sg} {ad : Nat → Addr} {D0 : DS} {s : Shared} {scope : Scope} {cl : List (Str × Addr)} {pat : MP} {t : Expr} {I : Addr} {fp : List Addr} {P Md : Nat → Value → Heap → Prop} {St : Nat → Heap → Prop}
    {xs : List PV} {Q : List PV → DS → Prop} {R : Result → Shared → Prop} {e : Expr} {Gf : Sg → DS → (Option PV → DS → Prop) → Prop}
    {TB : Nat → (Nat → Shared → Prop) → (Value → Shared → Prop) → Shared → Prop}
    (r0 : Run G0 fa d fs N c env A σ ad S0 D0 hb) (sf : ScopeFacts c scope pat) (okp : okP (c.inner scope pat) pat t = true)
    (hcl : ∀ n a, (n, NameKind.free) ∈ scope.names → env.cells.lookup n = some a → cl.lookup n = some a)
    (W : KTurns prog w A t I fp wr xs.length P Md St) (hfp : ∀ b ∈ fp, (∃ o, S1 b = some o) ∨ hb.get? b = none) (hex : ∀ i h', St i h' → ∀ b ∈ fp, ∃ o, h'.get? b = some o) (hwr : ∀ b ∈ wr, hb.get? b = none)
    (hP : ∀ i v h' S', i < xs.length → P i v h' → Le S1 S' → Sub S' h' → ∃ p, xs[i]? = some p ∧ ItemRep pat d fa S' h' v p)
    (hAb : hb.get? AD = none) (hCb : hb.get? C = none) (hAC : AD ≠ C) (hAf : AD ∉ fp) (hCf : C ∉ fp) (hx : xs.length < lim)
    (hloop : ∀ (J : Nat → Shared → Prop), (∀ n s, J n s → wpAny (model prog w) A (pyNext (.ref I)) (fun r s₁ => match r with
        | none => R (.ok .next) s₁
        | some v => wpAny (model prog w) A (letOwnedTupleGo t (.ref I) v) (fun _ s₀ => wpAny (model prog w) A (assign t (compEnvC scope cl C env) v) (fun _ s₂ =>
            TB n J (notedBy (model prog w) A (compEnvC scope cl C env) fun e s' => R (.error e) s') s₂) (notedBy (model prog w) A (compEnvC scope cl C env) fun e s' => R (.error e) s') s₀) (notedBy (model prog w) A (compEnvC scope cl C env) fun e s' => R (.error e) s') s₁)
        (notedBy (model prog w) A (compEnvC scope cl C env) fun e s' => R (.error e) s') s) → ∀ n s, J n s → codeAny (model prog w) A (.compLoop e 0 (.ref I) (.ref AD) (compEnvC scope cl C env)) R s)
    (hbody : ∀ (n : Nat) (J : Nat → Shared → Prop) (E : Value → Shared → Prop) (σ' : Sg) (S : Frz) (D : DS) (s₂ : Shared) (k : Option PV → DS → Prop), Run G0 fa d fs N (c.inner scope pat) (compEnvC scope cl C env) A σ' ad S D s₂.heap → Gf σ' D k →
      (∀ v pv S' D' h' tk', Ext d S s₂.heap S' h' → DealAt d fa D' S' h' → Rep d fa S' v pv → k (some pv) D' → wpAny (model prog w) A (call (.builtin "list.append") [.ref AD, v]) (fun _ s₅ => ∃ m, m < n ∧ J m s₅) (fun _ _ => False) { s₂ with heap := h', toks := tk' }) →
      (∀ S' D' h' tk', Ext d S s₂.heap S' h' → DealAt d fa D' S' h' → k none D' → ∃ m, m < n ∧ J m { s₂ with heap := h', toks := tk' }) → TB n J E s₂)
    (hend : ∀ ys acc S D h' tk', acc.length ≤ xs.length → CI d fa S0 S1 hb C AD wr ys acc S D h' → Q acc D → R (.ok .next) { s with heap := h', toks := tk' })
    (hst : St 0 s.heap) (ci : CI d fa S0 S1 hb C AD wr [] [] S D s.heap) (hw : compW (fun x D k => bindP pat x σ fun σ' => Gf σ' D k) xs D [] Q) :
    codeAny (model prog w) A (.compLoop e 0 (.ref I) (.ref AD) (compEnvC scope cl C env)) R s := by
  have hAw : AD ∉ wr := fun hm => hAf (W.sub _ hm)
  have hCw : C ∉ wr := fun hm => hCf (W.sub _ hm)
  have dHb : ∀ a, d = some a → ∃ o, hb.get? a = some o := fun a e => by
    obtain ⟨_, _, _, _, o, h1, _⟩ := r0.ok.deal a e
    exact ⟨o, h1⟩
  have hdw : ∀ a, d = some a → a ∉ wr := fun a e hm => by
    obtain ⟨o, h1⟩ := dHb a e
    rw [hwr a hm] at h1; cases h1
  have hdC : ∀ a, d = some a → a ≠ C := fun a e q => by
    obtain ⟨o, h1⟩ := dHb a e
    rw [q, hCb] at h1; cases h1
  have hdA : ∀ a, d = some a → a ≠ AD := fun a e q => by
    obtain ⟨o, h1⟩ := dHb a e
    rw [q, hAb] at h1; cases h1
  have hdf : ∀ {S : Frz} {D : DS} {h : Heap}, DealAt d fa D S h → Le S1 S → ∀ b ∈ fp, some b ≠ d := fun dl le b hm q => by
    rcases hfp b hm with ⟨o, e⟩ | e
    · have := (dl b q.symm).1
      rw [le b o e] at this; cases this
    · obtain ⟨o, h1⟩ := dHb b q.symm
      rw [e] at h1; cases h1
  have eoi := inner_env (pat := pat) (cl := cl) (C := C) r0.eo sf hcl
  let J : Nat → Shared → Prop := fun k s' => ∃ h' tk S' D' ys acc i, s' = { s with heap := h', toks := tk } ∧ i ≤ xs.length ∧ k = xs.length + 1 - i ∧ acc.length ≤ i ∧ St i h' ∧ CI d fa S0 S1 hb C AD wr ys acc S' D' h' ∧
    compW (fun x D k => bindP pat x σ fun σ' => Gf σ' D k) (xs.drop i) D' acc Q
  refine hloop J ?_ (xs.length + 1) s ⟨s.heap, s.toks, S, D, [], [], 0, rfl, Nat.zero_le _, rfl, Nat.le_refl _, hst, ci, hw⟩
  rintro n s' ⟨h', tk, S', D', ys, acc, i, rfl, hi, rfl, hlen, hst', ci', hw'⟩
  by_cases hlt : i < xs.length
  · refine W.item i _ _ _ hlt hst' fun v h₁ tk₁ hMd hk₁ => ?_
    refine W.go i v _ _ _ hMd fun h₂ hPi hst₂ hk₂ => ?_
    have ci₂ := ci'.touch (h' := h₂) (fun b o hb e => hk₂ b o hb (hk₁ b o hb e)) hwr hAw hCw hdw
    obtain ⟨x, ex, hit⟩ := hP i v h₂ S' hlt hPi ci₂.le ci₂.ext.sub
    have hdrop : xs.drop i = x :: xs.drop (i + 1) := by
      rw [List.drop_eq_getElem_cons hlt]
      congr 1
      exact Option.some.inj ((List.getElem?_eq_getElem hlt).symm.trans ex)
    rw [hdrop] at hw'
    have hw'' : bindP pat x σ fun σ' => Gf σ' D' fun o D'' => compW (fun x D k => bindP pat x σ fun σ' => Gf σ' D k) (xs.drop (i + 1)) D'' (match o with | some v => acc ++ [v] | none => acc) Q := hw'
    obtain ⟨m, hn⟩ := ci₂.ns
    refine bind_inner (c' := c.inner scope pat) (cenv := compEnvC scope cl C env) (σ := σ) (S := S') r0.room.handled okp eoi (fun y hy n hn' => ?_) hn hit hw'' fun h₃ tk₃ σ' m' hn₃ hk₃ e1 e2 e3 hG => ?_
    · obtain ⟨n', h1, h2⟩ := sf.tgt y hy
      have : n' = n := Option.some.inj (h1.symm.trans hn')
      subst this
      show (relab c.ks scope.names).lookup n' = _
      rw [lookup_relab, h2]; simp
    · have ci₃ := ci₂.own (h' := h₃) hk₃ hCb ⟨m', hn₃⟩ hAC hdC
      have r₃ := r0.ext ci₃.ext ci₃.deal
      have fit₃ : Fit (c.inner scope pat) (compEnvC scope cl C env) fa d ad σ' S' h₃ := inner_fit r0.eo sf hcl r₃.fit hn₃ (fun y hy => e1 y fun hp => sf.new y hp hy) e2 e3
      have ri : Run G0 fa d fs N (c.inner scope pat) (compEnvC scope cl C env) A σ' ad S' D' h₃ := ⟨r0.hfs, eoi, r0.room, r₃.ok, fit₃⟩
      have hst₃ : St (i + 1) h₃ := W.frame _ _ _ hst₂ fun b hb o e => hk₃ b o (fun q => hCf ((show b = C from q) ▸ hb)) e
      have hexw : ∀ b ∈ wr, ∃ o, h₃.get? b = some o := fun b hm => hex _ _ hst₃ b (W.sub b hm)
      have neA : some AD ≠ d := fun q => hdA AD q.symm rfl
      have neC : some C ≠ d := fun q => hdC C q.symm rfl
      refine hbody _ J _ σ' S' D' { s with heap := h₃, toks := tk₃ } _ ri hG (fun v pv S₅ D₅ h₅ tk₅ x₅ dl₅ rv hk => ?_) fun S₅ D₅ h₅ tk₅ x₅ dl₅ hk => ?_
      · have ci₅ := ci₃.step x₅ dl₅ hexw neA neC
        have hst₅ : St (i + 1) h₅ := W.frame _ _ _ hst₃ fun b hb o e => x₅.keep b o (hdf ci₃.deal ci₃.le b hb) e
        refine wpAny_list_append (s := { s with heap := h₅, toks := tk₅ }) ci₅.lst (fun h₆ hl₆ hs₆ => ?_) (by rw [List.size_toArray, ci₅.rep.length]; have := lim_line; omega)
        refine ⟨xs.length + 1 - (i + 1), by omega, h₆, tk₅, S₅, D₅, ys ++ [v], acc ++ [pv], i + 1, rfl, hlt, rfl, by rw [List.length_append, List.length_singleton]; omega, ?_, ci₅.push rv hl₆ hs₆ hAb hAC hdA, hk⟩
        exact W.frame _ _ _ hst₅ fun b hb o e => hs₆.extBut b o (fun q => hAf (q ▸ hb)) e
      · have ci₅ := ci₃.step x₅ dl₅ hexw neA neC
        have hst₅ : St (i + 1) h₅ := W.frame _ _ _ hst₃ fun b hb o e => x₅.keep b o (hdf ci₃.deal ci₃.le b hb) e
        exact ⟨xs.length + 1 - (i + 1), by omega, h₅, tk₅, S₅, D₅, ys, acc, i + 1, rfl, hlt, rfl, by omega, hst₅, ci₅, hk⟩
  · obtain rfl : i = xs.length := Nat.le_antisymm hi (Nat.not_lt.mp hlt)
    rw [List.drop_length] at hw'
    refine W.done _ _ _ hst' fun h₁ tk₁ hk₁ => ?_
    exact hend ys acc S' D' h₁ tk₁ hlen (ci'.touch hk₁ hwr hAw hCw hdw) hw'
end
end Mine
end

section
open PySem PySem.W PyProof.Rows
namespace Mine

theorem okI_folded {mi : MI} {c : Cx} {e : Expr} (h : okI mi c e = true) (env : Env) (x : Value) : foldedSetIterable e env x = pure x := by
  cases mi with
  | of a => exact okE_folded (show okE a c _ = true from h) env x
  | _ => apply xCallN_e h; intros; rfl

theorem okP_target {c : Cx} {pat : MP} {t : Expr} (h : okP c pat t = true) : TargetOk pat t := by
  cases pat with
  | one x => apply xName_e h; intro id p _; exact ⟨_, _, rfl⟩
  | two x y => apply xTup_e h; intro es k p _; exact ⟨_, _, _, rfl⟩

section
variable {prog : Program} {w : World} {G0 : Frz} {fa : Nat → Addr} {d : Option Addr} {fs : List Str} {N : Nat}

theorem comp_main {mi : MI} (hi : SI prog w G0 fa d fs N mi) {c : Cx} {env : Env} {A : Around} {σ : Sg} {ad : Nat → Addr} {S : Frz} {D : DS} {s : Shared} {scope : Scope} {pos pos' : Pos} {pat : MP} {t iter elt : Expr} {ifs : List Expr}
    {Q : List PV → DS → Prop} {R : Value → Shared → Prop} {use : Option (Value → Sem Unit)} {Gf : Sg → DS → (Option PV → DS → Prop) → Prop}
    {TB : Addr → Env → Nat → (Nat → Shared → Prop) → (Value → Shared → Prop) → Shared → Prop}
    (r : Run G0 fa d fs N c env A σ ad S D s.heap) (osc : c.scopeOk scope pat = true) (osh : shapeOk pat mi = true) (oki : okI mi c iter = true) (okp : okP (c.inner scope pat) pat t = true)
    (hw : wpI (CallOK prog w G0 d fa N) mi σ D fun xs D₁ => xs.length < lim ∧ compW (fun x D k => bindP pat x σ fun σ' => Gf σ' D k) xs D₁ [] Q)
    (hloop : ∀ (AD : Addr) (cenv : Env) (I : Addr) (RR : Result → Shared → Prop) (J : Nat → Shared → Prop), (∀ n s, J n s → wpAny (model prog w) A (pyNext (.ref I)) (fun r s₁ => match r with
        | none => RR (.ok .next) s₁
        | some v => wpAny (model prog w) A (letOwnedTupleGo t (.ref I) v) (fun _ s₀ => wpAny (model prog w) A (assign t cenv v) (fun _ s₂ =>
            TB AD cenv n J (notedBy (model prog w) A cenv fun e s' => RR (.error e) s') s₂) (notedBy (model prog w) A cenv fun e s' => RR (.error e) s') s₀) (notedBy (model prog w) A cenv fun e s' => RR (.error e) s') s₁)
        (notedBy (model prog w) A cenv fun e s' => RR (.error e) s') s) → ∀ n s, J n s → codeAny (model prog w) A (.compLoop (.ListComp elt [⟨t, iter, ifs, 0⟩] scope pos) 0 (.ref I) (.ref AD) cenv) RR s)
    (hbody : ∀ (AD : Addr) (cenv : Env) (n : Nat) (J : Nat → Shared → Prop) (E : Value → Shared → Prop) (σ' : Sg) (S : Frz) (D : DS) (s₂ : Shared) (k : Option PV → DS → Prop), Run G0 fa d fs N (c.inner scope pat) cenv A σ' ad S D s₂.heap → Gf σ' D k →
      (∀ v pv S' D' h' tk', Ext d S s₂.heap S' h' → DealAt d fa D' S' h' → Rep d fa S' v pv → k (some pv) D' → wpAny (model prog w) A (call (.builtin "list.append") [.ref AD, v]) (fun _ s₅ => ∃ m, m < n ∧ J m s₅) (fun _ _ => False) { s₂ with heap := h', toks := tk' }) →
      (∀ S' D' h' tk', Ext d S s₂.heap S' h' → DealAt d fa D' S' h' → k none D' → ∃ m, m < n ∧ J m { s₂ with heap := h', toks := tk' }) → TB AD cenv n J E s₂)
    (hfin : ∀ ys AD C m S' D' h' tk', Ext d S s.heap S' h' → DealAt d fa D' S' h' → Rep d fa S' (.ref AD) (.list ys) → h'.Ns C m → S' C = none → s.heap.get? C = none → AD ≠ C → Q ys D' →
      compPost (model prog w) A (fun _ _ => False) use R (.ref AD) C (.ok .next) { s with heap := h', toks := tk' }) :
    wpAny (model prog w) A (comprehension (.ListComp elt [⟨t, iter, ifs, 0⟩] scope pos) scope env pos' (newList []) false (eval iter env) use) R (fun _ _ => False) s := by
  have sf := scope_facts osc
  obtain ⟨cl, hcl, hcl2⟩ := closure_free (scope := scope) (env := env) (fun y hy e => r.eo.cells _ (sf.free y hy e).1)
  refine wpAny_comprehension_free (use := use) rfl (okI_folded oki env) hcl sf.kind sf.loc (hi oki osh (okP_target okp) r hw fun xs S₁ D₁ h₁ tk₁ it x₁ r₁ ia q => ?_)
  obtain ⟨hx, hw'⟩ := q
  obtain ⟨I, fp, wr, P, Md, St, rfl, W, hself, hst, hfp, hex, hwr, hP⟩ := ia
  refine wpAny_newObj_type (wpAny_newFunctionEnv sf.nocell (by intro y hy; simp at hy) (fun h₂ hns₂ hsb₂ => ?_) sf.kind)
  dsimp only at hns₂ hsb₂ ⊢
  generalize hH2 : h₁.push { cls := .type "list", dict := none, data := .seq ([] : List Value).toArray } = H2 at hns₂ hsb₂ ⊢
  have hC : H2.objs.size = h₁.objs.size + 1 := by rw [← hH2, Heap.size_push]
  have hDC : h₁.objs.size ≠ H2.objs.size := by rw [hC]; exact Nat.ne_of_lt (Nat.lt_succ_self _)
  have old : ∀ b o, h₁.get? b = some o → h₂.get? b = some o := fun b o e => by
    have := Heap.lt_size e
    exact hsb₂.extBut b o (by rw [hC]; exact Nat.ne_of_lt (Nat.lt_succ_of_lt this)) (Heap.get?_push_of_some _ (hH2 ▸ Heap.get?_push_of_some _ e))
  have hacc : h₂.IsList h₁.objs.size ([] : List Value).toArray := by
    refine ⟨_, hsb₂.extBut _ _ hDC (Heap.get?_push_of_some _ (hH2 ▸ Heap.get?_push_size _ rfl)), rfl, _, rfl⟩
  have hAn : h₁.get? h₁.objs.size = none := size_none _
  have hCn : h₁.get? H2.objs.size = none := none_of_size (by rw [hC]; exact Nat.le_succ _)
  have fpex : ∀ b ∈ fp, ∃ o, h₁.get? b = some o := hex 0 h₁ hst
  have hAf : h₁.objs.size ∉ fp := fun hm => by obtain ⟨o, e⟩ := fpex _ hm; rw [hAn] at e; cases e
  have hCf : H2.objs.size ∉ fp := fun hm => by obtain ⟨o, e⟩ := fpex _ hm; rw [hCn] at e; cases e
  have hst₂ : St 0 h₂ := W.frame _ _ _ hst fun b _ o e => old b o e
  have g₂ : Grew h₁ h₂ := old
  have x₂ : Ext d S₁ h₁ S₁ h₂ := Ext.of_grew r₁.ok.sub g₂
  have r₂ := r₁.ext x₂ (r₁.ok.deal.grew g₂)
  have loop : ∀ s₃ : Shared, s₃ = { s with heap := h₂, toks := tk₁ + ([] : List (Str × Value)).length } →
      codeAny (model prog w) A (.compLoop (.ListComp elt [⟨t, iter, ifs, 0⟩] scope pos) 0 (.ref I) (.ref h₁.objs.size) (compEnvC scope cl H2.objs.size env))
        (compPost (model prog w) A (fun _ _ => False) use R (.ref h₁.objs.size) H2.objs.size) s₃ := by
    rintro s₃ rfl
    refine comp_core (s := { s with heap := h₂, toks := tk₁ + ([] : List (Str × Value)).length }) (TB := TB h₁.objs.size (compEnvC scope cl H2.objs.size env)) (S := S₁) (S1 := S₁) (D := D₁) (Gf := Gf) (Q := Q) r sf okp hcl2 W hfp hex (fun b hb => (hwr b hb).1) hP
      (x₁.dom _ hAn) (x₁.dom _ hCn) hDC hAf hCf hx (hloop _ _ _ _) (fun n J E σ' S D s₂ k => hbody _ _ n J E σ' S D s₂ k) (fun ys acc S' D' h' tk' hle ci hq => ?_) hst₂ ?_ hw'
    · obtain ⟨m, hm⟩ := ci.ns
      obtain ⟨o, ho1, ho2, n, ho3⟩ := ci.lst
      have neA : some h₁.objs.size ≠ d := deal_ne r₁.ok.deal hAn
      refine hfin acc _ _ m (S'.add h₁.objs.size o) D' h' tk' (ci.ext.freeze ho1 ci.adS (x₁.dom _ hAn)) (ci.deal.freeze ci.adS neA) ?_ hm ?_ (x₁.dom _ hCn) hDC hq
      · refine .list (Frz.add_self _ _ _) ho2 ho3 ?_ (ci.rep.mono (Frz.add_le ci.adS))
        omega
      · unfold Frz.add
        rw [if_neg (Ne.symm hDC)]; exact ci.cS
    · exact ⟨x₁.trans x₂, Le.refl _, r₂.ok.deal, hacc, ⟨_, hns₂⟩, S_none (s := { s with heap := h₁ }) r₁.ok.sub hAn, S_none (s := { s with heap := h₁ }) r₁.ok.sub hCn, fun b hb => (hwr b hb).2, .nil⟩
  exact codeAny_compStart_list (loop _ rfl) (hself 0 _ _ _ hst₂ (loop _ rfl))

theorem comp_run {elt : ME} {pat : MP} {mi : MI} (hi : SI prog w G0 fa d fs N mi) (he : SE prog w G0 fa d fs N elt) {c : Cx} {env : Env} {A : Around} {σ : Sg} {ad : Nat → Addr} {S : Frz} {D : DS} {s : Shared} {scope : Scope} {pos pos' : Pos} {t iter el : Expr}
    {Q : List PV → DS → Prop} {R : Value → Shared → Prop} {use : Option (Value → Sem Unit)}
    (r : Run G0 fa d fs N c env A σ ad S D s.heap) (osc : c.scopeOk scope pat = true) (osh : shapeOk pat mi = true) (oki : okI mi c iter = true) (okp : okP (c.inner scope pat) pat t = true) (oke : okE elt (c.inner scope pat) el = true)
    (hw : wpI (CallOK prog w G0 d fa N) mi σ D fun xs D₁ => xs.length < lim ∧ compW (fun x D k => bindP pat x σ fun σ' => wpE (CallOK prog w G0 d fa N) elt σ' D fun v D' => k (some v) D') xs D₁ [] Q)
    (hfin : ∀ ys AD C m S' D' h' tk', Ext d S s.heap S' h' → DealAt d fa D' S' h' → Rep d fa S' (.ref AD) (.list ys) → h'.Ns C m → S' C = none → s.heap.get? C = none → AD ≠ C → Q ys D' →
      compPost (model prog w) A (fun _ _ => False) use R (.ref AD) C (.ok .next) { s with heap := h', toks := tk' }) :
    wpAny (model prog w) A (comprehension (.ListComp el [⟨t, iter, [], 0⟩] scope pos) scope env pos' (newList []) false (eval iter env) use) R (fun _ _ => False) s := by
  refine comp_main hi (TB := fun AD cenv n J E s₂ => wpAny (model prog w) A (eval el cenv) (fun x s₄ => wpAny (model prog w) A (call (.builtin "list.append") [.ref AD, x]) (fun _ s₅ => ∃ m, m < n ∧ J m s₅) E s₄) E s₂)
    (Gf := fun σ' D k => wpE (CallOK prog w G0 d fa N) elt σ' D fun v D' => k (some v) D') r osc osh oki okp hw ?_ ?_ hfin
  · intro AD cenv I RR J turn n s₀ hJ
    exact kcp_loop J turn n hJ
  · intro AD cenv n J E σ' S D s₂ k r₂ hG k1 k2
    exact wpAny_mono (he oke r₂ hG (R := fun x s₄ => wpAny (model prog w) A (call (.builtin "list.append") [.ref AD, x]) (fun _ s₅ => ∃ m, m < n ∧ J m s₅) E s₄) fun v pv S' D' h' tk' x dl rp q =>
      wpAny_mono (k1 v pv S' D' h' tk' x dl rp q) (fun _ _ e => e) fun _ _ e => e.elim) (fun _ _ e => e) fun _ _ e => e.elim

theorem compIf_run {elt cd : ME} {pat : MP} {mi : MI} (hi : SI prog w G0 fa d fs N mi) (he : SE prog w G0 fa d fs N elt) (hc : ST prog w G0 fa d fs N cd) {c : Cx} {env : Env} {A : Around} {σ : Sg} {ad : Nat → Addr} {S : Frz} {D : DS} {s : Shared} {scope : Scope} {pos pos' : Pos} {t iter el f : Expr}
    {Q : List PV → DS → Prop} {R : Value → Shared → Prop} {use : Option (Value → Sem Unit)}
    (r : Run G0 fa d fs N c env A σ ad S D s.heap) (osc : c.scopeOk scope pat = true) (osh : shapeOk pat mi = true) (oki : okI mi c iter = true) (okp : okP (c.inner scope pat) pat t = true) (oke : okE elt (c.inner scope pat) el = true) (okc : okE cd (c.inner scope pat) f = true)
    (hw : wpI (CallOK prog w G0 d fa N) mi σ D fun xs D₁ => xs.length < lim ∧ compW (fun x D k => bindP pat x σ fun σ' => wpE (CallOK prog w G0 d fa N) cd σ' D fun b D' => asBool b fun b =>
      whichB b (wpE (CallOK prog w G0 d fa N) elt σ' D' fun v D'' => k (some v) D'') (k none D')) xs D₁ [] Q)
    (hfin : ∀ ys AD C m S' D' h' tk', Ext d S s.heap S' h' → DealAt d fa D' S' h' → Rep d fa S' (.ref AD) (.list ys) → h'.Ns C m → S' C = none → s.heap.get? C = none → AD ≠ C → Q ys D' →
      compPost (model prog w) A (fun _ _ => False) use R (.ref AD) C (.ok .next) { s with heap := h', toks := tk' }) :
    wpAny (model prog w) A (comprehension (.ListComp el [⟨t, iter, [f], 0⟩] scope pos) scope env pos' (newList []) false (eval iter env) use) R (fun _ _ => False) s := by
  refine comp_main hi (TB := fun AD cenv n J E s₂ => wpAny (model prog w) A (isTrue f cenv (eval f cenv)) (fun ok s₃ => if ok = true then wpAny (model prog w) A (eval el cenv) (fun x s₄ => wpAny (model prog w) A (call (.builtin "list.append") [.ref AD, x]) (fun _ s₅ => ∃ m, m < n ∧ J m s₅) E s₄) E s₃ else ∃ m, m < n ∧ J m s₃) E s₂)
    (Gf := fun σ' D k => wpE (CallOK prog w G0 d fa N) cd σ' D fun b D' => asBool b fun b => whichB b (wpE (CallOK prog w G0 d fa N) elt σ' D' fun v D'' => k (some v) D'') (k none D')) r osc osh oki okp hw ?_ ?_ hfin
  · intro AD cenv I RR J turn n s₀ hJ
    exact kct_loop J turn n hJ
  · intro AD cenv n J E σ' S D s₂ k r₂ hG k1 k2
    refine wpAny_mono (hc.bind okc r₂ (K := fun b D' => whichB b (wpE (CallOK prog w G0 d fa N) elt σ' D' fun v D'' => k (some v) D'') (k none D')) (R := fun ok s₃ => if ok = true then wpAny (model prog w) A (eval el cenv) (fun x s₄ => wpAny (model prog w) A (call (.builtin "list.append") [.ref AD, x]) (fun _ s₅ => ∃ m, m < n ∧ J m s₅) E s₄) E s₃ else ∃ m, m < n ∧ J m s₃) hG
      fun b S' D' h' tk' x r' q => ?_) (fun _ _ e => e) fun _ _ e => e.elim
    cases b with
    | false => exact k2 S' D' h' tk' x r'.ok.deal q
    | true =>
      exact wpAny_mono (he oke r' q (s := { s₂ with heap := h', toks := tk' }) (R := fun x s₄ => wpAny (model prog w) A (call (.builtin "list.append") [.ref AD, x]) (fun _ s₅ => ∃ m, m < n ∧ J m s₅) E s₄) fun v pv S'' D'' h'' tk'' x' dl rp q =>
        wpAny_mono (k1 v pv S'' D'' h'' tk'' (x.trans x') dl rp q) (fun _ _ e => e) fun _ _ e => e.elim) (fun _ _ e => e) fun _ _ e => e.elim

/-- an object of nobody's changes or goes -/
theorem Ext.let_go {S S' : Frz} {h h' h'' : Heap} {C : Addr} (x : Ext d S h S' h') (k : ∀ a o, a ≠ C → h'.get? a = some o → h''.get? a = some o) (kb : ∀ a, a ≠ C → h''.get? a = h'.get? a) (hS : S' C = none) (hf : h.get? C = none) (hd : some C ≠ d) : Ext d S h S' h'' :=
  ⟨x.mono, fun a o e => k a o (fun q => by subst q; rw [hS] at e; cases e) (x.sub a o e), x.fresh, fun a o n e => k a o (fun q => by subst q; rw [hf] at e; cases e) (x.keep a o n e), fun a e => by
    by_cases hm : a = C
    · subst hm; exact hf
    · refine x.dom a ?_
      rw [← kb a hm]; exact e⟩

theorem se_comp {elt : ME} {pat : MP} {mi : MI} (hi : SI prog w G0 fa d fs N mi) (he : SE prog w G0 fa d fs N elt) : SE prog w G0 fa d fs N (.comp elt pat mi) := by
  intro c e env A σ ad S D s Q R ok r hw p
  apply xComp_e ok; intro el gens scope pos ok
  apply xGen_e ok; intro t i fs ok
  apply l0_e (an ok).1
  have o1 := (an (an (an ok).2).1).1
  have o2 := (an (an (an ok).2).1).2
  have o3 := (an (an (an ok).2).2).1
  have o4 := (an (an (an (an ok).2).2).2).1
  have o5 := (an (an (an (an ok).2).2).2).2
  rw [eval_ListComp]
  exact comp_run hi he r o1 o2 o3 o4 o5 hw fun ys AD C m S' D' h' tk' x dl rp hn hS hf hne q =>
    ⟨m, hn, fun h'' hs => p _ _ S' D' h'' tk' (x.let_go hs.extBut hs.2 hS hf (deal_ne r.ok.deal hf)) (dl.at fun a o e => hs.extBut a o (fun q => by subst q; exact deal_ne r.ok.deal hf e.symm)) rp q⟩
theorem se_compIf {elt : ME} {pat : MP} {mi : MI} {cd : ME} (hi : SI prog w G0 fa d fs N mi) (he : SE prog w G0 fa d fs N elt) (hc : ST prog w G0 fa d fs N cd) : SE prog w G0 fa d fs N (.compIf elt pat mi cd) := by
  intro c e env A σ ad S D s Q R ok r hw p
  apply xComp_e ok; intro el gens scope pos ok
  apply xGen_e ok; intro t i fs ok
  apply l1_e ok; intro f ok
  have o1 := (an (an ok).1).1
  have o2 := (an (an ok).1).2
  have o3 := (an (an ok).2).1
  have o4 := (an (an (an ok).2).2).1
  have o5 := (an (an (an (an ok).2).2).2).1
  have o6 := (an (an (an (an ok).2).2).2).2
  rw [eval_ListComp]
  exact compIf_run hi he hc r o1 o2 o3 o4 o5 o6 hw fun ys AD C m S' D' h' tk' x dl rp hn hS hf hne q =>
    ⟨m, hn, fun h'' hs => p _ _ S' D' h'' tk' (x.let_go hs.extBut hs.2 hS hf (deal_ne r.ok.deal hf)) (dl.at fun a o e => hs.extBut a o (fun q => by subst q; exact deal_ne r.ok.deal hf e.symm)) rp q⟩
end
end Mine
end

section
open PySem PySem.W PyProof.Rows
namespace Mine

noncomputable def plainX (e : Expr) : Bool := by
  cases e with
  | UnaryOp o _ _ => exact o != .Not
  | BoolOp | IfExp | Compare | NamedExpr => exact false
  | _ => exact true
noncomputable def ME.plain (me : ME) : Bool := by
  cases me with
  | not | and | or | ite | cmp | chain => exact false
  | _ => exact true

theorem isTrue_plain {e : Expr} {env : Env} (h : plainX e = true) : isTrue e env (eval e env) = (do let v ← eval e env; standAt e.pos; holding [v] (truthy v)) := by
  cases e with
  | UnaryOp o x p => cases o <;> first | rfl | exact no h
  | BoolOp | IfExp | Compare | NamedExpr => exact no h
  | _ => rfl

theorem okE_plain {me : ME} {c : Cx} {e : Expr} (hm : me.plain = true) (ok : okE me c e = true) : plainX e = true := by
  cases me with
  | int | bool => apply xConst_e ok; intros; rfl
  | var | fnv => apply xName_e ok; intros; rfl
  | bin | rep => apply xBin_e ok; intros; rfl
  | neg => apply xUn_e ok; intro o x p ok; cases eq_of_beq (an ok).1; rfl
  | not | and | or | ite | cmp | chain => exact no hm
  | idx | idxv | sliceTo | sliceAll | sliceRev => apply xSub_e ok; intros; rfl
  | list => apply xList_e ok; intros; rfl
  | tup => apply xTup_e ok; intros; rfl
  | comp | compIf => apply xComp_e ok; intros; rfl
  | _ => apply xCall_e ok; intros; rfl

section
variable {prog : Program} {w : World} {G0 : Frz} {fa : Nat → Addr} {d : Option Addr} {fs : List Str} {N : Nat}

theorem st_of {me : ME} (h : SE prog w G0 fa d fs N me) (hm : me.plain = true) : ST prog w G0 fa d fs N me := st_plain h fun ok => isTrue_plain (okE_plain hm ok)

variable (GL : Globs G0 fs fa) (hall : ∀ k, ∃ o fd, G0 (fa k) = some o ∧ o.data = .func fd)
include GL hall
mutual
theorem sound_e : ∀ me : ME, SE prog w G0 fa d fs N me ∧ ST prog w G0 fa d fs N me
  | .int i => ⟨se_int, st_of se_int rfl⟩
  | .bool i => ⟨se_bool, st_of se_bool rfl⟩
  | .var i => ⟨se_var, st_of se_var rfl⟩
  | .fnv i => ⟨se_fnv GL, st_of (se_fnv GL) rfl⟩
  | .bin op a b => have h : SE prog w G0 fa d fs N (.bin op a b) := se_bin (sound_e a).1 (sound_e b).1; ⟨h, st_of h rfl⟩
  | .neg a => have h : SE prog w G0 fa d fs N (.neg a) := se_neg (sound_e a).1; ⟨h, st_of h rfl⟩
  | .not a => ⟨se_not (sound_e a).1, st_not (sound_e a).2⟩
  | .and a b => ⟨se_and (sound_e a).1 (sound_e b).1, st_and (sound_e a).2 (sound_e b).2⟩
  | .or a b => ⟨se_or (sound_e a).1 (sound_e b).1, st_or (sound_e a).2 (sound_e b).2⟩
  | .ite t a b => ⟨se_ite (sound_e t).2 (sound_e a).1 (sound_e b).1, st_ite (sound_e t).2 (sound_e a).2 (sound_e b).2⟩
  | .cmp op a b => ⟨se_cmp (sound_e a).1 (sound_e b).1, st_cmp (sound_e a).1 (sound_e b).1⟩
  | .chain o1 o2 a b c => ⟨se_chain (sound_e a).1 (sound_e b).1 (sound_e c).1, st_chain (sound_e a).1 (sound_e b).1 (sound_e c).1⟩
  | .call k as => have h : SE prog w G0 fa d fs N (.call k as) := se_call GL (k := k) (sound_es as); ⟨h, st_of h rfl⟩
  | .callv x as => have h : SE prog w G0 fa d fs N (.callv x as) := se_callv (x := x) (sound_es as) hall; ⟨h, st_of h rfl⟩
  | .lenv x => ⟨se_lenv GL, st_of (se_lenv GL) rfl⟩
  | .len a => have h : SE prog w G0 fa d fs N (.len a) := se_len GL (sound_e a).1; ⟨h, st_of h rfl⟩
  | .abs a => have h : SE prog w G0 fa d fs N (.abs a) := se_abs GL (sound_e a).1; ⟨h, st_of h rfl⟩
  | .toInt a => have h : SE prog w G0 fa d fs N (.toInt a) := se_toInt GL (sound_e a).1; ⟨h, st_of h rfl⟩
  | .sum a => have h : SE prog w G0 fa d fs N (.sum a) := se_sum GL (sound_e a).1; ⟨h, st_of h rfl⟩
  | .bitlen a => have h : SE prog w G0 fa d fs N (.bitlen a) := se_bitlen (sound_e a).1; ⟨h, st_of h rfl⟩
  | .idxv x i => have h : SE prog w G0 fa d fs N (.idxv x i) := se_idxv (x := x) (sound_e i).1; ⟨h, st_of h rfl⟩
  | .idx a i => have h : SE prog w G0 fa d fs N (.idx a i) := se_idx (sound_e a).1 (sound_e i).1; ⟨h, st_of h rfl⟩
  | .sliceTo x e => have h : SE prog w G0 fa d fs N (.sliceTo x e) := se_sliceTo (x := x) (sound_e e).1; ⟨h, st_of h rfl⟩
  | .sliceAll x => ⟨se_sliceAll, st_of se_sliceAll rfl⟩
  | .sliceRev x => ⟨se_sliceRev, st_of se_sliceRev rfl⟩
  | .list es => have h : SE prog w G0 fa d fs N (.list es) := se_list (sound_es es); ⟨h, st_of h rfl⟩
  | .rep e n => have h : SE prog w G0 fa d fs N (.rep e n) := se_rep (sound_e e).1 (sound_e n).1; ⟨h, st_of h rfl⟩
  | .tup es => have h : SE prog w G0 fa d fs N (.tup es) := se_tup (sound_es es); ⟨h, st_of h rfl⟩
  | .comp elt pat it => have h : SE prog w G0 fa d fs N (.comp elt pat it) := se_comp (pat := pat) (sound_i it) (sound_e elt).1; ⟨h, st_of h rfl⟩
  | .compIf elt pat it c => have h : SE prog w G0 fa d fs N (.compIf elt pat it c) := se_compIf (pat := pat) (sound_i it) (sound_e elt).1 (sound_e c).2; ⟨h, st_of h rfl⟩
theorem sound_es : ∀ mes : MEs, SEs prog w G0 fa d fs N mes
  | .nil => ses_nil
  | .cons e r => ses_cons (sound_e e).1 (sound_es r)
theorem sound_i : ∀ mi : MI, SI prog w G0 fa d fs N mi
  | .of e => si_of (sound_e e).1
  | .range1 a => si_range1 GL (sound_e a).1
  | .range2 a b => si_range2 GL (sound_e a).1 (sound_e b).1
  | .range3 a b c => si_range3 GL (sound_e a).1 (sound_e b).1 (sound_e c).1
  | .enum e => si_enum GL (sound_e e).1
  | .zip a b => si_zip GL (sound_e a).1 (sound_e b).1
end
end
end Mine
end

section
open PySem PySem.W PyProof.Rows
namespace Mine

/-- the state between two statements of a frame: S0 the frozen objects at the start, B what may not change -/
structure Inv (G0 : Frz) (fa : Nat → Addr) (d : Option Addr) (fs : List Str) (N : Nat) (S0 B : Frz) (c : Cx) (env : Env) (A : Around) (σ : Sg) (ad : Nat → Addr) (S : Frz) (D : DS) (h : Heap) : Prop where
  run : Run G0 fa d fs N c env A σ ad S D h
  le : Le S0 S
  new : ∀ a o, S a = some o → S0 a = some o ∨ B a = none
  sub : Sub B h
  nB : ∀ a o, B a = some o → some a ≠ d
  ns : ∃ m, h.Ns env.locals m
  lB : B env.locals = none
  lS : S env.locals = none
  cel : ∀ n a, env.cells.lookup n = some a → (∃ v, h.IsCell a v) ∧ B a = none ∧ S a = none
  capart : ∀ n n' a, env.cells.lookup n = some a → env.cells.lookup n' = some a → n = n'
  ownB : ∀ x ∈ c.vis, ∀ xs, σ[x]? = some (.own xs) → B (ad x) = none

theorem ns_cell {h : Heap} {a b : Addr} {m : Str → Option Value} {v : Option Value} (n : h.Ns a m) (i : h.IsCell b v) : a ≠ b := fun q => by
  subst q
  obtain ⟨o, es, ep, g1, g2, _⟩ := n
  obtain ⟨o', g1', g2'⟩ := i
  rw [g1] at g1'; cases g1'
  rw [g2] at g2'; cases g2'
theorem ns_seq {h : Heap} {a b : Addr} {m : Str → Option Value} {o : Obj} {vs : Array Value} {k : Nat} (n : h.Ns a m) (i : h.get? b = some o) (e : o.data = .seq vs k) : a ≠ b := fun q => by
  subst q
  obtain ⟨o', es, ep, g1, g2, _⟩ := n
  rw [g1] at i; cases i
  rw [g2] at e; cases e
theorem cell_seq {h : Heap} {a b : Addr} {v : Option Value} {o : Obj} {vs : Array Value} {k : Nat} (n : h.IsCell a v) (i : h.get? b = some o) (e : o.data = .seq vs k) : a ≠ b := fun q => by
  subst q
  obtain ⟨o', g1, g2⟩ := n
  rw [g1] at i; cases i
  rw [g2] at e; cases e

section
variable {prog : Program} {w : World} {G0 : Frz} {fa : Nat → Addr} {d : Option Addr} {fs : List Str} {N : Nat} {S0 B S S' : Frz} {c : Cx} {env : Env} {A : Around} {σ σ' : Sg} {ad ad' : Nat → Addr} {D D' : DS} {h h' : Heap}

theorem still_none {a : Addr} {o : Obj} (e : Ext d S h S' h') (q : S a = none) (g : h.get? a = some o) : S' a = none := by
  cases z : S' a with
  | none => rfl
  | some o' =>
    rcases e.fresh a o' z with z | z
    · rw [q] at z; cases z
    · rw [g] at z; cases z

/-- an expression was walked -/
theorem Inv.ext (i : Inv G0 fa d fs N S0 B c env A σ ad S D h) (e : Ext d S h S' h') (dl : DealAt d fa D' S' h') : Inv G0 fa d fs N S0 B c env A σ ad S' D' h' where
  run := i.run.ext e dl
  le := i.le.trans e.mono
  new := fun a o q => by
    rcases e.fresh a o q with z | z
    · exact i.new a o z
    · refine .inr ?_
      cases q : B a with
      | none => rfl
      | some o' => rw [i.sub a o' q] at z; cases z
  sub := fun a o q => e.keep a o (i.nB a o q) (i.sub a o q)
  nB := i.nB
  ns := let ⟨m, n⟩ := i.ns; ⟨m, n.at' fun o z => e.keep _ o (deal_ne_ns i.run.ok.deal n) z⟩
  lB := i.lB
  lS := by
    obtain ⟨m, o, _, _, g, _⟩ := i.ns
    exact still_none e i.lS g
  cel := fun n a q => by
    obtain ⟨⟨v, o, g1, g2⟩, b, z⟩ := i.cel n a q
    exact ⟨⟨v, o, e.keep _ o (deal_ne_cell i.run.ok.deal ⟨o, g1, g2⟩) g1, g2⟩, b, still_none e z g1⟩
  capart := i.capart
  ownB := i.ownB

/-- one object of the frame's own changed -/
theorem Inv.poke (i : Inv G0 fa d fs N S0 B c env A σ ad S D h) {z : Addr} (k : ∀ a o, a ≠ z → h.get? a = some o → h'.get? a = some o) (zB : B z = none) (zS : S z = none) (zd : some z ≠ d)
    (fit : Fit c env fa d ad' σ' S h') (ns : ∃ m, h'.Ns env.locals m) (cel : ∀ n a, env.cells.lookup n = some a → ∃ v, h'.IsCell a v) (ownB : ∀ x ∈ c.vis, ∀ xs, σ'[x]? = some (.own xs) → B (ad' x) = none) :
    Inv G0 fa d fs N S0 B c env A σ' ad' S D h' where
  run := ⟨i.run.hfs, i.run.eo, i.run.room, ⟨i.run.ok.g, fun a o q => k a o (fun e => by subst e; rw [zS] at q; cases q) (i.run.ok.sub a o q), i.run.ok.deal.at fun a o q => k a o (fun e => by subst e; exact zd q.symm)⟩, fit⟩
  le := i.le
  new := i.new
  sub := fun a o q => k a o (fun e => by subst e; rw [zB] at q; cases q) (i.sub a o q)
  nB := i.nB
  ns := ns
  lB := i.lB
  lS := i.lS
  cel := fun n a q => ⟨cel n a q, (i.cel n a q).2⟩
  capart := i.capart
  ownB := ownB

/-- objects outside the frame's changed, new ones came: an iterator's turn -/
theorem Inv.touch (i : Inv G0 fa d fs N S0 B c env A σ ad S D h) {wr : List Addr} (k : ∀ a o, a ∉ wr → h.get? a = some o → h'.get? a = some o) (wB : ∀ b ∈ wr, B b = none) (wS : ∀ b ∈ wr, S b = none) (wd : ∀ b ∈ wr, some b ≠ d)
    (wL : env.locals ∉ wr) (wC : ∀ n a, env.cells.lookup n = some a → a ∉ wr) (wO : ∀ x ∈ c.vis, ∀ xs, σ[x]? = some (.own xs) → ad x ∉ wr) : Inv G0 fa d fs N S0 B c env A σ ad S D h' where
  run := ⟨i.run.hfs, i.run.eo, i.run.room, ⟨i.run.ok.g, fun a o q => k a o (fun e => by rw [wS a e] at q; cases q) (i.run.ok.sub a o q), i.run.ok.deal.at fun a o q => k a o (fun e => wd a e q.symm)⟩,
    { val := fun y hy n p h1 h2 => by
        obtain ⟨v, a, b⟩ := i.run.fit.val y hy n p h1 h2
        exact ⟨v, a.at (fun o => k _ o wL) fun a o q => k a o (wC _ _ q), b⟩
      own := fun y hy n xs h1 h2 => by
        obtain ⟨a, b, q, f, o, vs, kk, g1, g⟩ := i.run.fit.own y hy n xs h1 h2
        exact ⟨a.at (fun o => k _ o wL) fun a o q => k a o (wC _ _ q), b, q, f, o, vs, kk, k _ o (wO y hy xs h2) g1, g⟩
      apart := i.run.fit.apart }⟩
  le := i.le
  new := i.new
  sub := fun a o q => k a o (fun e => by rw [wB a e] at q; cases q) (i.sub a o q)
  nB := i.nB
  ns := let ⟨m, n⟩ := i.ns; ⟨m, n.at' fun o z => k _ o wL z⟩
  lB := i.lB
  lS := i.lS
  cel := fun n a q => by
    obtain ⟨⟨v, o, g1, g2⟩, b, z⟩ := i.cel n a q
    exact ⟨⟨v, o, k _ o (wC _ _ q) g1, g2⟩, b, z⟩
  capart := i.capart
  ownB := i.ownB

/-- only new objects came -/
theorem Inv.grew (i : Inv G0 fa d fs N S0 B c env A σ ad S D h) (g : Grew h h') : Inv G0 fa d fs N S0 B c env A σ ad S D h' :=
  i.ext (Ext.of_grew i.run.ok.sub g) (i.run.ok.deal.grew g)

/-- the body's walk inside a loop -/
theorem Inv.rebase {S1 B' : Frz} (i : Inv G0 fa d fs N S1 B' c env A σ ad S D h) (le : Le S0 S1) (new : ∀ a o, S1 a = some o → S0 a = some o ∨ B a = none) (sb : Le B B') : Inv G0 fa d fs N S0 B c env A σ ad S D h where
  run := i.run
  le := le.trans i.le
  new := fun a o q => by
    rcases i.new a o q with z | z
    · exact new a o z
    · refine .inr ?_
      cases e : B a with
      | none => rfl
      | some o' => rw [sb a o' e] at z; cases z
  sub := fun a o q => i.sub a o (sb a o q)
  nB := fun a o q => i.nB a o (sb a o q)
  ns := i.ns
  lB := by
    cases e : B env.locals with
    | none => rfl
    | some o' => rw [← i.lB, sb _ o' e]
  lS := i.lS
  cel := fun n a q => by
    obtain ⟨h1, h2, h3⟩ := i.cel n a q
    refine ⟨h1, ?_, h3⟩
    cases e : B a with
    | none => rfl
    | some o' => rw [← h2, sb _ o' e]
  capart := i.capart
  ownB := fun x hx xs q => by
    have h2 := i.ownB x hx xs q
    cases e : B (ad x) with
    | none => rfl
    | some o' => rw [← h2, sb _ o' e]

/-- what goes under a letter -/
noncomputable def Slot (d : Option Addr) (fa : Nat → Addr) (B S : Frz) (h : Heap) (v : Value) (a : Addr) : Sl → Prop
  | .un => False
  | .v p => Rep d fa S v p
  | .own xs => v = .ref a ∧ xs.length < lim ∧ S a = none ∧ some a ≠ d ∧ B a = none ∧ ∃ o vs k, h.get? a = some o ∧ (o.cls = .type "list" ∧ o.dict = none) ∧ o.data = .seq (vs : List Value).toArray k ∧ Reps d fa S vs xs

theorem holds_store_local {n id : Str} {m : Str → Option Value} {v v' : Value} (hne : n ≠ id) (x : Holds env h n v') (hn : h.Ns env.locals m) (hn' : h'.Ns env.locals (fun y => if y = id then some v else m y)) (k : ∀ a o, a ≠ env.locals → h.get? a = some o → h'.get? a = some o) : Holds env h' n v' := by
  rcases x with ⟨a, m0, b, e⟩ | ⟨a, q, b, i⟩
  · have : m n = some v' := by
      obtain ⟨o, es, ep, g1, g2, g3, g4⟩ := b
      obtain ⟨o', es', ep', g1', g2', g3', g4'⟩ := hn
      rw [g1] at g1'; cases g1'
      rw [g2] at g2'; cases g2'
      rw [← g4', g4]; exact e
    exact .inl ⟨a, _, hn', by simp [hne, this]⟩
  · have hne2 := ns_cell hn i
    obtain ⟨o, g1, g2⟩ := i
    exact .inr ⟨a, q, b, o, k q o (Ne.symm hne2) g1, g2⟩

theorem set_get (σ : Sg) (x y : Nat) (l : Sl) : (σ.set x l)[y]? = if y = x then (σ[x]?).map (fun _ => l) else σ[y]? := by
  by_cases e : y = x
  · subst e; rw [if_pos rfl, List.getElem?_set_self']; rfl
  · rw [if_neg e, List.getElem?_set_ne (Ne.symm e)]
theorem set_get_inv {σ : Sg} {x y : Nat} {l l' : Sl} (h : (σ.set x l)[y]? = some l') : (y = x ∧ l' = l) ∨ (y ≠ x ∧ σ[y]? = some l') := by
  rw [set_get] at h
  by_cases e : y = x
  · rw [if_pos e] at h
    cases q : σ[x]? with
    | none => rw [q] at h; cases h
    | some _ => rw [q] at h; cases h; exact .inl ⟨e, rfl⟩
  · rw [if_neg e] at h; exact .inr ⟨e, h⟩

/-- the frame after a store -/
theorem store_fit (i : Inv G0 fa d fs N S0 B c env A σ ad S D h) {x : Nat} {id : Str} {v : Value} {a : Addr} {l : Sl} (hv : c.isVar x id = true) (so : Slot d fa B S h v a l)
    (ap : ∀ xs, l = .own xs → ∀ y ∈ c.vis, y ≠ x → ∀ ys, σ[y]? = some (.own ys) → ad y ≠ a)
    (new : Holds env h' id v) (old : ∀ n v', n ≠ id → Holds env h n v' → Holds env h' n v') (seq : ∀ b o vs k, h.get? b = some o → o.data = .seq vs k → h'.get? b = some o) :
    Fit c env fa d (fun y => if y = x then a else ad y) (σ.set x l) S h' where
  val := fun y hy n p h1 h2 => by
    obtain ⟨g1, g2, _⟩ := isVar_inv hv
    rcases set_get_inv h2 with ⟨rfl, e⟩ | ⟨hne, e⟩
    · subst e
      have en : n = id := Option.some.inj (h1.symm.trans g2)
      subst en
      exact ⟨v, new, so⟩
    · obtain ⟨v', a', b⟩ := i.run.fit.val y hy n p h1 e
      exact ⟨v', old n v' (fun q => hne (i.run.eo.inj y hy x g1 (by rw [h1, g2, q]))) a', b⟩
  own := fun y hy n xs h1 h2 => by
    obtain ⟨g1, g2, _⟩ := isVar_inv hv
    rcases set_get_inv h2 with ⟨rfl, e⟩ | ⟨hne, e⟩
    · subst e
      have en : n = id := Option.some.inj (h1.symm.trans g2)
      subst en
      obtain ⟨rfl, q1, q2, q3, q4, o, vs, k, q5, q6, q7, q8⟩ := so
      rw [if_pos rfl]
      exact ⟨new, q1, q2, q3, o, vs, k, seq _ _ _ _ q5 q7, q6, q7, q8⟩
    · rw [if_neg hne]
      obtain ⟨b, q1, q2, q3, o, vs, k, q5, q6, q7, q8⟩ := i.run.fit.own y hy n xs h1 e
      exact ⟨old n _ (fun q => hne (i.run.eo.inj y hy x g1 (by rw [h1, g2, q]))) b, q1, q2, q3, o, vs, k, seq _ _ _ _ q5 q7, q6, q7, q8⟩
  apart := fun y hy y' hy' xs ys e1 e2 q => by
    rcases set_get_inv e1 with ⟨rfl, e⟩ | ⟨hne, e⟩
    · rcases set_get_inv e2 with ⟨rfl, e'⟩ | ⟨hne', e'⟩
      · rfl
      · rw [if_pos rfl, if_neg hne'] at q
        exact absurd q.symm (ap xs e.symm y' hy' hne' ys e')
    · rcases set_get_inv e2 with ⟨rfl, e'⟩ | ⟨hne', e'⟩
      · rw [if_pos rfl, if_neg hne] at q
        exact absurd q (ap ys e'.symm y hy hne xs e)
      · rw [if_neg hne, if_neg hne'] at q
        exact i.run.fit.apart y hy y' hy' xs ys e e' q

theorem store_var {s : Shared} (i : Inv G0 fa d fs N S0 B c env A σ ad S D s.heap) {x : Nat} {id : Str} {v : Value} {a : Addr} {l : Sl} {K : Unit → Shared → Prop} {E : Value → Shared → Prop} (hv : c.isVar x id = true) (so : Slot d fa B S s.heap v a l)
    (ap : ∀ xs, l = .own xs → ∀ y ∈ c.vis, y ≠ x → ∀ ys, σ[y]? = some (.own ys) → ad y ≠ a)
    (k : ∀ h' tk', Inv G0 fa d fs N S0 B c env A (σ.set x l) (fun y => if y = x then a else ad y) S D h' → (∀ b o vs k, s.heap.get? b = some o → o.data = .seq vs k → h'.get? b = some o) →
      (∀ b, b ≠ env.locals → (∀ n, env.cells.lookup n ≠ some b) → ∀ o, s.heap.get? b = some o → h'.get? b = some o) → K () { s with heap := h', toks := tk' }) :
    wpAny (model prog w) A (storeName env id v) K E s := by
  obtain ⟨g1, g2, g3, _⟩ := isVar_inv hv
  obtain ⟨m, hn⟩ := i.ns
  have hown' : ∀ y ∈ c.vis, ∀ xs, (σ.set x l)[y]? = some (.own xs) → B (if y = x then a else ad y) = none := fun y hy xs e => by
    rcases set_get_inv e with ⟨rfl, e1⟩ | ⟨hne, e1⟩
    · subst e1; rw [if_pos rfl]; exact so.2.2.2.2.1
    · rw [if_neg hne]; exact i.ownB y hy xs e1
  rcases g3 with g3 | g3
  · have hl : env.kindOf id = some .local := by unfold Env.kindOf; rw [i.run.eo.names]; exact g3
    refine wpAny_storeName_local hl hn (fun h' hn' hs => ?_) (by rw [i.run.eo.kind]; rfl)
    have kk : ∀ b o, b ≠ env.locals → s.heap.get? b = some o → h'.get? b = some o := hs.extBut
    have sq : ∀ b o vs k, s.heap.get? b = some o → o.data = .seq vs k → h'.get? b = some o := fun b o vs k e1 e2 => kk b o (Ne.symm (ns_seq hn e1 e2)) e1
    refine k h' (s.toks + 1) (i.poke kk i.lB i.lS (deal_ne_ns i.run.ok.deal hn) (store_fit i hv so ap ?_ (fun n v' hne x => holds_store_local hne x hn hn' kk) sq) ⟨_, hn'⟩ (fun n a' q => ?_) hown') sq fun b h1 h2 o => kk b o h1
    · exact .inl ⟨by rw [i.run.eo.names]; exact g3, _, hn', by simp⟩
    · obtain ⟨⟨v', hc⟩, _⟩ := i.cel n a' q
      exact ⟨v', hc.sameBut hs (Ne.symm (ns_cell hn hc))⟩
  · have hl : env.kindOf id = some .cell := by unfold Env.kindOf; rw [i.run.eo.names]; exact g3
    obtain ⟨ca, hca⟩ := i.run.eo.cells id g3
    obtain ⟨⟨v0, hc0⟩, cB, cS⟩ := i.cel id ca hca
    refine wpAny_storeName_cell i.run.eo.kind hl hca hc0 fun h' hc' hs => ?_
    have kk : ∀ b o, b ≠ ca → s.heap.get? b = some o → h'.get? b = some o := hs.extBut
    have sq : ∀ b o vs k, s.heap.get? b = some o → o.data = .seq vs k → h'.get? b = some o := fun b o vs k e1 e2 => kk b o (Ne.symm (cell_seq hc0 e1 e2)) e1
    refine k h' s.toks (i.poke kk cB cS (deal_ne_cell i.run.ok.deal hc0) (store_fit i hv so ap ?_ (fun n v' hne x => ?_) sq) ⟨m, hn.sameBut hs (ns_cell hn hc0)⟩ (fun n a' q => ?_) hown') sq fun b h1 h2 o => kk b o (fun q => h2 id (by rw [hca, q]))
    · exact .inr ⟨by rw [i.run.eo.names]; exact g3, ca, hca, hc'⟩
    · rcases x with ⟨a1, m0, b, e⟩ | ⟨a1, q, b, ii⟩
      · exact .inl ⟨a1, m0, b.sameBut hs (ns_cell b hc0), e⟩
      · have : q ≠ ca := fun e => hne (i.capart n id ca (e ▸ b) hca)
        exact .inr ⟨a1, q, b, ii.sameBut hs this⟩
    · by_cases e : a' = ca
      · subst e; exact ⟨_, hc'⟩
      · obtain ⟨⟨v', hc⟩, _⟩ := i.cel n a' q
        exact ⟨v', hc.sameBut hs e⟩
end
end Mine
end

section
open PySem PySem.W PyProof.Rows
namespace Mine

/-- what the making of a list of the frame's own hands on -/
noncomputable def PostO (d : Option Addr) (fa : Nat → Addr) (S : Frz) (s : Shared) (Q : List PV → DS → Prop) (R : Value → Shared → Prop) : Prop :=
  ∀ a xs o vs k S' D' h' tk', Ext d S s.heap S' h' → DealAt d fa D' S' h' → s.heap.get? a = none → S' a = none → h'.get? a = some o → (o.cls = .type "list" ∧ o.dict = none) → o.data = .seq (vs : List Value).toArray k → Reps d fa S' vs xs → xs.length < lim → Q xs D' → R (.ref a) { s with heap := h', toks := tk' }

section
variable {prog : Program} {w : World} {G0 : Frz} {fa : Nat → Addr} {d : Option Addr} {fs : List Str} {N : Nat} {S0 B S S' : Frz} {c : Cx} {env : Env} {A : Around} {σ σ' : Sg} {ad ad' : Nat → Addr} {D D' : DS} {h h' : Heap}

theorem PostO.after {s : Shared} {Q : List PV → DS → Prop} {R : Value → Shared → Prop} {S' : Frz} {h' : Heap} {tk' : Nat} (p : PostO d fa S s Q R) (e : Ext d S s.heap S' h') : PostO d fa S' { s with heap := h', toks := tk' } Q R :=
  fun a xs o vs k S'' D'' h'' tk'' e' dl f rest => p a xs o vs k S'' D'' h'' tk'' (e.trans e') dl (e.dom a f) rest
theorem PostO.newL {s : Shared} {Q : List PV → DS → Prop} {R : Value → Shared → Prop} (p : PostO d fa S s Q R) (x : Ok G0 fa d S D s.heap) {vs : List Value} {xs : List PV} {n : Nat} {tk : Nat} (rs : Reps d fa S vs xs) (l : xs.length < lim) (q : Q xs D) :
    R (.ref s.heap.objs.size) { s with heap := s.heap.push { cls := .type "list", data := .seq vs.toArray n }, toks := tk } := by
  have f := size_none s.heap
  have g := Grew.push s.heap { cls := .type "list", data := .seq vs.toArray n }
  have new := Heap.get?_push_size s.heap (o := { cls := .type "list", data := .seq vs.toArray n }) rfl
  exact p _ xs _ vs n S D _ tk (Ext.of_grew x.sub g) (x.deal.grew g) f (S_none x.sub f) new ⟨rfl, rfl⟩ rfl rs l q
theorem PostO.newSL {S : Frz} {D : DS} {s : Shared} {Q : List PV → DS → Prop} {R : Value → Shared → Prop} (p : PostO d fa S s Q R) (x : Ok G0 fa d S D s.heap) {o : Obj} {vs : List Value} {xs : List PV} {n : Nat} {tk : Nat} (rs : Reps d fa S vs xs) (l : xs.length < lim) (q : Q xs D) :
    R (.ref (s.heap.objs.size + 1)) { s with heap := (s.heap.push o).push { cls := .type "list", data := .seq vs.toArray n }, toks := tk } := by
  have g := Grew.push s.heap o
  have x' : Ok G0 fa d S D (s.heap.push o) := ⟨x.g, fun a o' e => g a o' (x.sub a o' e), x.deal.grew g⟩
  have := (p.after (Ext.of_grew x.sub g) (tk' := s.toks)).newL (s := { s with heap := s.heap.push o, toks := s.toks }) x' (n := n) (tk := tk) rs l q
  rw [show ({ s with heap := s.heap.push o, toks := s.toks } : Shared).heap.objs.size = s.heap.objs.size + 1 from Heap.size_push ..] at this
  exact this
end

section
variable (prog : Program) (w : World) (G0 : Frz) (fa : Nat → Addr) (d : Option Addr) (fs : List Str) (N : Nat)
noncomputable def SO (me : ME) : Prop := ∀ {c : Cx} {e : Expr} {env : Env} {A : Around} {σ : Sg} {ad : Nat → Addr} {S : Frz} {D : DS} {s : Shared} {Q : List PV → DS → Prop} {R : Value → Shared → Prop},
  okE me c e = true → Run G0 fa d fs N c env A σ ad S D s.heap → wpE (CallOK prog w G0 d fa N) me σ D (fun v D' => asList v fun xs => Q xs D') → PostO d fa S s Q R → wpAny (model prog w) A (eval e env) R (fun _ _ => False) s
end

section
variable {prog : Program} {w : World} {G0 : Frz} {fa : Nat → Addr} {d : Option Addr} {fs : List Str} {N : Nat}

theorem so_list {mes : MEs} (h : SEs prog w G0 fa d fs N mes) : SO prog w G0 fa d fs N (.list mes) := by
  intro c e env A σ ad S D s Q R ok r hw p
  apply xList_e ok; intro es pos ok
  refine List_ (h ok r hw fun vs ps S1 D1 h1 tk1 x1 dl rs q => ?_)
  have r1 := r.ext x1 dl
  refine wpAny_newObj_type ((p.after x1 (tk' := tk1)).newL r1.ok rs q.1 q.2) ?_
  show vs.toArray.size ≤ sizeLine
  rw [List.size_toArray, rs.length]
  have := lim_line; have := q.1; omega

theorem so_sliceAll {x : Nat} : SO prog w G0 fa d fs N (.sliceAll x) := by
  intro c e env A σ ad S D s Q R ok r hw p
  apply xSubN_e ok; intro v vp sl pos ok
  apply xSlice_e ok; intro lo up st sp ok
  apply o0_e (an ok).1
  apply o0_e (an (an ok).2).1
  apply o0_e (an (an (an ok).2).2).1
  have ok := (an (an (an ok).2).2).2
  obtain ⟨xs, e0, hw⟩ := asSome_inv hw
  obtain ⟨v0, k1, rp0⟩ := var_load r ok (gf_gv e0)
  obtain ⟨a, rfl⟩ := rp0.list_ref
  refine wpAny_Subscript_list_slice (name_holds r.eo.kind (isVar_inv ok).2.2.2 k1 ?_)
  refine wpAny_pure (wpAny_pure ?_)
  obtain ⟨vs, m2, m3, m4, m5⟩ := rp0.listAt r.ok.sub
  refine ⟨a, vs.toArray, none, none, rfl, m2, by rw [List.size_toArray]; have := lim_line; omega, .none, .none, ?_⟩
  rw [slicePick_all]
  exact p.newSL r.ok m3 (by omega) hw

theorem so_rep {b n : ME} (hb : SE prog w G0 fa d fs N b) (hn : SE prog w G0 fa d fs N n) : SO prog w G0 fa d fs N (.rep b n) := by
  intro c e env A σ ad S D s Q R ok r hw p
  apply xBin_e ok; intro l o rr pos ok
  cases eq_of_beq (an ok).1
  apply xList_e (an ok).2; intro es lp ok
  apply l1_e ok; intro e1 ok
  refine wpAny_BinOp (List_ ?_)
  rw [okE_star (an ok).1]
  show wpAny _ A (spliced [(false, eval e1 env)]) _ _ s
  refine Calls.spliced_cons (hb.bind (an ok).1 r hw fun v0 p0 S0 D0 h0 tk0 x0 rp0 r0 q0 => Calls.spliced_nil (wpAny_newObj_type ?_))
  have g := Grew.push h0 { cls := .type "list", data := .seq [v0].toArray 0 }
  have xg := Ext.of_grew (d := d) r0.ok.sub g
  have r0' := r0.ext xg (r0.ok.deal.grew g)
  have new : (h0.push { cls := .type "list", data := .seq [v0].toArray 0 }).get? h0.objs.size = some { cls := .type "list", data := .seq [v0].toArray 0 } := Heap.get?_push_size _ rfl
  refine hn.bind (s := { s with heap := h0.push { cls := .type "list", data := .seq [v0].toArray 0 }, toks := tk0 }) (an ok).2 r0' q0 fun v1 pv S1 D1 h1 tk1 x1 rp r1 q => ?_
  obtain ⟨k, rfl, ⟨hk0, hk⟩, q⟩ := asInt_inv q
  obtain ⟨t, rfl⟩ := rp.int_inv
  have ne : some h0.objs.size ≠ d := deal_ne r0.ok.deal (size_none h0)
  have ho := x1.keep _ _ ne new
  have hk' : k < 1048576 := by rw [← show ((lim : Nat) : Int) = 1048576 by rw [lim_val]; rfl]; exact hk
  refine wpAny_binaryOp_repeat_ref (T := "list") (U := "int") (by decide) ⟨_, ho, rfl⟩ (fun s' => typeIs_int s' k t) noFill_list_mul F.fills_int_mul F.slot_int_rmul repeat_list F.slot_int_index.lookup
    (call_meets F.slot_int_rmul (typeIs_int _ k t) F.entry_int_rmul (F.args_int_rmul_2 _ _) (int___rmul___int_list k t h0.objs.size [v0].toArray 0)
      ⟨ho, rfl, ⟨_, ho, rfl⟩, call_meets F.slot_list_mul ⟨_, ho, rfl⟩ F.entry_list_mul (F.args_list_mul_2 _ _)
        (AutoListH.list___mul___list_int_3 h0.objs.size [v0].toArray 0 k t (by simp [Builtin.List.listFitsIndex]; omega) (by simp; omega) (by simp [Builtin.List.listTooLong, sizeLine]; omega)) ⟨ho, ?_⟩⟩)
  have e : List.foldl (fun x1 x2 => x1 ++ x2) #[] (List.replicate (if ([v0].toArray : Array Value).isEmpty = true then 0 else k.toNat) [v0].toArray) = (List.replicate k.toNat v0).toArray := by
    rw [if_neg (by simp)]
    exact foldl_one v0 k.toNat
  rw [e]
  have rv : Rep d fa S1 v0 p0 := (rp0.mono xg.mono).mono x1.mono
  exact ((p.after x0 (tk' := tk0)).after (xg.trans x1) (tk' := tk1)).newL r1.ok (rv.replicate' k.toNat) (by rw [List.length_replicate, lim_val]; omega) q

variable (GL : Globs G0 fs fa) (hall : ∀ k, ∃ o fd, G0 (fa k) = some o ∧ o.data = .func fd)
include GL hall
theorem sound_o (me : ME) (h : isFresh me = true) : SO prog w G0 fa d fs N me := by
  cases me with
  | list es => exact so_list (sound_es GL hall es)
  | rep e n => exact so_rep (sound_e GL hall e).1 (sound_e GL hall n).1
  | sliceAll x => exact so_sliceAll
  | _ => exact no h

/-- one right side -/
theorem sound_r (mr : MR) {S0 B : Frz} {c : Cx} {e : Expr} {env : Env} {A : Around} {σ : Sg} {ad : Nat → Addr} {S : Frz} {D : DS} {s : Shared} {Q : Sl → DS → Prop} {R : Value → Shared → Prop} (ok : okR mr c e = true)
    (i : Inv G0 fa d fs N S0 B c env A σ ad S D s.heap) (hw : wpR (CallOK prog w G0 d fa N) mr σ D Q)
    (k : ∀ v a l S' D' h' tk', Ext d S s.heap S' h' → Inv G0 fa d fs N S0 B c env A σ ad S' D' h' → Slot d fa B S' h' v a l → (∀ xs, l = .own xs → s.heap.get? a = none) → Q l D' → R v { s with heap := h', toks := tk' }) :
    wpAny (model prog w) A (eval e env) R (fun _ _ => False) s := by
  cases mr with
  | val me =>
    simp only [okR] at ok
    refine (sound_e GL hall me).1 ok i.run hw fun v p S' D' h' tk' x dl rp q => k v 0 (.v p) S' D' h' tk' x (i.ext x dl) rp (fun xs e => by cases e) q
  | own me =>
    simp only [okR, Bool.and_eq_true] at ok
    refine sound_o GL hall me ok.1 ok.2 i.run hw fun a xs o vs kk S' D' h' tk' x dl f hS ho hc hd rs l q => k (.ref a) a (.own xs) S' D' h' tk' x (i.ext x dl) ⟨rfl, l, hS, deal_ne i.run.ok.deal f, ?_, o, vs, kk, ho, hc, hd, rs⟩ (fun _ _ => f) q
    cases e : B a with
    | none => rfl
    | some o' => rw [i.sub a o' e] at f; cases f
end
end Mine
end

section
open PySem PySem.W PyProof.Rows
namespace Mine

structure Pc where
  x : Nat
  id : Str
  pos : Pos
  v : Value
  a : Addr
  l : Sl
noncomputable def Pc.key (q : Pc) : Nat × Sl := (q.x, q.l)

inductive Sts (env : Env) (M : Model) (A : Around) : List (Value → Sem Unit) → List Pc → Prop
  | nil : Sts env M A [] []
  | cons {t : Value → Sem Unit} {q : Pc} {ts : List (Value → Sem Unit)} {ps : List Pc} : (∀ v K E s, wpAny M A (storeName env q.id v) K E s → wpAny M A (t v) K E s) → Sts env M A ts ps → Sts env M A (t :: ts) (q :: ps)

theorem sts_names {env : Env} {M : Model} {A : Around} : ∀ ps : List Pc, Sts env M A ((assignEach (ps.map fun q => .Name q.id q.pos) env).map (·.2)) ps
  | [] => .nil
  | q :: r => .cons (fun v K E s h => wpAny_assign_Name h) (sts_names r)
theorem sts_binds {env : Env} {M : Model} {A : Around} : ∀ ps : List Pc, Sts env M A ((ps.map fun q => q.id).map fun n => bindName env n) ps
  | [] => .nil
  | q :: r => .cons (fun v K E s h => bindName_ h) (sts_binds r)
theorem assignEach_names {env : Env} : ∀ ps : List Pc, (assignEach (ps.map fun q => Expr.Name q.id q.pos) env).length = ps.length ∧ (assignEach (ps.map fun q => Expr.Name q.id q.pos) env).findIdx? (·.1) = none
  | [] => ⟨rfl, rfl⟩
  | q :: r => by
    have ih := assignEach_names (env := env) r
    have e : assignEach ((q :: r).map fun q => Expr.Name q.id q.pos) env = (false, assign (.Name q.id q.pos) env) :: assignEach (r.map fun q => Expr.Name q.id q.pos) env := rfl
    rw [e]
    refine ⟨by rw [List.length_cons, ih.1, List.length_cons], ?_⟩
    rw [List.findIdx?_cons]
    simp [ih.2]

section
variable {prog : Program} {w : World} {G0 : Frz} {fa : Nat → Addr} {d : Option Addr} {fs : List Str} {N : Nat} {S0 B S S' : Frz} {c : Cx} {env : Env} {A : Around} {σ σ' : Sg} {ad ad' : Nat → Addr} {D D' : DS} {h h' : Heap}

theorem Slot.ext {v : Value} {a : Addr} {l : Sl} (x : Slot d fa B S h v a l) (e : Ext d S h S' h') : Slot d fa B S' h' v a l := by
  cases l with
  | un => exact x
  | v p => exact Rep.mono e.mono x
  | own xs =>
    obtain ⟨h1, h2, h3, h4, h5, o, vs, k, h6, h7, h8, h9⟩ := x
    exact ⟨h1, h2, still_none e h3 h6, h4, h5, o, vs, k, e.keep a o h4 h6, h7, h8, h9.mono e.mono⟩
theorem Slot.keep {v : Value} {a : Addr} {l : Sl} (x : Slot d fa B S h v a l) (k : ∀ b o vs k, h.get? b = some o → o.data = .seq vs k → h'.get? b = some o) : Slot d fa B S h' v a l := by
  cases l with
  | un => exact x
  | v p => exact x
  | own xs =>
    obtain ⟨h1, h2, h3, h4, h5, o, vs, kk, h6, h7, h8, h9⟩ := x
    exact ⟨h1, h2, h3, h4, h5, o, vs, kk, k _ _ _ _ h6 h8, h7, h8, h9⟩

noncomputable def Apart (p q : Pc) : Prop := p.x ≠ q.x ∧ ∀ xs ys, p.l = .own xs → q.l = .own ys → p.a ≠ q.a
theorem Apart.symm {p q : Pc} (x : Apart p q) : Apart q p := ⟨Ne.symm x.1, fun xs ys e1 e2 => Ne.symm (x.2 ys xs e2 e1)⟩

theorem stores : ∀ {ts : List (Value → Sem Unit)} {ps : List Pc}, Sts env (model prog w) A ts ps → ∀ {σ : Sg} {ad : Nat → Addr} {s : Shared} {K : Unit → Shared → Prop} {E : Value → Shared → Prop}, Inv G0 fa d fs N S0 B c env A σ ad S D s.heap →
    (∀ q ∈ ps, c.isVar q.x q.id = true ∧ Slot d fa B S s.heap q.v q.a q.l ∧ ∀ xs, q.l = .own xs → ∀ y ∈ c.vis, ∀ ys, σ[y]? = some (.own ys) → ad y ≠ q.a) → ps.Pairwise Apart →
    (∀ ad' h' tk', Inv G0 fa d fs N S0 B c env A (setAll σ (ps.map Pc.key)) ad' S D h' → K () { s with heap := h', toks := tk' }) → wpAny (model prog w) A (assignInOrder ts (ps.map (·.v))) K E s
  | _, _, .nil, σ, ad, s, K, E, i, _, _, k => assignInOrder_nil (k ad s.heap s.toks i)
  | _, _, .cons (q := q) (ps := ps) ht st, σ, ad, s, K, E, i, hq, hp, k => by
    obtain ⟨q1, q2, q3⟩ := hq q List.mem_cons_self
    obtain ⟨p1, p2⟩ := List.pairwise_cons.mp hp
    refine assignInOrder_cons (ht _ _ _ _ (store_var i q1 q2 (fun xs e y hy hne ys e2 => q3 xs e y hy ys e2) fun h' tk' i' sq _ => ?_))
    refine stores (s := { s with heap := h', toks := tk' }) st i' (fun r hr => ?_) p2 fun ad' h'' tk'' i'' => k ad' h'' tk'' i''
    obtain ⟨r1, r2, r3⟩ := hq r (List.mem_cons_of_mem _ hr)
    refine ⟨r1, r2.keep sq, fun xs e y hy ys e2 => ?_⟩
    rcases set_get_inv e2 with ⟨rfl, e3⟩ | ⟨hne, e3⟩
    · rw [if_pos rfl]; exact (p1 r hr).2 ys xs e3.symm e
    · rw [if_neg hne]; exact r3 xs e y hy ys e3

theorem setAll_set : ∀ (ps : List Pc) (σ : Sg) (x : Nat) (l : Sl), (∀ q ∈ ps, q.x ≠ x) → setAll (σ.set x l) (ps.map Pc.key) = (setAll σ (ps.map Pc.key)).set x l
  | [], σ, x, l, _ => rfl
  | q :: r, σ, x, l, h => by
    show setAll ((σ.set x l).set q.x q.l) (r.map Pc.key) = (setAll (σ.set q.x q.l) (r.map Pc.key)).set x l
    rw [List.set_comm _ _ (Ne.symm (h q List.mem_cons_self)), setAll_set r _ x l fun q' hq' => h q' (List.mem_cons_of_mem _ hq')]
theorem setAll_append : ∀ (l r : List (Nat × Sl)) (σ : Sg), setAll σ (l ++ r) = setAll (setAll σ l) r
  | [], _, _ => rfl
  | (x, y) :: l, r, σ => setAll_append l r (σ.set x y)
theorem setAll_reverse : ∀ (ps : List Pc) (σ : Sg), ps.Pairwise Apart → setAll σ (ps.reverse.map Pc.key) = setAll σ (ps.map Pc.key)
  | [], _, _ => rfl
  | q :: r, σ, h => by
    obtain ⟨h1, h2⟩ := List.pairwise_cons.mp h
    rw [List.reverse_cons, List.map_append, setAll_append, setAll_reverse r σ h2]
    show (setAll σ (r.map Pc.key)).set q.x q.l = setAll (σ.set q.x q.l) (r.map Pc.key)
    rw [setAll_set r σ q.x q.l fun q' hq' => Ne.symm (h1 q' hq').1]

theorem names_all {α : Type} {g : α → Str} {cnd : α → Bool} : ∀ l : List α, (l.filterMap fun q => if cnd q = true then some (g q) else none).length = l.length → (l.filterMap fun q => if cnd q = true then some (g q) else none) = l.map g
  | [], _ => rfl
  | q :: r, h => by
    have hle := List.length_filterMap_le (fun q => if cnd q = true then some (g q) else none) r
    by_cases e : cnd q = true
    · rw [List.filterMap_cons_some (by rw [if_pos e])] at h ⊢
      rw [List.map_cons, names_all r (by simpa using h)]
    · rw [List.filterMap_cons_none (by rw [if_neg e])] at h
      rw [List.length_cons] at h; omega

theorem swapped_cases {ps : List Pc} {vs : List Expr} {k k' : Nat} {tp vp : Pos} (hc : vs.all (constantsAlone 8) = false) :
    swappedStores [.Tuple (ps.map fun q => .Name q.id q.pos) k tp] (.Tuple vs k' vp) env = pure none ∨ swappedStores [.Tuple (ps.map fun q => .Name q.id q.pos) k tp] (.Tuple vs k' vp) env = pure (some (ps.map (·.id))) := by
  unfold swappedStores
  simp only [hc]
  split
  · exact .inl rfl
  · split
    · exact .inl rfl
    · split
      · exact .inl rfl
      · rename_i hl
        split
        · exact .inl rfl
        · refine .inr ?_
          simp only [List.filterMap_map, List.length_map] at hl ⊢
          simp only [Bool.or_eq_true, not_or, bne_iff_ne, ne_eq, Decidable.not_not] at hl
          have e := names_all (g := fun q : Pc => q.id) (cnd := fun q : Pc => env.kindOf q.id == some NameKind.local && q.pos.line == ((List.map (fun q : Pc => Expr.Name q.id q.pos) ps).head?.map (·.pos.line)).getD 0) ps hl.1
          first | exact congrArg (fun z => (pure (some z) : Sem (Option (List Str)))) e | (rw [show (false = true) = False by simp, if_false]; exact congrArg (fun z => (pure (some z) : Sem (Option (List Str)))) e)
end
end Mine
end

section
open PySem PySem.W PyProof.Rows
namespace Mine

noncomputable def FlRep (d : Option Addr) (fa : Nat → Addr) (S : Frz) (f : Flow) : Fl → Prop
  | .next => f = .next
  | .ret p => ∃ v, f = .ret v ∧ Rep d fa S v p

section
variable (prog : Program) (w : World) (G0 : Frz) (fa : Nat → Addr) (d : Option Addr) (fs : List Str) (N : Nat)
noncomputable def PostF (S0 B : Frz) (c : Cx) (env : Env) (A : Around) (s : Shared) (Q : Fl → Sg → DS → Prop) (R : Flow → Shared → Prop) : Prop :=
  ∀ f fl σ' ad' S' D' h' tk', Inv G0 fa d fs N S0 B c env A σ' ad' S' D' h' → FlRep d fa S' f fl → Q fl σ' D' → R f { s with heap := h', toks := tk' }
noncomputable def SX (ms : MS) : Prop := ∀ {S0 B : Frz} {c : Cx} {st : Stmt} {env : Env} {A : Around} {σ : Sg} {ad : Nat → Addr} {S : Frz} {D : DS} {s : Shared} {Q : Fl → Sg → DS → Prop} {R : Flow → Shared → Prop},
  okS ms c st = true → Inv G0 fa d fs N S0 B c env A σ ad S D s.heap → wpS (CallOK prog w G0 d fa N) ms σ D Q → PostF G0 fa d fs N S0 B c env A s Q R → wpAny (model prog w) A (exec st env) R (fun _ _ => False) s
noncomputable def SXs (ms : MSs) : Prop := ∀ {S0 B : Frz} {c : Cx} {sts : List Stmt} {env : Env} {A : Around} {σ : Sg} {ad : Nat → Addr} {S : Frz} {D : DS} {s : Shared} {Q : Fl → Sg → DS → Prop} {R : Flow → Shared → Prop},
  okSs ms c sts = true → Inv G0 fa d fs N S0 B c env A σ ad S D s.heap → wpSs (CallOK prog w G0 d fa N) ms σ D Q → PostF G0 fa d fs N S0 B c env A s Q R → wpAny (model prog w) A (execs sts env) R (fun _ _ => False) s
end

section
variable {prog : Program} {w : World} {G0 : Frz} {fa : Nat → Addr} {d : Option Addr} {fs : List Str} {N : Nat}

theorem none_B {B : Frz} {h : Heap} {a : Addr} (sub : Sub B h) (e : h.get? a = none) : B a = none := by
  cases q : B a with
  | none => rfl
  | some o => rw [sub a o q] at e; cases e

theorem okR_star {mr : MR} {c : Cx} {e : Expr} {env : Env} (h : okR mr c e = true) : ∀ rest, starEach (e :: rest) env = (false, eval e env) :: starEach rest env := by
  cases mr with
  | val a => exact okE_star h
  | own a => exact okE_star (an h).2

theorem rs_eval (GL : Globs G0 fs fa) (hall : ∀ k, ∃ o fd, G0 (fa k) = some o ∧ o.data = .func fd) : ∀ (rs : MRs) {S0 B : Frz} {c : Cx} {ts es : List Expr} {env : Env} {A : Around} {σ : Sg} {ad : Nat → Addr} {S : Frz} {D : DS} {s : Shared} {Q : List (Nat × Sl) → DS → Prop} {R : List Value → Shared → Prop} {pos : Pos},
    okRs rs c ts es = true → Inv G0 fa d fs N S0 B c env A σ ad S D s.heap → wpRs (CallOK prog w G0 d fa N) rs σ D Q →
    (∀ (ps : List Pc) S' D' h' tk', Ext d S s.heap S' h' → Inv G0 fa d fs N S0 B c env A σ ad S' D' h' → ts = ps.map (fun q => .Name q.id q.pos) → rs.xs = ps.map (·.x) →
      (∀ q ∈ ps, c.isVar q.x q.id = true ∧ Slot d fa B S' h' q.v q.a q.l ∧ ∀ xs, q.l = .own xs → s.heap.get? q.a = none) → ps.Pairwise (fun p q => ∀ xs ys, p.l = .own xs → q.l = .own ys → p.a ≠ q.a) → Q (ps.map Pc.key) D' →
      R (ps.map (·.v)) { s with heap := h', toks := tk' }) →
    wpAny (model prog w) A (spliced (backTo pos (starEach es env))) R (fun _ _ => False) s
  | .nil, S0, B, c, ts, es, env, A, σ, ad, S, D, s, Q, R, pos, ok, i, hw, k => by
    revert k
    apply l0_e (an ok).1; intro k
    apply l0_e (an ok).2
    exact Calls.spliced_nil (k [] S D s.heap s.toks (Ext.refl i.run.ok.sub) i rfl rfl (fun q hq => (nomatch hq)) .nil hw)
  | .cons x r rs, S0, B, c, ts, es, env, A, σ, ad, S, D, s, Q, R, pos, ok, i, hw, k => by
    revert k
    apply lc_e ok; intro t ts ok
    apply lc_e ok; intro e es ok
    apply xName_e ok; intro id np ok k
    have o1 := (an ok).1
    have o2 := (an (an ok).2).1
    have o3 := (an (an ok).2).2
    rw [okR_star o2]
    show wpAny _ A (spliced ((false, eval e env) :: backTo pos (starEach es env))) R _ s
    refine Calls.spliced_cons (sound_r GL hall r o2 i hw fun v a l S1 D1 h1 tk1 x1 i1 so f q => ?_)
    refine rs_eval GL hall rs (s := { s with heap := h1, toks := tk1 }) o3 i1 q fun ps S2 D2 h2 tk2 x2 i2 e1 e2 hs hp q2 => ?_
    refine k (⟨x, id, np, v, a, l⟩ :: ps) S2 D2 h2 tk2 (x1.trans x2) i2 (by rw [e1]; rfl) (by show x :: rs.xs = _; rw [e2]; rfl) (fun p hp' => ?_) (List.pairwise_cons.mpr ⟨fun p hp' xs ys el er => ?_, hp⟩) q2
    · rcases List.mem_cons.mp hp' with rfl | hp'
      · exact ⟨o1, so.ext x2, f⟩
      · obtain ⟨h3, h4, h5⟩ := hs p hp'
        exact ⟨h3, h4, fun xs e => x1.dom _ (h5 xs e)⟩
    · intro ea
      have ea' : a = p.a := ea
      have fr := (hs p hp').2.2 ys er
      have el' : l = .own xs := el
      subst el'
      obtain ⟨_, _, _, _, _, o, vs, kk, ho, _⟩ := so
      have fr' : h1.get? p.a = none := fr
      rw [← ea', ho] at fr'; cases fr'

theorem pair_apart {ps : List Pc} (h1 : ps.Pairwise (fun p q => ∀ xs ys, p.l = .own xs → q.l = .own ys → p.a ≠ q.a)) (h2 : (ps.map (·.x)).Nodup) : ps.Pairwise Apart := by
  have h3 : ps.Pairwise (fun p q => p.x ≠ q.x) := List.pairwise_map.mp h2
  exact (h3.and h1).imp fun x => ⟨x.1, x.2⟩

theorem nodup_of_eraseDups : ∀ (n : Nat) (l : List Nat), l.length ≤ n → l.eraseDups.length = l.length → l.Nodup := by
  intro n
  induction n with
  | zero => intro l h _; cases l with | nil => exact .nil | cons _ _ => simp at h
  | succ n ih =>
    intro l h e
    cases l with
    | nil => exact .nil
    | cons a r =>
      rw [List.eraseDups_cons, List.length_cons, List.length_cons] at e
      have h1 : (r.filter fun b => !b == a).length ≤ r.length := List.length_filter_le _ _
      have key : ∀ (m : Nat) (l : List Nat), l.length ≤ m → l.eraseDups.length ≤ l.length := by
        intro m
        induction m with
        | zero => intro l h; cases l with | nil => simp | cons _ _ => simp at h
        | succ m ihm =>
          intro l h
          cases l with
          | nil => simp
          | cons b t =>
            rw [List.eraseDups_cons, List.length_cons, List.length_cons]
            have h2 : (t.filter fun c => !c == b).length ≤ t.length := List.length_filter_le _ _
            have := ihm (t.filter fun c => !c == b) (by simp at h; omega)
            omega
      have h3 := key _ (r.filter fun b => !b == a) (Nat.le_refl _)
      have h4 : (r.filter fun b => !b == a).length = r.length := by omega
      have h5 : r.filter (fun b => !b == a) = r := List.length_filter_eq_length_iff.mp h4 |> fun h => List.filter_eq_self.mpr h
      rw [h5] at e
      refine List.nodup_cons.mpr ⟨fun hm => ?_, ih r (by simp at h; omega) (by omega)⟩
      have := List.length_filter_eq_length_iff.mp h4 a hm
      simp at this

section
variable {M : Model} {A : Around} {E : Value → Shared → Prop} {s : Shared} {env : Env}
theorem stores_none {v : Value} {t : Value → Sem Unit} {Q : Flow → Shared → Prop} (h : wpAny M A (t v) (fun _ => Q .next) E s) : wpAny M A (assignStores env v none [t]) Q E s := by
  show wpAny M A (do assignAll v [t]; pure .next) Q E s
  exact wpAny_bind (wpAny_mono h (fun _ _ x => wpAny_pure x) fun _ _ x => x)
theorem stores_some {v : Value} {names : List Str} {sts : List (Value → Sem Unit)} {Q : Flow → Shared → Prop}
    (h : wpAny M A (unpackItems v names.length none) (fun items s₂ => wpAny M A (assignInOrder (names.reverse.map fun n => bindName env n) items.reverse) (fun _ => Q .next) E s₂) E s) : wpAny M A (assignStores env v (some names) sts) Q E s := by
  show wpAny M A (do rule "assign.swapped-stores"; let items ← unpackItems v names.length none; assignInOrder (names.reverse.map fun n => bindName env n) items.reverse; pure .next) Q E s
  exact wpAny_bind (wpAny_rule (wpAny_bind (wpAny_mono h (fun items s₂ h₂ => wpAny_bind (wpAny_mono h₂ (fun _ _ x => wpAny_pure x) fun _ _ x => x)) fun _ _ x => x)))
theorem each_one (t : Expr) (k : List Expr) (n : Nat) (tp : Pos) : (assignEach [.Tuple k n tp] env).map (·.2) = [assign (.Tuple k n tp) env] := rfl
end
theorem unpack_two {prog : Program} {w : World} {A : Around} {E : Value → Shared → Prop} {s : Shared} {l : Addr} {v1 v2 : Value} {t1 t2 : Value → Sem Unit} {Q : Unit → Shared → Prop} (hh : A.handled = none) (hl : s.heap.IsList l #[v1, v2])
    (h : ∀ h', Heap.ExtBut s.heap.objs.size s.heap h' → wpAny (model prog w) A (assignInOrder [t1, t2] [v1, v2]) Q E { s with heap := h' }) : wpAny (model prog w) A (unpack (.ref l) [(false, t1), (false, t2)]) Q E s := by
  unfold unpack
  rw [show ([(false, t1), (false, t2)] : List (Bool × (Value → Sem Unit))).length = (#[v1, v2] : Array Value).size from rfl, show ([(false, t1), (false, t2)] : List (Bool × (Value → Sem Unit))).findIdx? (·.1) = none from rfl]
  exact wpAny_bind (wpAny_holding (kun_itemsOf hh hl h))

theorem asgT_e {rs : MRs} {c : Cx} {st : Stmt} {P : Stmt → Prop} (h : okS (.asgT rs) c st = true) (q : ∀ ts k tp vs k' vp pos, (rs.xs.length = 2 ∨ rs.xs.length = 3) → rs.xs.eraseDups.length = rs.xs.length → vs.all (constantsAlone 8) = false → okRs rs c ts vs = true → P (.Assign [.Tuple ts k tp] (.Tuple vs k' vp) pos)) : P st :=
  sAs_e h fun ts v pos h => l1_e (P := fun ts => P (.Assign ts v pos)) h fun t h => xTup_e (P := fun t => P (.Assign [t] v pos)) h fun es k tp h => xTup_e (P := fun v => P (.Assign [.Tuple es k tp] v pos)) h fun vs k' vp h =>
    q es k tp vs k' vp pos ((orr (an h).1).imp beq_iff_eq.mp beq_iff_eq.mp) (beq_iff_eq.mp (an (an h).2).1) (by
      have h3 := (an (an (an h).2).2).1
      cases q : vs.all (constantsAlone 8) with | false => rfl | true => rw [q] at h3; exact no h3) (an (an (an h).2).2).2
/-- the tuple's laying and the stores behind it -/
theorem sx_asgT (GL : Globs G0 fs fa) (hall : ∀ k, ∃ o fd, G0 (fa k) = some o ∧ o.data = .func fd) {rs : MRs} : SX prog w G0 fa d fs N (.asgT rs) := by
  intro S0 B c st env A σ ad S D s Q R ok i hw p
  have hh := i.run.room.handled
  apply asgT_e ok; intro ts k tp vs k' vp pos ol oe oc okr
  · have nd := nodup_of_eraseDups _ rs.xs (Nat.le_refl _) oe
    -- the evaluation, whatever comes behind
    have evalT : ∀ (K : Value → Shared → Prop), (∀ (ps : List Pc) S' D' h' tk' T, ts = ps.map (fun q => .Name q.id q.pos) → Inv G0 fa d fs N S0 B c env A σ ad S' D' h' → h'.IsTuple T (ps.map (·.v)).toArray →
        (∀ q ∈ ps, c.isVar q.x q.id = true ∧ Slot d fa B S' h' q.v q.a q.l ∧ ∀ xs, q.l = .own xs → ∀ y ∈ c.vis, ∀ ys, σ[y]? = some (.own ys) → ad y ≠ q.a) → ps.Pairwise Apart → Q .next (setAll σ (ps.map Pc.key)) D' →
        K (.ref T) { s with heap := h', toks := tk' }) → wpAny (model prog w) A (eval (.Tuple vs k' vp) env) K (fun _ _ => False) s := by
      intro K hK
      refine Tuple_ (rs_eval GL hall rs okr i hw fun ps S1 D1 h1 tk1 x1 i1 e1 e2 hs hp q => ?_)
      have hlen : ps.length = 2 ∨ ps.length = 3 := by rw [show ps.length = rs.xs.length by rw [e2, List.length_map]]; exact ol
      refine wpAny_newObj_type ?_ (by show (ps.map (·.v)).toArray.size ≤ sizeLine; rw [List.size_toArray, List.length_map]; have : (3 : Nat) ≤ sizeLine := by decide
                                      omega)
      have g := Grew.push h1 { cls := .type "tuple", data := .seq (ps.map (·.v)).toArray 0 }
      refine hK ps S1 D1 _ tk1 _ e1 (i1.grew g) ⟨_, Heap.get?_push_size _ rfl, rfl, _, rfl⟩ (fun q hq => ?_) (pair_apart hp (by rw [← e2]; exact nd)) q
      obtain ⟨h3, h4, h5⟩ := hs q hq
      refine ⟨h3, h4.keep fun b o vs k e _ => g b o e, fun xs e y hy ys e3 ea => ?_⟩
      obtain ⟨n0, hn0⟩ : ∃ n0, c.nm[y]? = some n0 := i.run.eo.named y hy
      obtain ⟨_, _, _, _, o, vs', kk, g1, _⟩ := i.run.fit.own y hy n0 ys hn0 e3
      have := h5 xs e
      rw [← ea, g1] at this; cases this
    rw [exec_Assign]
    refine wpAny_bind (wpAny_standAt ?_)
    rw [show swapsWithSole [.Tuple ts k tp] (.Tuple vs k' vp) pos.line env = pure false from rfl]
    refine wpAny_bind (wpAny_pure ?_)
    rw [if_neg (by decide)]
    refine wpAny_bind (evalT _ fun ps S1 D1 h1 tk1 T e1 i1 hT hs hp q => ?_)
    subst e1
    rcases swapped_cases (env := env) (ps := ps) (k := k) (k' := k') (tp := tp) (vp := vp) oc with e | e
    · rw [e]
      refine wpAny_bind (wpAny_pure (stores_none (wpAny_assign_Tuple (x1 := k) (s := { s with heap := h1, toks := tk1 }) hh hT (by rw [(assignEach_names ps).1]; simp) (assignEach_names ps).2 fun h2 he => ?_)))
      have g : Grew h1 h2 := fun b o e => he b o (Nat.ne_of_lt (Heap.lt_size e)) e
      refine stores (s := { s with heap := h2, toks := tk1 }) (sts_names ps) (i1.grew g) (fun q hq => ?_) hp fun ad' h3 tk3 i3 => p .next .next _ ad' S1 D1 h3 tk3 i3 rfl q
      obtain ⟨h3, h4, h5⟩ := hs q hq
      exact ⟨h3, h4.keep fun b o vs k e _ => g b o e, h5⟩
    · rw [e]
      refine wpAny_bind (wpAny_pure (stores_some ?_))
      rw [show (ps.map (·.id)).length = (ps.map (·.v)).toArray.size by simp]
      refine unpackItems_tuple (s := { s with heap := h1, toks := tk1 }) hh hT fun h2 he => ?_
      have g : Grew h1 h2 := fun b o e => he b o (Nat.ne_of_lt (Heap.lt_size e)) e
      have er : (ps.map (·.v)).toArray.toList.reverse = (ps.reverse.map (·.v)) := by simp
      have en : (ps.map (·.id)).reverse.map (fun n => bindName env n) = (ps.reverse.map (·.id)).map fun n => bindName env n := by simp [List.map_reverse]
      rw [er, en]
      refine stores (s := { s with heap := h2, toks := tk1 }) (sts_binds ps.reverse) (i1.grew g) (fun q hq => ?_) (List.pairwise_reverse.mpr (hp.imp fun x => x.symm)) fun ad' h3 tk3 i3 => p .next .next _ ad' S1 D1 h3 tk3 i3 rfl ?_
      · obtain ⟨h3, h4, h5⟩ := hs q (List.mem_reverse.mp hq)
        exact ⟨h3, h4.keep fun b o vs k e _ => g b o e, h5⟩
      · rw [setAll_reverse ps σ hp]; exact q

theorem asgU_e {x y : Nat} {me : ME} {c : Cx} {st : Stmt} {P : Stmt → Prop} (h : okS (.asgU x y me) c st = true) (q : ∀ a pa b pb k tp v pos, c.isVar x a = true → c.isVar y b = true → x ≠ y → (∃ e g sc p, v = .ListComp e g sc p) → okE me c v = true → P (.Assign [.Tuple [.Name a pa, .Name b pb] k tp] v pos)) : P st :=
  sAs_e h fun ts v pos h => l1_e (P := fun ts => P (.Assign ts v pos)) h fun t h => xTup_e (P := fun t => P (.Assign [t] v pos)) h fun es k tp h => l2_e (P := fun es => P (.Assign [.Tuple es k tp] v pos)) h fun t1 t2 h =>
    xName_e (P := fun t1 => P (.Assign [.Tuple [t1, t2] k tp] v pos)) h fun a pa h => xName_e (P := fun t2 => P (.Assign [.Tuple [.Name a pa, t2] k tp] v pos)) h fun b pb h =>
      q a pa b pb k tp v pos (an h).1 (an (an h).2).1 (bne_iff_ne.mp (an (an (an h).2).2).1) (xComp_e (P := fun v => ∃ e g sc p, v = Expr.ListComp e g sc p) (an (an (an (an h).2).2).2).1 fun e g sc p _ => ⟨e, g, sc, p, rfl⟩) (an (an (an (an h).2).2).2).2

theorem sx_asgU (GL : Globs G0 fs fa) (hall : ∀ k, ∃ o fd, G0 (fa k) = some o ∧ o.data = .func fd) {x y : Nat} {me : ME} : SX prog w G0 fa d fs N (.asgU x y me) := by
  intro S0 B c st env A σ ad S D s Q R ok i hw p
  have hh := i.run.room.handled
  apply asgU_e ok; intro a pa b pb k tp v pos o1 o2 o3 o4 o5
  obtain ⟨e, g, sc, vp, rfl⟩ := o4
  refine Assign_Tuple ((sound_e GL hall me).1 o5 i.run hw fun v pv S1 D1 h1 tk1 x1 dl rp q => ?_)
  have i1 := i.ext x1 dl
  cases pv with
  | list xs =>
    match xs, q, rp with
    | [p1, p2], q, rp =>
      obtain ⟨l, rfl⟩ := rp.list_ref
      obtain ⟨vs, m2, m3, m4, m5⟩ := rp.listAt (s := { s with heap := h1, toks := tk1 }) i1.run.ok.sub
      cases m3 with
      | @cons v1 _ vs1 _ r1 m3 =>
        cases m3 with
        | @cons v2 _ vs2 _ r2 m3 =>
          cases m3
          rw [assign_Tuple]
          refine wpAny_bind (wpAny_standAt (unpack_two (s := { s with heap := h1, toks := tk1 }) (t1 := assign (.Name a pa) env) (t2 := assign (.Name b pb) env) hh m2 fun h2 he => ?_))
          have gr : Grew h1 h2 := fun b o e => he b o (Nat.ne_of_lt (Heap.lt_size e)) e
          have hp : ([⟨x, a, pa, v1, 0, .v p1⟩, ⟨y, b, pb, v2, 0, .v p2⟩] : List Pc).Pairwise Apart := by
            refine List.pairwise_cons.mpr ⟨fun q hq => ?_, List.pairwise_cons.mpr ⟨fun q hq => (nomatch hq), .nil⟩⟩
            rw [List.mem_singleton.mp hq]
            exact ⟨o3, fun xs ys e => by cases e⟩
          refine stores (ps := [⟨x, a, pa, v1, 0, .v p1⟩, ⟨y, b, pb, v2, 0, .v p2⟩]) (s := { s with heap := h2, toks := tk1 }) (.cons (fun v K E s h => wpAny_assign_Name h) (.cons (fun v K E s h => wpAny_assign_Name h) .nil)) (i1.grew gr) (fun q hq => ?_) hp
            fun ad' h3 tk3 i3 => p .next .next _ ad' S1 D1 h3 tk3 i3 rfl q
          rcases List.mem_cons.mp hq with rfl | hq
          · exact ⟨o1, r1, fun xs e => by cases e⟩
          · rw [List.mem_singleton.mp hq]
            exact ⟨o2, r2, fun xs e => by cases e⟩
    | [], q, rp => exact q.elim
    | [_], q, rp => exact q.elim
    | _ :: _ :: _ :: _, q, rp => exact q.elim
  | _ => exact q.elim

theorem asg_e {x : Nat} {r : MR} {c : Cx} {st : Stmt} {P : Stmt → Prop} (h : okS (.asg x r) c st = true) (q : ∀ id np v pos, c.isVar x id = true → okR r c v = true → P (.Assign [.Name id np] v pos)) : P st :=
  sAs_e h fun ts v pos h => l1_e (P := fun ts => P (.Assign ts v pos)) h fun t h => xName_e (P := fun t => P (.Assign [t] v pos)) h fun id np h => q id np v pos (an h).1 (an h).2
theorem okR_e {r : MR} {c : Cx} {v : Expr} (ok : okR r c v = true) : ∃ a, okE a c v = true := by
  cases r with
  | val a => exact ⟨a, ok⟩
  | own a => exact ⟨a, (an ok).2⟩
theorem swaps_cases {r : MR} {c : Cx} {v : Expr} (ok : okR r c v = true) (id : Str) (np : Pos) (line : Nat) (env : Env) : swapsWith v (some (.Name id np)) line env = pure false ∨ ∃ e g sc p, v = .ListComp e g sc p ∧ swapsWith v (some (.Name id np)) line env = pure true := by
  obtain ⟨a, ok⟩ := okR_e ok
  refine okE_shape (P := fun v => swapsWith v (some (.Name id np)) line env = pure false ∨ ∃ e g sc p, v = .ListComp e g sc p ∧ swapsWith v (some (.Name id np)) line env = pure true) ok (fun _ _ _ => .inl rfl) (fun _ _ => .inl rfl) (fun _ _ _ _ => .inl rfl) (fun _ _ _ => .inl rfl) (fun _ _ _ => .inl rfl) (fun _ _ _ _ => .inl rfl) (fun _ _ _ _ => .inl rfl) (fun _ _ _ _ => .inl rfl) (fun _ _ _ => .inl rfl) (fun _ _ => .inl rfl) (fun _ _ _ => .inl rfl) fun e g sc p => ?_
  have : swapsWith (.ListComp e g sc p) (some (.Name id np)) line env = pure (env.blockKind == .function && env.kindOf id == some .local && np.line == p.line && !(sc.names.any fun (n, k) => n == id && (k == .local || k == .cell))) := rfl
  cases hb : (env.blockKind == .function && env.kindOf id == some .local && np.line == p.line && !(sc.names.any fun (n, k) => n == id && (k == .local || k == .cell))) with
  | false => exact .inl (by rw [this, hb])
  | true => exact .inr ⟨e, g, sc, p, rfl, by rw [this, hb]⟩

/-- a comprehension's right side -/
theorem comp_e {r : MR} {c : Cx} {el : Expr} {gens : List Comprehension} {sc : Scope} {vp : Pos} {P : MR → List Comprehension → Prop} (ok : okR r c (.ListComp el gens sc vp) = true)
    (k1 : ∀ elt pat it t i, ((c.scopeOk sc pat && shapeOk pat it) && (okI it c i && (okP (c.inner sc pat) pat t && okE elt (c.inner sc pat) el))) = true → P (.val (.comp elt pat it)) [⟨t, i, [], 0⟩])
    (k2 : ∀ elt pat it cd t i f, ((c.scopeOk sc pat && shapeOk pat it) && (okI it c i && (okP (c.inner sc pat) pat t && (okE elt (c.inner sc pat) el && okE cd (c.inner sc pat) f)))) = true → P (.val (.compIf elt pat it cd)) [⟨t, i, [f], 0⟩]) : P r gens := by
  cases r with
  | own a => cases a <;> exact no ok
  | val me =>
    cases me with
    | comp elt pat it =>
      apply xGen_e (show xGen (fun t i fs => l0 fs && ((c.scopeOk sc pat && shapeOk pat it) && (okI it c i && (okP (c.inner sc pat) pat t && okE elt (c.inner sc pat) el)))) gens = true from ok); intro t i fs h
      apply l0_e (an h).1
      exact k1 _ _ _ _ _ (an h).2
    | compIf elt pat it cd =>
      apply xGen_e (show xGen (fun t i fs => l1 (fun f => (c.scopeOk sc pat && shapeOk pat it) && (okI it c i && (okP (c.inner sc pat) pat t && (okE elt (c.inner sc pat) el && okE cd (c.inner sc pat) f)))) fs) gens = true from ok); intro t i fs h
      apply l1_e h; intro f h
      exact k2 _ _ _ _ _ _ _ h
    | _ => exact no ok

theorem sx_asg (GL : Globs G0 fs fa) (hall : ∀ k, ∃ o fd, G0 (fa k) = some o ∧ o.data = .func fd) {x : Nat} {r : MR} : SX prog w G0 fa d fs N (.asg x r) := by
  intro S0 B c st env A σ ad S D s Q R ok i hw p
  apply asg_e ok; intro id np v pos o1 o2
  rcases swaps_cases o2 id np pos.line env with hs | ⟨el, gens, sc, vp, rfl, hs⟩
  · refine wpAny_Assign_Name (sound_r GL hall r o2 i hw fun v a l S1 D1 h1 tk1 x1 i1 so f q => ?_) hs
    refine store_var (s := { s with heap := h1, toks := tk1 }) i1 o1 so (fun xs e y hy hne ys e2 ea => ?_) fun h2 tk2 i2 _ _ => p .next .next _ _ S1 D1 h2 tk2 i2 rfl q
    obtain ⟨n0, hn0⟩ := i.run.eo.named y hy
    obtain ⟨_, _, _, _, o, vs', kk, g1, _⟩ := i.run.fit.own y hy n0 ys hn0 e2
    have := f xs e
    rw [← ea, g1] at this; cases this
  · -- the comprehension stores its list itself
    have fin : ∀ (ys : List PV) (AD C : Addr) (m : Str → Option Value) (S' : Frz) (D' : DS) (h' : Heap) (tk' : Nat), Ext d S s.heap S' h' → DealAt d fa D' S' h' → Rep d fa S' (.ref AD) (.list ys) → h'.Ns C m → S' C = none → s.heap.get? C = none → AD ≠ C → Q .next (σ.set x (.v (.list ys))) D' →
        compPost (model prog w) A (fun _ _ => False) (some (assign (.Name id np) env)) (fun _ s' => R .next s') (.ref AD) C (.ok .next) { s with heap := h', toks := tk' } := by
      intro ys AD C m S' D' h' tk' x1 dl rp hn hS hf hne q
      have i1 := i.ext x1 dl
      show wpAny _ A (assign (.Name id np) env (.ref AD)) _ _ _
      obtain ⟨mL, hL⟩ := i.ns
      have CL : C ≠ env.locals := fun e => by subst e; obtain ⟨o, _, _, g1, _⟩ := hL; rw [hf] at g1; cases g1
      have CC : ∀ n, env.cells.lookup n ≠ some C := fun n e => by
        obtain ⟨⟨v, hc⟩, _⟩ := i.cel n C e
        obtain ⟨o, g1, _⟩ := hc; rw [hf] at g1; cases g1
      refine wpAny_assign_Name (store_var (s := { s with heap := h', toks := tk' }) i1 o1 (l := .v (.list ys)) (a := 0) rp (fun xs e => by cases e) fun h2 tk2 i2 _ kk => ?_)
      refine ⟨m, hn.at' fun o e => kk C CL CC o e, fun h3 hs3 => ?_⟩
      refine p .next .next _ _ S' D' h3 tk2 (i2.touch (wr := [C]) (fun a o hm e => hs3.extBut a o (by simpa using hm) e) ?_ ?_ ?_ ?_ ?_ ?_) rfl q
      · intro b hb; rw [List.mem_singleton.mp hb]; exact none_B i.sub hf
      · intro b hb; rw [List.mem_singleton.mp hb]; exact hS
      · intro b hb; rw [List.mem_singleton.mp hb]; exact deal_ne i.run.ok.deal hf
      · intro hm; exact CL (List.mem_singleton.mp hm).symm
      · intro n a ha hm; rw [List.mem_singleton.mp hm] at ha; exact CC n ha
      · intro y hy xs e hm
        rcases set_get_inv e with ⟨rfl, e3⟩ | ⟨hne', e3⟩
        · cases e3
        · rw [if_neg hne'] at hm
          obtain ⟨n0, hn0⟩ := i.run.eo.named y hy
          obtain ⟨_, _, _, _, o, vs', kk', g1, _⟩ := i.run.fit.own y hy n0 xs hn0 e3
          rw [List.mem_singleton.mp hm, hf] at g1; cases g1
    rw [exec_Assign_Name_used _ _ _ _ hs]
    refine wpAny_bind (wpAny_standAt (wpAny_bind ?_))
    revert hw
    apply comp_e o2
    · intro elt pat it t iter h hw
      show wpAny _ A (do let _ ← comprehension (.ListComp el [⟨t, iter, [], 0⟩] sc vp) sc env _ (newList []) false (eval iter env) (some (assign (.Name id np) env))) _ _ s
      refine wpAny_bind (wpAny_mono (comp_run (R := fun _ s' => R .next s') (use := some (assign (.Name id np) env)) (sound_i GL hall it) (sound_e GL hall elt).1 i.run (an (an h).1).1 (an (an h).1).2 (an (an h).2).1 (an (an (an h).2).2).1 (an (an (an h).2).2).2 hw fin) (fun _ s' hq => wpAny_pure (wpAny_pure hq)) fun _ _ e => e)
    · intro elt pat it cd t iter f h hw
      show wpAny _ A (do let _ ← comprehension (.ListComp el [⟨t, iter, [f], 0⟩] sc vp) sc env _ (newList []) false (eval iter env) (some (assign (.Name id np) env))) _ _ s
      refine wpAny_bind (wpAny_mono (compIf_run (R := fun _ s' => R .next s') (use := some (assign (.Name id np) env)) (sound_i GL hall it) (sound_e GL hall elt).1 (sound_e GL hall cd).2 i.run (an (an h).1).1 (an (an h).1).2 (an (an h).2).1 (an (an (an h).2).2).1 (an (an (an (an h).2).2).2).1 (an (an (an (an h).2).2).2).2 hw fin) (fun _ s' hq => wpAny_pure (wpAny_pure hq)) fun _ _ e => e)
end
end Mine
end

section
open PySem PySem.W PyProof.Rows
namespace Mine

theorem dict_mapSeq (f : Array Value → Array Value) (o : Obj) : (Obj.mapSeq f o).dict = o.dict := by
  unfold Obj.mapSeq
  split <;> rfl

section
variable {prog : Program} {w : World} {A : Around} {E : Value → Shared → Prop} {s : Shared}

theorem append_own {l : Addr} {o : Obj} {items : Array Value} {n : Nat} {x : Value} {Q : Value → Shared → Prop} (ho : s.heap.get? l = some o) (hc : o.cls = .type "list" ∧ o.dict = none) (hd : o.data = .seq items n)
    (hQ : ∀ h' o' n', h'.get? l = some o' → (o'.cls = .type "list" ∧ o'.dict = none) → o'.data = .seq (items.push x) n' → Heap.SameBut l s.heap h' → Q .none { s with heap := h' }) (hsz : items.size ≤ sizeLine) :
    wpAny (model prog w) A (call (.builtin "list.append") [.ref l, x]) Q E s := by
  obtain ⟨n', hd'⟩ := Obj.data_mapSeq hd (·.push x)
  refine wpAny_call_entry slot_list_append ⟨o, ho, hc.1⟩ entry_list_append ?_ (args_list_append _ _)
  show wpAny _ _ (updateSeq l (·.push x) >>= fun _ => ret .none) _ _ s
  refine wpAny_bind ?_
  refine wpAny_updateSeq ho hd (wpAny_pure ⟨.none, rfl, hQ _ _ n' ?_ ?_ hd' (Heap.SameBut.update ..)⟩)
  · exact Heap.get?_update_self _ ho (Obj.isFreed_of_seq hd')
  · exact ⟨(Obj.cls_mapSeq ..).trans hc.1, (dict_mapSeq _ _).trans hc.2⟩

theorem setItem_own {l : Addr} {o : Obj} {items : Array Value} {n : Nat} {k : Int} {t : Tok} {v : Value} {Q : Unit → Shared → Prop} (ho : s.heap.get? l = some o) (hc : o.cls = .type "list" ∧ o.dict = none) (hd : o.data = .seq items n)
    (h0 : 0 ≤ k) (hfit : k < 2 ^ 63) (hn : k < items.size)
    (hQ : ∀ h' o' n', h'.get? l = some o' → (o'.cls = .type "list" ∧ o'.dict = none) → o'.data = .seq (items.setIfInBounds k.toNat v) n' → Heap.SameBut l s.heap h' → Q () { s with heap := h' }) :
    wpAny (model prog w) A (setItem (.ref l) (.int k t) v) Q E s := by
  have hl : s.heap.IsList l items := ⟨o, ho, hc.1, n, hd⟩
  unfold setItem
  try with_reducible refine wpAny_holding ?_
  first | refine wpAny_bind (wpAny_pure ?_) | skip
  refine wpAny_bind (wpAny_sequenceKey hl.typeIs (by decide) ?_)
  refine wpAny_bind (wpAny_callSpecial?_slot (name := Str.ofString "__setitem__") hl.typeIs slot_list_setitem
    (wpAny_call_entry slot_list_setitem hl.typeIs entry_list_setitem ?_ (args_list_setitem _ _ _)))
  show wpAny _ _ (Builtin.List.listSubscript? (.int k t) >>= _) _ _ s
  refine wpAny_bind (wpAny_listSubscript_int (fitsIndex_of h0 hfit) ?_)
  clear hfit
  obtain ⟨j, rfl⟩ := Int.eq_ofNat_of_zero_le h0
  have hj : j < items.size := by omega
  have hx' : items[j]? = some items[j] := Array.getElem?_eq_getElem hj
  show wpAny _ _ ((seqItemAt l j >>= fun r => pure (r.map (j, ·))) >>= _) _ _ s
  refine wpAny_bind (wpAny_bind (wpAny_seqItemAt ho hd (wpAny_pure ?_)))
  rw [hx']
  show wpAny _ _ (setSeqItemAt l j v >>= _) _ _ s
  obtain ⟨n', hd'⟩ := Obj.data_mapSeq hd (·.setIfInBounds j v)
  have hfin := hQ _ _ n' (Heap.get?_update_self _ ho (Obj.isFreed_of_seq hd')) ⟨(Obj.cls_mapSeq ..).trans hc.1, (dict_mapSeq _ _).trans hc.2⟩ hd' (Heap.SameBut.update ..)
  refine wpAny_bind (wpAny_setSeqItemAt ho hd ?_)
  first
    | exact wpAny_bind (wpAny_pure (wpAny_pure ⟨.none, rfl, wpAny_pure hfin⟩))
    | exact wpAny_pure ⟨.none, rfl, wpAny_pure hfin⟩
end

section
variable {prog : Program} {w : World} {G0 : Frz} {fa : Nat → Addr} {d : Option Addr} {fs : List Str} {N : Nat} {S0 B S S' : Frz} {c : Cx} {env : Env} {A : Around} {σ σ' : Sg} {ad ad' : Nat → Addr} {D D' : DS} {h h' : Heap}

theorem Holds.off {n : Str} {v : Value} {z : Addr} (x : Holds env h n v) (sb : Heap.SameBut z h h') (zL : env.locals ≠ z) (zC : ∀ n a, env.cells.lookup n = some a → a ≠ z) : Holds env h' n v :=
  x.at (fun o e => sb.extBut _ o zL e) fun a o q e => sb.extBut a o (zC _ _ q) e

theorem own_poke (i : Inv G0 fa d fs N S0 B c env A σ ad S D h) {x : Nat} {n : Str} (hx : x ∈ c.vis) (hn : c.nm[x]? = some n) {xs xs' : List PV} (hσ : σ[x]? = some (.own xs)) (sb : Heap.SameBut (ad x) h h') {o' : Obj} {vs' : List Value} {k' : Nat}
    (ho : h'.get? (ad x) = some o') (hc : o'.cls = .type "list" ∧ o'.dict = none) (hd : o'.data = .seq vs'.toArray k') (rs : Reps d fa S vs' xs') (hl : xs'.length < lim) : Inv G0 fa d fs N S0 B c env A (σ.set x (.own xs')) ad S D h' := by
  obtain ⟨q1, q2, q3, q4, o, vs, kk, q5, q6, q7, q8⟩ := i.run.fit.own x hx n xs hn hσ
  obtain ⟨m, hL⟩ := i.ns
  have zL := ns_seq hL q5 q7
  have zC : ∀ n a, env.cells.lookup n = some a → a ≠ ad x := fun n a e => by
    obtain ⟨⟨v, hcl⟩, _⟩ := i.cel n a e
    exact cell_seq hcl q5 q7
  refine i.poke (fun a o hne e => sb.extBut a o hne e) (i.ownB x hx xs hσ) q3 q4 ?_ ⟨m, hL.sameBut sb zL⟩ (fun n a e => ?_) (fun y hy ys e => ?_)
  · refine ⟨fun y hy n' p h1 h2 => ?_, fun y hy n' ys h1 h2 => ?_, fun y hy y' hy' ys ys' e1 e2 q => ?_⟩
    · rcases set_get_inv h2 with ⟨rfl, e⟩ | ⟨hne, e⟩
      · cases e
      · obtain ⟨v, a, b⟩ := i.run.fit.val y hy n' p h1 e
        exact ⟨v, a.off sb zL zC, b⟩
    · rcases set_get_inv h2 with ⟨rfl, e⟩ | ⟨hne, e⟩
      · cases e
        have en : n' = n := Option.some.inj (h1.symm.trans hn)
        subst en
        exact ⟨q1.off sb zL zC, hl, q3, q4, o', vs', k', ho, hc, hd, rs⟩
      · obtain ⟨g1, g2, g3, g4, o2, vs2, k2, g5, g6⟩ := i.run.fit.own y hy n' ys h1 e
        refine ⟨g1.off sb zL zC, g2, g3, g4, o2, vs2, k2, sb.extBut _ _ (fun q => hne (i.run.fit.apart y hy x hx ys xs e hσ q)) g5, g6⟩
    · rcases set_get_inv e1 with ⟨rfl, e⟩ | ⟨hne, e⟩
      · rcases set_get_inv e2 with ⟨rfl, e'⟩ | ⟨hne', e'⟩
        · rfl
        · exact i.run.fit.apart y hy y' hy' xs ys' hσ e' q
      · rcases set_get_inv e2 with ⟨rfl, e'⟩ | ⟨hne', e'⟩
        · exact i.run.fit.apart y hy y' hy' ys xs e hσ q
        · exact i.run.fit.apart y hy y' hy' ys ys' e e' q
  · obtain ⟨⟨v, hcl⟩, _⟩ := i.cel n a e
    exact ⟨v, hcl.sameBut sb (zC n a e)⟩
  · rcases set_get_inv e with ⟨rfl, e1⟩ | ⟨hne, e1⟩
    · exact i.ownB _ hy xs hσ
    · exact i.ownB y hy ys e1

theorem go_inv {x : Nat} {xs : List PV} (h : go σ x = some xs) : σ[x]? = some (.own xs) := by
  unfold go at h
  split at h
  · rename_i q; cases h; exact q
  · cases h

theorem aug_e {x : Nat} {op : Bop} {me : ME} {st : Stmt} {P : Stmt → Prop} (h : okS (.aug x op me) c st = true) (q : ∀ id np v pos, c.isVar x id = true → augOk op = true → okE me c v = true → P (.AugAssign (.Name id np) (opOf op) v pos)) : P st :=
  sAug_e h fun t o v pos h => xName_e (P := fun t => P (.AugAssign t o v pos)) h fun id np h => by
    cases eq_of_beq (an (an h).2).1
    exact q id np v pos (an (an h).1).1 (an (an h).1).2 (an (an h).2).2
theorem app_e {x : Nat} {me : ME} {st : Stmt} {P : Stmt → Prop} (h : okS (.app x me) c st = true) (q : ∀ id np n ap a ps pos, c.isVar x id = true → (n = ("append" : Str) ∧ (ap.endLine == ps.line) = true) → okE me c a = true → P (.Expr (.Call (.Attribute (.Name id np) n ap) [a] [] ps) pos)) : P st :=
  sEx_e h fun e pos h => xCall_e (P := fun e => P (.Expr e pos)) h fun g as ks ps h => l0_e (P := fun ks => P (.Expr (.Call g as ks ps) pos)) (an h).1 (l1_e (P := fun as => P (.Expr (.Call g as [] ps) pos)) (an h).2 fun a h =>
    xAttr_e (P := fun g => P (.Expr (.Call g [a] [] ps) pos)) h fun o n ap h => xName_e (P := fun o => P (.Expr (.Call (.Attribute o n ap) [a] [] ps) pos)) h fun id np h =>
      q id np n ap a ps pos (an h).1 ⟨beq_iff_eq.mp (an (an (an h).2).1).1, (an (an (an h).2).1).2⟩ (an (an h).2).2)
theorem seti_e {x : Nat} {mi me : ME} {st : Stmt} {P : Stmt → Prop} (h : okS (.seti x mi me) c st = true) (q : ∀ id np sl sp v pos, c.isVar x id = true → okE mi c sl = true → okE me c v = true → P (.Assign [.Subscript (.Name id np) sl sp] v pos)) : P st :=
  sAs_e h fun ts v pos h => l1_e (P := fun ts => P (.Assign ts v pos)) h fun t h => xSubN_e (P := fun t => P (.Assign [t] v pos)) h fun id np sl sp h => q id np sl sp v pos (an h).1 (an (an h).2).1 (an (an h).2).2
theorem setd_e {x i : Nat} {me : ME} {st : Stmt} {P : Stmt → Prop} (h : okS (.setd x i me) c st = true) (q : ∀ id np k kp sp v pos, c.isVar x id = true → okE me c v = true → P (.Assign [.Subscript (.Name id np) (.Constant (.int (i : Int)) k kp) sp] v pos)) : P st :=
  sAs_e h fun ts v pos h => l1_e (P := fun ts => P (.Assign ts v pos)) h fun t h => xSubN_e (P := fun t => P (.Assign [t] v pos)) h fun id np sl sp h => xConst_e (P := fun sl => P (.Assign [.Subscript (.Name id np) sl sp] v pos)) h fun z k kp h =>
    kInt_e (P := fun z => P (.Assign [.Subscript (.Name id np) (.Constant z k kp) sp] v pos)) h fun j h => by
      cases eq_of_beq (an (an h).2).1
      exact q id np k kp sp v pos (an h).1 (an (an h).2).2
end
end Mine
end

section
open PySem PySem.W PyProof.Rows
namespace Mine

section
variable {prog : Program} {w : World} {G0 : Frz} {fa : Nat → Addr} {d : Option Addr} {fs : List Str} {N : Nat}

theorem aug_sound {A : Around} {s : Shared} {G0 S : Frz} {D : DS} {op : Bop} {x y : Int} {t u : Tok} {K : PV → Prop} {R : Value → Shared → Prop} (ha : augOk op = true) (hw : bin2 op (.int x) (.int y) K)
    (k : ∀ z t tk, K (.int z) → R (.int z t) { s with toks := tk }) : wpAny (model prog w) A (inplaceOp (opOf op) (.int x t) (.int y u)) R (fun _ _ => False) s := by
  cases op with
  | add => exact PyProof.Rows.iadd_int (k _ _ _ hw)
  | sub => exact PyProof.Rows.isub_int (k _ _ _ hw)
  | bor => exact PyProof.Rows.ior_int (k _ _ _ hw)
  | shr => exact PyProof.Rows.irshift_int hw.1 (k _ _ _ hw.2)
  | _ => cases ha

theorem aug_int {op : Bop} {x y : Int} {K : PV → Prop} (ha : augOk op = true) (hw : bin2 op (.int x) (.int y) K) : bin2 op (.int x) (.int y) fun v => K v ∧ ∃ z, v = .int z := by
  cases op <;> first | exact ⟨hw, _, rfl⟩ | exact ⟨hw.1, hw.2, _, rfl⟩ | cases ha

theorem sx_aug (GL : Globs G0 fs fa) (hall : ∀ k, ∃ o fd, G0 (fa k) = some o ∧ o.data = .func fd) {x : Nat} {op : Bop} {me : ME} : SX prog w G0 fa d fs N (.aug x op me) := by
  intro S0 B c st env A σ ad S D s Q R ok i hw p
  apply aug_e ok; intro id np v pos o1 o2 o3
  obtain ⟨p0, e0, hw⟩ := asSome_inv hw
  obtain ⟨v0, h0, r0⟩ := var_load i.run o1 e0
  refine wpAny_AugAssign_Name (load_holds i.run.eo.kind h0 ((sound_e GL hall me).1 o3 i.run hw fun v pv S1 D1 h1 tk1 x1 dl rp q => ?_))
  have i1 := i.ext x1 dl
  obtain ⟨a, rfl, qa⟩ := asInt_inv q
  obtain ⟨b, rfl, qb⟩ := asInt_inv qa
  obtain ⟨t, rfl⟩ := r0.int_inv
  obtain ⟨u, rfl⟩ := rp.int_inv
  refine aug_sound (S := S) (G0 := G0) (D := D) (s := { s with heap := h1, toks := tk1 }) o2 qb fun z t tk hz => ?_
  exact store_var (s := { s with heap := h1, toks := tk }) i1 o1 (l := .v (.int z)) (a := 0) (.int z t) (fun xs e => by cases e) fun h2 tk2 i2 _ _ => p .next .next _ _ S1 D1 h2 tk2 i2 rfl hz

set_option maxRecDepth 100000 in
theorem sx_app (GL : Globs G0 fs fa) (hall : ∀ k, ∃ o fd, G0 (fa k) = some o ∧ o.data = .func fd) {x : Nat} {me : ME} : SX prog w G0 fa d fs N (.app x me) := by
  intro S0 B c st env A σ ad S D s Q R ok i hw p
  apply app_e ok; intro id np n ap a ps pos o1 o2 o3
  obtain ⟨rfl, o2⟩ := o2
  obtain ⟨xs, e0, hw⟩ := asSome_inv hw
  have e0 := go_inv e0
  obtain ⟨hx, hn, _, hdbg⟩ := isVar_inv o1
  obtain ⟨q1, q2, q3, q4, o, vs, kk, q5, q6, q7, q8⟩ := i.run.fit.own x hx id xs hn e0
  have hi : interactive env = false := by unfold interactive; rw [i.run.eo.kind]; rfl
  refine wpAny_Expr_any ?_ hi rfl
  have hst : starEach [a] env = [(false, eval a env)] := okE_star o3 []
  refine method_call (o := .Name id np) rfl o2 ?_ (name_holds i.run.eo.kind hdbg q1 fun pl => ?_)
  · rw [hst]; rfl
  · refine Calls.getMethod_list_append q5 q6.1 q6.2 ?_
    show wpAny _ A (callWith ps (.builtin "list.append") [.ref (ad x)] (backTo ps (starEach [a] env)) []) _ _ s
    refine callWith_method1 ?_ (okE_star o3 []) rfl
    rw [hst]
    refine Calls.spliced_cons ((sound_e GL hall me).1 o3 i.run hw fun v pv S1 D1 h1 tk1 x1 dl rp q => Calls.spliced_nil ?_)
    have i1 := i.ext x1 dl
    have g5 := x1.keep _ _ q4 q5
    show wpAny _ A (call (.builtin "list.append") [.ref (ad x), v]) _ _ _
    refine append_own (s := { s with heap := h1, toks := tk1 }) g5 q6 q7 (fun h' o' n' ho hc hd sb => ?_) (by rw [List.size_toArray, q8.length]; have := lim_line; omega)
    refine p .next .next _ ad S1 D1 h' tk1 (own_poke i1 hx hn e0 sb ho hc (k' := n') (vs' := vs ++ [v]) (by rw [hd]; simp) ((q8.mono x1.mono).snoc rp) (by rw [List.length_append, List.length_singleton]; exact q.1)) rfl q.2

theorem sx_seti (GL : Globs G0 fs fa) (hall : ∀ k, ∃ o fd, G0 (fa k) = some o ∧ o.data = .func fd) {x : Nat} {mi me : ME} : SX prog w G0 fa d fs N (.seti x mi me) := by
  intro S0 B c st env A σ ad S D s Q R ok i hw p
  apply seti_e ok; intro id np sl sp v pos o1 o2 o3
  obtain ⟨hx, hn, _, hdbg⟩ := isVar_inv o1
  have hs : swapsWith v (some (.Subscript (.Name id np) sl sp)) pos.line env = pure false := by cases v <;> rfl
  obtain ⟨xs, e0, hw⟩ := asSome_inv hw
  have e0 := go_inv e0
  refine wpAny_Assign_Subscript ((sound_e GL hall me).1 o3 i.run hw fun v pv S1 D1 h1 tk1 x1 dl rp q => ?_) hs
  have i1 := i.ext x1 dl
  obtain ⟨q1, _⟩ := i1.run.fit.own x hx id xs hn e0
  refine name_holds (s := { s with heap := h1, toks := tk1 }) i.run.eo.kind hdbg q1 ?_
  refine (sound_e GL hall mi).1 (s := { s with heap := h1, toks := tk1 }) o2 i1.run q fun iv pi S2 D2 h2 tk2 x2 dl2 ri q => ?_
  have i2 := i1.ext x2 dl2
  obtain ⟨k, rfl, qa⟩ := asInt_inv q
  obtain ⟨t, rfl⟩ := ri.int_inv
  obtain ⟨_, q2, q3, q4, o, vs, kk, q5, q6, q7, q8⟩ := i2.run.fit.own x hx id xs hn e0
  have hlen := q8.length
  have hlim : lim = 1048576 := by decide
  obtain ⟨⟨k0, k1⟩, qb⟩ := qa
  refine setItem_own (s := { s with heap := h2, toks := tk2 }) q5 q6 q7 k0 (by omega) (by rw [List.size_toArray, hlen]; exact k1) fun h' o' n' ho hc hd sb => ?_
  refine p .next .next _ ad S2 D2 h' tk2 (own_poke i2 hx hn e0 sb ho hc (k' := n') (vs' := vs.set k.toNat v) (by rw [hd]; simp) (q8.set _ (rp.mono x2.mono)) (by rw [List.length_set]; exact q2)) rfl qb
end
end Mine
end

section
open PySem PySem.W PyProof.Rows
namespace Mine

section
variable {prog : Program} {w : World} {G0 : Frz} {fa : Nat → Addr} {d : Option Addr} {fs : List Str} {N : Nat} {S0 B S S' : Frz} {c : Cx} {env : Env} {A : Around} {σ σ' : Sg} {ad ad' : Nat → Addr} {D D' : DS} {h h' : Heap}

theorem deal_poke (i : Inv G0 fa d fs N S0 B c env A σ ad S D h) {z : Addr} (hz : d = some z) (sb : Heap.SameBut z h h') {vs' : List Value} (hl : h'.IsList z vs'.toArray) (rs : Reps d fa S vs' D') (hlen : D'.length < lim) :
    Inv G0 fa d fs N S0 B c env A σ ad S D' h' := by
  obtain ⟨zS, _⟩ := i.run.ok.deal z hz
  obtain ⟨m, hL⟩ := i.ns
  have zL : env.locals ≠ z := fun e => deal_ne_ns i.run.ok.deal hL (by rw [e, hz])
  have zC : ∀ n a, env.cells.lookup n = some a → a ≠ z := fun n a e q => by
    obtain ⟨⟨v, hcl⟩, _⟩ := i.cel n a e
    exact deal_ne_cell i.run.ok.deal hcl (by rw [q, hz])
  have kk : ∀ a o, a ≠ z → h.get? a = some o → h'.get? a = some o := fun a o hne e => sb.extBut a o hne e
  refine ⟨⟨i.run.hfs, i.run.eo, i.run.room, ⟨i.run.ok.g, fun a o e => kk a o (fun q => by subst q; rw [zS] at e; cases e) (i.run.ok.sub a o e), fun a e => ?_⟩, ⟨fun y hy n p h1 h2 => ?_, fun y hy n xs h1 h2 => ?_, i.run.fit.apart⟩⟩, i.le, i.new, fun a o e => kk a o (fun q => by subst q; exact i.nB _ o e hz.symm) (i.sub a o e), i.nB, ⟨m, hL.sameBut sb zL⟩, i.lB, i.lS, fun n a e => ?_, i.capart, i.ownB⟩
  · have : a = z := Option.some.inj (e.symm.trans hz)
    subst this
    obtain ⟨o, ho, hc, n, hd⟩ := hl
    exact ⟨zS, hlen, vs', n, o, ho, hc, hd, rs⟩
  · obtain ⟨v, a, b⟩ := i.run.fit.val y hy n p h1 h2
    exact ⟨v, a.off sb zL zC, b⟩
  · obtain ⟨q1, q2, q3, q4, o, vs, k, q5, q6⟩ := i.run.fit.own y hy n xs h1 h2
    exact ⟨q1.off sb zL zC, q2, q3, q4, o, vs, k, kk _ o (fun q => q4 (by rw [q, hz])) q5, q6⟩
  · obtain ⟨⟨v, hcl⟩, g⟩ := i.cel n a e
    exact ⟨⟨v, hcl.sameBut sb (zC n a e)⟩, g⟩

theorem sx_setd (GL : Globs G0 fs fa) (hall : ∀ k, ∃ o fd, G0 (fa k) = some o ∧ o.data = .func fd) {x j : Nat} {me : ME} : SX prog w G0 fa d fs N (.setd x j me) := by
  intro S0 B c st env A σ ad S D s Q R ok i hw p
  apply setd_e ok; intro id np k kp sp v pos o1 o2
  obtain ⟨hx, hn, _, hdbg⟩ := isVar_inv o1
  have hs : swapsWith v (some (.Subscript (.Name id np) (.Constant (.int (j : Int)) k kp) sp)) pos.line env = pure false := by cases v <;> rfl
  refine wpAny_Assign_Subscript ((sound_e GL hall me).1 o2 i.run hw fun v pv S1 D1 h1 tk1 x1 dl rp q => ?_) hs
  have i1 := i.ext x1 dl
  split at q
  · rename_i hg
    obtain ⟨hj, q⟩ := q
    obtain ⟨v0, hv0, r0⟩ := var_load (s := { s with heap := h1, toks := tk1 }) i1.run o1 hg
    cases r0 with
    | deal hd =>
      rename_i z
      refine name_holds (s := { s with heap := h1, toks := tk1 }) i.run.eo.kind hdbg hv0 ?_
      refine wpAny_Constant_int ?_
      obtain ⟨zS, hlen, vs, n, o, ho, hc, hdat, rs⟩ := i1.run.ok.deal z hd
      have hlen2 := rs.length
      have hlim : lim = 1048576 := by decide
      refine wpAny_setItem_list (s := { s with heap := h1, toks := tk1 + 1 }) (l := z) (items := vs.toArray) ⟨o, ho, hc, n, hdat⟩ (by omega) (by omega) (by rw [List.size_toArray, hlen2]; omega) fun h' hl sb => ?_
      exact p .next .next _ ad S1 _ h' (tk1 + 1) (deal_poke i1 hd sb (vs' := vs.set j v) (by simpa using hl) (rs.set j rp) (by rw [List.length_set]; exact hlen)) rfl q
  · exact q.elim

theorem sx_ret (GL : Globs G0 fs fa) (hall : ∀ k, ∃ o fd, G0 (fa k) = some o ∧ o.data = .func fd) {me : ME} : SX prog w G0 fa d fs N (.ret me) := by
  intro S0 B c st env A σ ad S D s Q R ok i hw p
  apply sRet_e ok; intro v pos o1
  refine wpAny_Return_some ((sound_e GL hall me).1 o1 i.run hw fun v pv S1 D1 h1 tk1 x1 dl rp q => ?_)
  exact p (.ret v) (.ret pv) σ ad S1 D1 h1 tk1 (i.ext x1 dl) ⟨v, rfl, rp⟩ q

theorem whichB_inv {b : Bool} {P Q : Prop} (h : whichB b P Q) : if b = true then P else Q := by cases b <;> exact h

theorem sx_if (GL : Globs G0 fs fa) (hall : ∀ k, ∃ o fd, G0 (fa k) = some o ∧ o.data = .func fd) {me : ME} {t e : MSs} (ht : SXs prog w G0 fa d fs N t) (he : SXs prog w G0 fa d fs N e) : SX prog w G0 fa d fs N (.ifS me t e) := by
  intro S0 B c st env A σ ad S D s Q R ok i hw p
  apply sIf_e ok; intro b x y pos ok
  have o1 := (an ok).1
  have o2 := (an (an ok).2).1
  have o3 := (an (an ok).2).2
  refine wpAny_If ((sound_e GL hall me).2 o1 i.run (K := fun b D' => whichB b (wpSs (CallOK prog w G0 d fa N) t σ D' Q) (wpSs (CallOK prog w G0 d fa N) e σ D' Q)) hw fun b S1 D1 h1 tk1 x1 dl q => ?_)
  have i1 := i.ext x1 dl
  cases b with
  | true => exact ht (s := { s with heap := h1, toks := tk1 }) o2 i1 q p
  | false => exact he (s := { s with heap := h1, toks := tk1 }) o3 i1 q p

theorem sxs_nil : SXs prog w G0 fa d fs N .nil := by
  intro S0 B c sts env A σ ad S D s Q R ok i hw p
  apply l0_e ok
  exact wpAny_execs_nil (p .next .next σ ad S D s.heap s.toks i rfl hw)
theorem sxs_cons {ms : MS} {r : MSs} (h : SX prog w G0 fa d fs N ms) (hr : SXs prog w G0 fa d fs N r) : SXs prog w G0 fa d fs N (.cons ms r) := by
  intro S0 B c sts env A σ ad S D s Q R ok i hw p
  apply lc_e ok; intro st sts ok
  refine wpAny_execs_cons (h (an ok).1 i hw fun f fl σ' ad' S' D' h' tk' i' hf q => ?_)
  cases fl with
  | next =>
    have hf : f = .next := hf
    subst hf
    exact hr (s := { s with heap := h', toks := tk' }) (an ok).2 i' q p
  | ret pv =>
    obtain ⟨v, rfl, rp⟩ := hf
    exact p (.ret v) (.ret pv) σ' ad' S' D' h' tk' i' ⟨v, rfl, rp⟩ q

/-- an own list becomes a value -/
theorem freeze_own (i : Inv G0 fa d fs N S0 B c env A σ ad S D h) {x : Nat} (hx : x ∈ c.vis) {xs : List PV} (hσ : σ[x]? = some (.own xs)) : ∃ S', Inv G0 fa d fs N S0 B c env A (σ.set x (.v (.list xs))) ad S' D h := by
  obtain ⟨n, hn⟩ := i.run.eo.named x hx
  obtain ⟨q1, q2, q3, q4, o, vs, kk, q5, q6, q7, q8⟩ := i.run.fit.own x hx n xs hn hσ
  obtain ⟨m, hL⟩ := i.ns
  have zL := ns_seq hL q5 q7
  have le : Le S (S.add (ad x) o) := Frz.add_le q3
  have off : ∀ a, a ≠ ad x → (S.add (ad x) o) a = S a := fun a e => by unfold Frz.add; rw [if_neg e]
  refine ⟨S.add (ad x) o, ⟨⟨i.run.hfs, i.run.eo, i.run.room, ⟨i.run.ok.g.trans le, fun a o' e => ?_, i.run.ok.deal.freeze q3 q4⟩, ⟨fun y hy n' p h1 h2 => ?_, fun y hy n' ys h1 h2 => ?_, fun y hy y' hy' ys ys' e1 e2 q => ?_⟩⟩, i.le.trans le, fun a o' e => ?_, i.sub, i.nB, ⟨m, hL⟩, i.lB, by rw [off _ zL]; exact i.lS, fun n a e => ?_, i.capart, fun y hy ys e => ?_⟩⟩
  · rcases Frz.add_inv e with ⟨rfl, rfl⟩ | e
    · exact q5
    · exact i.run.ok.sub a o' e
  · rcases set_get_inv h2 with ⟨rfl, e⟩ | ⟨hne, e⟩
    · cases e
      have en : n' = n := Option.some.inj (h1.symm.trans hn)
      subst en
      exact ⟨_, q1, .list (Frz.add_self _ _ _) q6.1 q7 q2 (q8.mono le)⟩
    · obtain ⟨v, a, b⟩ := i.run.fit.val y hy n' p h1 e
      exact ⟨v, a, b.mono le⟩
  · rcases set_get_inv h2 with ⟨rfl, e⟩ | ⟨hne, e⟩
    · cases e
    · obtain ⟨g1, g2, g3, g4, o2, vs2, k2, g5, g6, g7, g8⟩ := i.run.fit.own y hy n' ys h1 e
      exact ⟨g1, g2, by rw [off _ fun q => hne (i.run.fit.apart y hy x hx ys xs e hσ q)]; exact g3, g4, o2, vs2, k2, g5, g6, g7, g8.mono le⟩
  · rcases set_get_inv e1 with ⟨rfl, e⟩ | ⟨hne, e⟩
    · cases e
    · rcases set_get_inv e2 with ⟨rfl, e'⟩ | ⟨hne', e'⟩
      · cases e'
      · exact i.run.fit.apart y hy y' hy' ys ys' e e' q
  · rcases Frz.add_inv e with ⟨rfl, rfl⟩ | e
    · exact .inr (i.ownB x hx xs hσ)
    · exact i.new a o' e
  · obtain ⟨⟨v, hcl⟩, g1, g2⟩ := i.cel n a e
    exact ⟨⟨v, hcl⟩, g1, by rw [off _ (cell_seq hcl q5 q7)]; exact g2⟩
  · rcases set_get_inv e with ⟨rfl, e1⟩ | ⟨hne, e1⟩
    · cases e1
    · exact i.ownB y hy ys e1

theorem sxs_frz {x : Nat} {r : MSs} (hr : SXs prog w G0 fa d fs N r) : SXs prog w G0 fa d fs N (.frz x r) := by
  intro S0 B c sts env A σ ad S D s Q R ok i hw p
  have ok' : (c.vis.contains x && okSs r c sts) = true := ok
  simp only [Bool.and_eq_true, List.contains_iff_mem] at ok'
  obtain ⟨xs, e0, hw⟩ := asSome_inv hw
  obtain ⟨S', i'⟩ := freeze_own i ok'.1 (go_inv e0)
  exact hr ok'.2 i' hw p
end
end Mine
end

section
open PySem PySem.W PyProof.Rows
namespace Mine

section
variable {prog : Program} {w : World} {G0 : Frz} {fa : Nat → Addr} {d : Option Addr} {fs : List Str} {N : Nat}

theorem sx_while (GL : Globs G0 fs fa) (hall : ∀ k, ∃ o fd, G0 (fa k) = some o ∧ o.data = .func fd) {me : ME} {b : MSs} (hb : SXs prog w G0 fa d fs N b) : SX prog w G0 fa d fs N (.whileS me b) := by
  intro S0 B c st env A σ ad S D s Q R ok i hw p
  apply sWhile_e ok; intro t x pos ok
  have o1 := (an ok).1
  have o2 := (an ok).2
  obtain ⟨n, hw⟩ := hw
  refine wpAny_While (codeAny_whileLoop (fun n s' => ∃ h₁ tk₁ σ' ad' S' D', s' = { s with heap := h₁, toks := tk₁ } ∧ Inv G0 fa d fs N S0 B c env A σ' ad' S' D' h₁ ∧ whileW (wpE (CallOK prog w G0 d fa N) me) (wpSs (CallOK prog w G0 d fa N) b) n σ' D' Q) ?_ n ⟨s.heap, s.toks, σ, ad, S, D, rfl, i, hw⟩)
  rintro n s' ⟨h₁, tk₁, σ', ad', S', D', rfl, i', hw'⟩
  cases n with
  | zero => exact hw'.elim
  | succ n =>
    refine wpAny_mono ((sound_e GL hall me).2 (s := { s with heap := h₁, toks := tk₁ }) o1 i'.run (K := fun bb D₁ => whichB bb (wpSs (CallOK prog w G0 d fa N) b σ' D₁ fun f σ' D₂ => match f with
      | .next => whileW (wpE (CallOK prog w G0 d fa N) me) (wpSs (CallOK prog w G0 d fa N) b) n σ' D₂ Q
      | .ret v => Q (.ret v) σ' D₂) (Q .next σ' D₁)) hw' (R := fun bb s₂ => if bb = true then wpAny (model prog w) A (execs x env) (fun f s₃ => match f with
            | .next | .cont => ∃ m, m < n + 1 ∧ ∃ h₁ tk₁ σ' ad' S' D', s₃ = { s with heap := h₁, toks := tk₁ } ∧ Inv G0 fa d fs N S0 B c env A σ' ad' S' D' h₁ ∧ whileW (wpE (CallOK prog w G0 d fa N) me) (wpSs (CallOK prog w G0 d fa N) b) m σ' D' Q
            | .brk => R .next s₃
            | .ret v => R (.ret v) s₃) (fun _ _ => False) s₂ else R .next s₂) fun bb S1 D1 h1 tk1 x1 dl q => ?_) (fun bb s₂ h => ?_) fun _ _ e => e.elim
    · have i1 := i'.ext x1 dl
      cases bb with
      | false => exact p .next .next σ' ad' S1 D1 h1 tk1 i1 rfl q
      | true =>
        refine hb (s := { s with heap := h1, toks := tk1 }) o2 i1 q fun f fl σ'' ad'' S'' D'' h'' tk'' i'' hf q => ?_
        cases fl with
        | next =>
          have hf : f = .next := hf
          subst hf
          exact ⟨n, Nat.lt_succ_self n, h'', tk'', σ'', ad'', S'', D'', rfl, i'', q⟩
        | ret pv =>
          obtain ⟨v, rfl, rp⟩ := hf
          exact p (.ret v) (.ret pv) σ'' ad'' S'' D'' h'' tk'' i'' ⟨v, rfl, rp⟩ q
    · cases bb with
      | false => exact wpAny_execs_nil h
      | true => exact wpAny_mono h (fun f s₃ h => by cases f <;> exact h) fun _ _ e => e.elim

/-- a statement's target -/
theorem bind_stmt {S0 B : Frz} {c : Cx} {env : Env} {pat : MP} {t : Expr} {A : Around} {s : Shared} {S : Frz} {D : DS} {v : Value} {x : PV} {σ : Sg} {ad : Nat → Addr} {K : Sg → Prop} {R : Unit → Shared → Prop} {E : Value → Shared → Prop}
    (i : Inv G0 fa d fs N S0 B c env A σ ad S D s.heap) (ok : okP c pat t = true) (hit : ItemRep pat d fa S s.heap v x) (hw : bindP pat x σ K)
    (k : ∀ h' tk' σ' ad', Inv G0 fa d fs N S0 B c env A σ' ad' S D h' → (∀ b, b ≠ env.locals → (∀ n, env.cells.lookup n ≠ some b) → ∀ o, s.heap.get? b = some o → h'.get? b = some o) →
      (∀ y ys, σ'[y]? = some (.own ys) → σ[y]? = some (.own ys) ∧ ad' y = ad y) → K σ' → R () { s with heap := h', toks := tk' }) :
    wpAny (model prog w) A (assign t env v) R E s := by
  have hh := i.run.room.handled
  cases pat with
  | one y =>
    apply xName_e ok; intro id tp ok
    · refine wpAny_assign_Name (store_var i ok (l := .v x) (a := 0) hit (fun xs e => by cases e) fun h' tk' i' _ kk => k h' tk' _ _ i' kk (fun z zs e => ?_) hw)
      rcases set_get_inv e with ⟨rfl, e1⟩ | ⟨hne, e1⟩
      · cases e1
      · exact ⟨e1, by rw [if_neg hne]⟩
  | two y z =>
    apply xTup_e ok; intro es kk tp ok
    apply l2_e ok; intro a' b' ok
    apply xName_e ok; intro a pa ok
    apply xName_e ok; intro b pb ok
    have va := (an ok).1
    have vb := (an (an ok).2).1
    obtain ⟨T, v1, v2, p1, p2, rfl, hT, rfl, r1, r2⟩ := hit
    refine wpAny_assign_Tuple hh hT rfl rfl fun h₁ he => ?_
    have g : Grew s.heap h₁ := fun b o e => he b o (Nat.ne_of_lt (Heap.lt_size e)) e
    have i1 := i.grew g
    show wpAny _ A (assignInOrder [assign (.Name a pa) env, assign (.Name b pb) env] [v1, v2]) _ _ _
    refine assignInOrder_cons (wpAny_assign_Name (store_var (s := { s with heap := h₁ }) i1 va (l := .v p1) (a := 0) r1 (fun xs e => by cases e) fun h₂ tk₂ i2 _ k2 => ?_))
    refine assignInOrder_cons (wpAny_assign_Name (store_var (s := { s with heap := h₂, toks := tk₂ }) i2 vb (l := .v p2) (a := 0) r2 (fun xs e => by cases e) fun h₃ tk₃ i3 _ k3 => ?_))
    refine assignInOrder_nil (k h₃ tk₃ _ _ i3 (fun c h1 h2 o e => k3 c h1 h2 o (k2 c h1 h2 o (g c o e))) (fun q qs e => ?_) hw)
    rcases set_get_inv e with ⟨rfl, e1⟩ | ⟨hn1, e1⟩
    · cases e1
    · rcases set_get_inv e1 with ⟨rfl, e2⟩ | ⟨hn2, e2⟩
      · cases e2
      · exact ⟨e2, by rw [if_neg hn1, if_neg hn2]⟩
end
end Mine
end

section
open PySem PySem.W PyProof.Rows
namespace Mine

section
variable {prog : Program} {w : World} {G0 : Frz} {fa : Nat → Addr} {d : Option Addr} {fs : List Str} {N : Nat}

theorem sx_for (GL : Globs G0 fs fa) (hall : ∀ k, ∃ o fd, G0 (fa k) = some o ∧ o.data = .func fd) {pat : MP} {it : MI} {b : MSs} (hb : SXs prog w G0 fa d fs N b) : SX prog w G0 fa d fs N (.forS pat it b) := by
  intro S0 B c st env A σ ad S D s Q R ok i hw p
  apply sFor_e ok; intro t e x pos ok
  have o1 := (an (an ok).1).1
  have o2 := (an (an ok).1).2
  have o3 := (an (an ok).2).1
  have o4 := (an (an ok).2).2
  refine wpAny_For (sound_i GL hall it o3 o2 (okP_target o1) i.run hw fun xs S1 D1 h1 tk1 it' x1 r1 ia q => ?_) (okI_folded o3 env)
  obtain ⟨hx, hw'⟩ := q
  obtain ⟨I, fp, wr, P, Md, St, rfl, W, hself, hst, hfp, hex, hwr, hP⟩ := ia
  have i1 := i.ext x1 r1.ok.deal
  -- the iterator's objects are nobody's
  obtain ⟨mL, hL⟩ := i.ns
  have fpd : ∀ a ∈ fp, some a ≠ d := fun a ha q => by
    rcases hfp a ha with ⟨o, e⟩ | e
    · have := (i1.run.ok.deal a q.symm).1
      rw [e] at this; cases this
    · exact deal_ne i.run.ok.deal e q
  have fpL : env.locals ∉ fp := fun ha => by
    rcases hfp _ ha with ⟨o, e⟩ | e
    · rw [i1.lS] at e; cases e
    · obtain ⟨o, _, _, g, _⟩ := hL; rw [g] at e; cases e
  have fpC : ∀ n a, env.cells.lookup n = some a → a ∉ fp := fun n a hn ha => by
    rcases hfp _ ha with ⟨o, e⟩ | e
    · rw [(i1.cel n a hn).2.2] at e; cases e
    · obtain ⟨⟨v, o, g, _⟩, _⟩ := i.cel n a hn; rw [g] at e; cases e
  have fpO : ∀ y ∈ c.vis, ∀ ys, σ[y]? = some (.own ys) → ad y ∉ fp := fun y hy ys e ha => by
    obtain ⟨n, hn⟩ := i.run.eo.named y hy
    rcases hfp _ ha with ⟨o, e1⟩ | e1
    · rw [(i1.run.fit.own y hy n ys hn e).2.2.1] at e1; cases e1
    · obtain ⟨_, _, _, _, o, _, _, g, _⟩ := i.run.fit.own y hy n ys hn e; rw [g] at e1; cases e1
  have wB : ∀ a ∈ wr, B a = none := fun a ha => none_B i.sub (hwr a ha).1
  have wfp : ∀ a ∈ wr, a ∈ fp := fun a ha => W.sub a ha
  refine codeAny_forLoop_any (fun n s' => ∃ h' tk σ' ad' S' D' j, s' = { s with heap := h', toks := tk } ∧ j ≤ xs.length ∧ n = xs.length + 1 - j ∧ St j h' ∧ Inv G0 fa d fs N S0 B c env A σ' ad' S' D' h' ∧
    (∀ y ∈ c.vis, ∀ ys, σ'[y]? = some (.own ys) → ad' y ∉ fp) ∧ Le S1 S' ∧ (∀ a ∈ wr, S' a = none) ∧ forW pat (wpSs (CallOK prog w G0 d fa N) b) (xs.drop j) σ' D' Q) ?_ (xs.length + 1)
    ⟨h1, tk1, σ, ad, S1, D1, 0, rfl, Nat.zero_le _, rfl, hst, i1, fpO, Le.refl _, fun a ha => (hwr a ha).2, hw'⟩
  rintro n s' ⟨h', tk, σ', ad', S', D', j, rfl, hj, rfl, hst', i', fo', le', ws', hw'⟩
  have touch : ∀ {h2 : Heap}, (∀ a o, a ∉ wr → h'.get? a = some o → h2.get? a = some o) → Inv G0 fa d fs N S0 B c env A σ' ad' S' D' h2 := fun k =>
    i'.touch k wB ws' (fun a ha => fpd a (wfp a ha)) (fun ha => fpL (wfp _ ha)) (fun n a hn ha => fpC n a hn (wfp _ ha)) (fun y hy ys e ha => fo' y hy ys e (wfp _ ha))
  by_cases hlt : j < xs.length
  · refine W.item j _ _ _ hlt hst' fun v h₁ tk₁ hMd hk₁ => ?_
    refine W.go j v _ _ _ hMd fun h₂ hPi hst₂ hk₂ => ?_
    have i₂ := touch (h2 := h₂) (fun b o hb e => hk₂ b o hb (hk₁ b o hb e))
    obtain ⟨xj, ex, hit⟩ := hP j v h₂ S' hlt hPi le' i₂.run.ok.sub
    have hdrop : xs.drop j = xj :: xs.drop (j + 1) := by
      rw [List.drop_eq_getElem_cons hlt]
      congr 1
      exact Option.some.inj ((List.getElem?_eq_getElem hlt).symm.trans ex)
    rw [hdrop] at hw'
    refine bind_stmt (s := { s with heap := h₂, toks := tk₁ }) i₂ o1 hit hw' fun h₃ tk₃ σ₃ ad₃ i₃ k₃ own₃ hw₃ => ?_
    have hst₃ : St (j + 1) h₃ := W.frame _ _ _ hst₂ fun a ha o e => k₃ a (fun q => fpL ((show a = env.locals from q) ▸ ha)) (fun n hn => fpC n a hn ha) o e
    have fo₃ : ∀ y ∈ c.vis, ∀ ys, σ₃[y]? = some (.own ys) → ad₃ y ∉ fp := fun y hy ys e => by
      obtain ⟨e1, e2⟩ := own₃ y ys e
      rw [e2]; exact fo' y hy ys e1
    have ex₃ : ∀ a ∈ fp, ∃ o, h₃.get? a = some o := hex _ h₃ hst₃
    classical
    -- inside the body the iterator is kept too
    let B' : Frz := fun a => if a ∈ fp then h₃.get? a else B a
    have Bin : ∀ a, a ∈ fp → B' a = h₃.get? a := fun a ha => if_pos ha
    have Bout : ∀ a, a ∉ fp → B' a = B a := fun a ha => if_neg ha
    have leB : Le B B' := fun a o e => by
      by_cases ha : a ∈ fp
      · rw [Bin a ha]; exact i₃.sub a o e
      · rw [Bout a ha]; exact e
    have ib : Inv G0 fa d fs N S' B' c env A σ₃ ad₃ S' D' h₃ :=
      ⟨i₃.run, Le.refl _, fun a o e => .inl e, fun a o e => by
        by_cases ha : a ∈ fp
        · rw [Bin a ha] at e; exact e
        · rw [Bout a ha] at e; exact i₃.sub a o e, fun a o e => by
        by_cases ha : a ∈ fp
        · exact fpd a ha
        · rw [Bout a ha] at e; exact i₃.nB a o e, i₃.ns, by rw [Bout _ fpL]; exact i₃.lB, i₃.lS, fun n a hn => by
        obtain ⟨g1, g2, g3⟩ := i₃.cel n a hn
        exact ⟨g1, by rw [Bout _ (fpC n a hn)]; exact g2, g3⟩, i₃.capart, fun y hy ys e => by rw [Bout _ (fo₃ y hy ys e)]; exact i₃.ownB y hy ys e⟩
    refine wpAny_mono (hb (s := { s with heap := h₃, toks := tk₃ }) o4 ib hw₃ (R := fun f s₃ => match f with
            | .next | .cont => ∃ m, m < xs.length + 1 - j ∧ ∃ h' tk σ' ad' S' D' j, s₃ = { s with heap := h', toks := tk } ∧ j ≤ xs.length ∧ m = xs.length + 1 - j ∧ St j h' ∧ Inv G0 fa d fs N S0 B c env A σ' ad' S' D' h' ∧
    (∀ y ∈ c.vis, ∀ ys, σ'[y]? = some (.own ys) → ad' y ∉ fp) ∧ Le S1 S' ∧ (∀ a ∈ wr, S' a = none) ∧ forW pat (wpSs (CallOK prog w G0 d fa N) b) (xs.drop j) σ' D' Q
            | .brk => R .next s₃
            | .ret v => R (.ret v) s₃) fun f fl σ₄ ad₄ S₄ D₄ h₄ tk₄ i₄ hf q => ?_) (fun f s₃ h => by cases f <;> exact h) fun _ _ e => e.elim
    have i₅ : Inv G0 fa d fs N S0 B c env A σ₄ ad₄ S₄ D₄ h₄ := i₄.rebase i₃.le i₃.new leB
    cases fl with
    | next =>
      have hf : f = .next := hf
      subst hf
      refine ⟨xs.length + 1 - (j + 1), by omega, h₄, tk₄, σ₄, ad₄, S₄, D₄, j + 1, rfl, hlt, rfl, ?_, i₅, fun y hy ys e ha => ?_, le'.trans i₄.le, fun a ha => ?_, q⟩
      · exact W.frame _ _ _ hst₃ fun a ha o e => i₄.sub a o (by rw [Bin a ha]; exact e)
      · obtain ⟨o, eo⟩ := ex₃ _ ha
        have := i₄.ownB y hy ys e
        rw [Bin _ ha, eo] at this; cases this
      · cases z : S₄ a with
        | none => rfl
        | some o =>
          rcases i₄.new a o z with z | z
          · rw [ws' a ha] at z; cases z
          · obtain ⟨o', eo⟩ := ex₃ _ (wfp a ha)
            rw [Bin _ (wfp a ha), eo] at z; cases z
    | ret pv =>
      obtain ⟨v, rfl, rp⟩ := hf
      exact p (.ret v) (.ret pv) σ₄ ad₄ S₄ D₄ h₄ tk₄ i₅ ⟨v, rfl, rp⟩ q
  · obtain rfl : j = xs.length := Nat.le_antisymm hj (Nat.not_lt.mp hlt)
    rw [List.drop_length] at hw'
    refine W.done _ _ _ hst' fun h₁ tk₁ hk₁ => ?_
    exact wpAny_execs_nil (p .next .next σ' ad' S' D' h₁ tk₁ (touch hk₁) rfl hw')

variable (GL : Globs G0 fs fa) (hall : ∀ k, ∃ o fd, G0 (fa k) = some o ∧ o.data = .func fd)
include GL hall
mutual
theorem sound_s : ∀ ms : MS, SX prog w G0 fa d fs N ms
  | .asg x r => sx_asg GL hall
  | .asgT rs => sx_asgT GL hall
  | .asgU x y e => sx_asgU GL hall
  | .aug x op e => sx_aug GL hall
  | .app x e => sx_app GL hall
  | .seti x i e => sx_seti GL hall
  | .setd x i e => sx_setd GL hall
  | .ifS c t e => sx_if GL hall (sound_ss t) (sound_ss e)
  | .whileS c b => sx_while GL hall (sound_ss b)
  | .forS pat it b => sx_for GL hall (sound_ss b)
  | .ret e => sx_ret GL hall
  | .fail => fun _ _ hw _ => hw.elim
theorem sound_ss : ∀ ms : MSs, SXs prog w G0 fa d fs N ms
  | .nil => sxs_nil
  | .cons s r => sxs_cons (sound_s s) (sound_ss r)
  | .frz x r => sxs_frz (sound_ss r)
end
end
end Mine
end

section
open PySem PySem.W PyProof.Rows
namespace Mine

theorem cellsFrom_mem {n : Str} : ∀ (names : List (Str × NameKind)) (k : Nat) (acc : List (Str × Addr)), ((n, NameKind.cell) ∈ names ∨ ∃ a, (n, a) ∈ acc) → ∃ a, (n, a) ∈ cellsFrom k names acc
  | [], k, acc, h => by
    rcases h with h | h
    · cases h
    · exact h
  | (m, kd) :: r, k, acc, h => by
    unfold cellsFrom
    split
    · rename_i hk
      refine cellsFrom_mem r _ _ ?_
      rcases h with h | ⟨a, h⟩
      · rcases List.mem_cons.mp h with e | h
        · cases e; exact .inr ⟨k, List.mem_cons_self⟩
        · exact .inl h
      · exact .inr ⟨a, List.mem_cons_of_mem _ h⟩
    · rename_i hk
      refine cellsFrom_mem r _ _ ?_
      rcases h with h | h
      · rcases List.mem_cons.mp h with e | h
        · cases e; simp at hk
        · exact .inl h
      · exact .inr h

theorem bindL_out {kd : Str → Option NameKind} {n : Str} : ∀ (binds : List (Str × Value)) (m : Str → Option Value), (∀ p ∈ binds, p.1 ≠ n) → bindL kd binds m n = m n
  | [], _, _ => rfl
  | (k, v) :: r, m, h => by
    unfold bindL
    rw [bindL_out r _ fun p hp => h p (List.mem_cons_of_mem _ hp)]
    split
    · have := h (k, v) List.mem_cons_self
      simp [Ne.symm this]
    · rfl
theorem bindL_get {kd : Str → Option NameKind} {n : Str} {v : Value} (hk : kd n = some .local) : ∀ (binds : List (Str × Value)) (m : Str → Option Value), (binds.map (·.1)).Nodup → (n, v) ∈ binds → bindL kd binds m n = some v
  | (k, u) :: r, m, hd, h => by
    obtain ⟨h1, h2⟩ := List.nodup_cons.mp hd
    unfold bindL
    rcases List.mem_cons.mp h with e | h
    · cases e
      rw [bindL_out r _ fun p hp q => h1 (List.mem_map.mpr ⟨p, hp, q⟩), if_pos hk]
      simp
    · exact bindL_get hk r _ h2 h
theorem bindC_out {kd : Str → Option NameKind} {n : Str} : ∀ (binds : List (Str × Value)) (m : Str → Option Value), (∀ p ∈ binds, p.1 ≠ n) → bindC kd binds m n = m n
  | [], _, _ => rfl
  | (k, v) :: r, m, h => by
    unfold bindC
    rw [bindC_out r _ fun p hp => h p (List.mem_cons_of_mem _ hp)]
    split
    · rfl
    · have := h (k, v) List.mem_cons_self
      simp [Ne.symm this]
theorem bindC_get {kd : Str → Option NameKind} {n : Str} {v : Value} (hk : ¬ kd n = some .local) : ∀ (binds : List (Str × Value)) (m : Str → Option Value), (binds.map (·.1)).Nodup → (n, v) ∈ binds → bindC kd binds m n = some v
  | (k, u) :: r, m, hd, h => by
    obtain ⟨h1, h2⟩ := List.nodup_cons.mp hd
    unfold bindC
    rcases List.mem_cons.mp h with e | h
    · cases e
      rw [bindC_out r _ fun p hp q => h1 (List.mem_map.mpr ⟨p, hp, q⟩), if_neg hk]
      simp
    · exact bindC_get hk r _ h2 h

/-- a def of the text: what is checked of it once -/
structure Fn where
  pn : List Str
  params : Arguments
  body : List Stmt
  scope : Scope
  cx : Cx
  mini : MSs
  nv : Nat

noncomputable def Fn.good (F : Fn) : Bool :=
  okSs F.mini F.cx F.body && ((F.scope.kind == .function && (!F.scope.isCoroutine && !F.scope.isGenerator)) && ((F.pn.eraseDups.length == F.pn.length &&
    (F.pn.all fun n => F.scope.names.lookup n == some .local || F.scope.names.lookup n == some .cell)) && ((F.cx.inj && (F.cx.vis.all fun x => (F.cx.nm[x]?).isSome)) && (F.pn == F.cx.nm.take F.pn.length))))

structure FnAt (G0 : Frz) (a : Addr) (F : Fn) : Prop where
  ks : F.cx.ks = F.scope.names
  obj : ∃ o fd, G0 a = some o ∧ o.data = .func fd ∧ fd.params = F.params ∧ fd.body = .stmts F.body ∧ fd.scope = F.scope ∧ fd.globals = mainGlobals ∧ fd.builtins = builtinsNs ∧ fd.closure = [] ∧ (∀ h, Sub G0 h → h.CodeRec fd.code fd.qualname) ∧
    ∀ vs : List Value, vs.length = F.pn.length → bindArgs fd ⟨vs, []⟩ = pure (F.pn.zip vs)

theorem nodup_strs : ∀ (n : Nat) (l : List Str), l.length ≤ n → l.eraseDups.length = l.length → l.Nodup := by
  intro n
  induction n with
  | zero => intro l h _; cases l with | nil => exact .nil | cons _ _ => simp at h
  | succ n ih =>
    intro l h e
    cases l with
    | nil => exact .nil
    | cons a r =>
      rw [List.eraseDups_cons, List.length_cons, List.length_cons] at e
      have h1 : (r.filter fun b => !b == a).length ≤ r.length := List.length_filter_le _ _
      have key : ∀ (m : Nat) (l : List Str), l.length ≤ m → l.eraseDups.length ≤ l.length := by
        intro m
        induction m with
        | zero => intro l h; cases l with | nil => simp | cons _ _ => simp at h
        | succ m ihm =>
          intro l h
          cases l with
          | nil => simp
          | cons b t =>
            rw [List.eraseDups_cons, List.length_cons, List.length_cons]
            have h2 : (t.filter fun c => !c == b).length ≤ t.length := List.length_filter_le _ _
            have := ihm (t.filter fun c => !c == b) (by simp at h; omega)
            omega
      have h3 := key _ (r.filter fun b => !b == a) (Nat.le_refl _)
      have h4 : (r.filter fun b => !b == a).length = r.length := by omega
      have h5 : r.filter (fun b => !b == a) = r := List.length_filter_eq_length_iff.mp h4 |> fun h => List.filter_eq_self.mpr h
      rw [h5] at e
      refine List.nodup_cons.mpr ⟨fun hm => ?_, ih r (by simp at h; omega) (by omega)⟩
      have := List.length_filter_eq_length_iff.mp h4 a hm
      simp at this

section
variable {prog : Program} {w : World} {G0 : Frz} {fa : Nat → Addr} {d : Option Addr} {fs : List Str} {N : Nat}

noncomputable def argsOf (F : Fn) (args : List PV) : Sg := args.map Sl.v ++ List.replicate (F.nv - args.length) .un

theorem argsOf_get {F : Fn} {args : List PV} {x : Nat} {p : PV} (h : (argsOf F args)[x]? = some (.v p)) : args[x]? = some p := by
  unfold argsOf at h
  by_cases hx : x < (args.map Sl.v).length
  · rw [List.getElem?_append_left hx, List.getElem?_map] at h
    cases q : args[x]? with
    | none => rw [q] at h; cases h
    | some p' => rw [q] at h; cases h; rfl
  · rw [List.getElem?_append_right (by omega), List.getElem?_replicate] at h
    split at h <;> cases h
theorem argsOf_own {F : Fn} {args : List PV} {x : Nat} {xs : List PV} (h : (argsOf F args)[x]? = some (.own xs)) : False := by
  unfold argsOf at h
  by_cases hx : x < (args.map Sl.v).length
  · rw [List.getElem?_append_left hx, List.getElem?_map] at h
    cases q : args[x]? with
    | none => rw [q] at h; cases h
    | some p' => rw [q] at h; cases h
  · rw [List.getElem?_append_right (by omega), List.getElem?_replicate] at h
    split at h <;> cases h

theorem fn_enter (GL : Globs G0 fs fa) {k : Nat} {F : Fn} (at' : FnAt G0 (fa k) F) (hfs : F.cx.fs = fs) (good : F.good = true) {args : List PV} (hlen : args.length = F.pn.length) {D : DS}
    {A : Around} {S : Frz} {s : Shared} {vs : List Value} {R : Value → Shared → Prop} (room : Room A (N + 1)) (le : Le G0 S) (sub : Sub S s.heap) (dl : DealAt d fa D S s.heap) (rs : Reps d fa S vs args)
    (body : ∀ (env : Env) (A' : Around) (B : Frz) (ad : Nat → Addr) (h' : Heap) (tk : Nat), Inv G0 fa d fs N S B F.cx env A' (argsOf F args) ad S D h' →
      (∀ {σ' : Sg} {ad' : Nat → Addr} {S' : Frz} {D' : DS} {h'' : Heap}, Inv G0 fa d fs N S B F.cx env A' σ' ad' S' D' h'' → Ext d S s.heap S' h'') → (d = none → ∀ a o, s.heap.get? a = some o → B a = some o) →
      wpAny (model prog w) A' (execs F.body env) (fun f s' => R (match f with | .ret v => v | _ => .none) s') (fun _ _ => False) { s with heap := h', toks := tk }) :
    wpAny (model prog w) A (call (.ref (fa k)) vs []) R (fun _ _ => False) s := by
  unfold Fn.good at good
  simp only [Bool.and_eq_true, beq_iff_eq, Bool.not_eq_true', List.all_eq_true, Bool.or_eq_true] at good
  obtain ⟨gok, ⟨gk, gco, ggen⟩, ⟨gnd, gpn⟩, ⟨ginj, gnm⟩, gtake⟩ := good
  obtain ⟨o, fd, g1, g2, g3, g4, g5, g6, g7, g8, g9, g10⟩ := at'.obj
  have sub0 : Sub G0 s.heap := fun a o e => sub a o (le a o e)
  have hvl : vs.length = F.pn.length := rs.length.trans hlen
  have hnd := nodup_strs _ F.pn (Nat.le_refl _) gnd
  have hks := at'.ks
  refine wpAny_call (codeAny_call_cells (by have := room.depth; omega) (sub0 _ _ g1) g2 (GL.nolimit _ sub0) (g9 _ sub0) g4 (g10 vs hvl) g8 (fun x hx => ?_) (fun s₁ x => ?_) (by rw [g5]; exact gco) (by rw [g5]; exact ggen) (by rw [g5]; exact gk))
  · rw [g5]
    have hm : x.1 ∈ F.pn := (List.of_mem_zip hx).1
    rcases gpn x.1 hm with e | e
    · exact .inl e
    · refine .inr ⟨e, ?_⟩
      obtain ⟨a, ha⟩ := cellsFrom_mem F.scope.names (s.heap.objs.size + 1) [] (.inl (mem_of_lookup e))
      obtain ⟨a', ha'⟩ := lookup_some_of_mem ha
      rw [ha']; rfl
  · generalize henv : callEnvC fd s.heap.objs.size (fa k) = env at x ⊢
    have eL : env.locals = s.heap.objs.size := by rw [← henv]; rfl
    have eS : env.scope = F.scope := by rw [← henv, ← g5]; rfl
    have eC : env.cells = cellsFrom (s.heap.objs.size + 1) F.scope.names [] := by rw [← henv, ← g5]; rfl
    have eG : env.globals = mainGlobals := by rw [← henv, ← g6]; rfl
    have eB : env.builtins = builtinsNs := by rw [← henv, ← g7]; rfl
    obtain ⟨h', tk, rfl, hk⟩ := x.done
    have Lf : s.heap.get? env.locals = none := by rw [eL]; exact size_none _
    have cf : ∀ n a, env.cells.lookup n = some a → s.heap.get? a = none := fun n a e => none_of_size (by have := x.above n a (mem_of_lookup e); rw [eL] at this; exact Nat.le_of_lt this)
    classical
    let B : Frz := fun a => if some a = d then none else s.heap.get? a
    have Bn : ∀ a, s.heap.get? a = none → B a = none := fun a e => by show (if some a = d then none else s.heap.get? a) = none; rw [e, ite_self]
    have Bs : ∀ a o, B a = some o → some a ≠ d ∧ s.heap.get? a = some o := fun a o e => by
      have e' : (if some a = d then none else s.heap.get? a) = some o := e
      by_cases q : some a = d
      · rw [if_pos q] at e'; cases e'
      · rw [if_neg q] at e'; exact ⟨q, e'⟩
    have Bi : ∀ a o, some a ≠ d → s.heap.get? a = some o → B a = some o := fun a o q e => by show (if some a = d then none else s.heap.get? a) = some o; rw [if_neg q]; exact e
    have eo : EnvOK F.cx env := ⟨by rw [eS]; exact gk, by rw [eS, hks], eG, eB, fun n hn => by
        rw [hks] at hn
        obtain ⟨a, ha⟩ := cellsFrom_mem F.scope.names (s.heap.objs.size + 1) [] (.inl (mem_of_lookup hn))
        rw [eC]; exact lookup_some_of_mem ha, fun y hy z hz e => by
        unfold Cx.inj at ginj
        simp only [List.all_eq_true, Bool.or_eq_true, beq_iff_eq, bne_iff_ne, ne_eq] at ginj
        rcases ginj y hy z hz with h | h
        · exact h
        · exact absurd e h, fun y hy => Option.isSome_iff_exists.mp (gnm y hy)⟩
    have fit : Fit F.cx env fa d (fun _ => 0) (argsOf F args) S h' := by
      refine ⟨fun y hy n p hn hp => ?_, fun y hy n xs hn hp => (argsOf_own hp).elim, fun y hy z hz xs ys e => (argsOf_own e).elim⟩
      have hp' := argsOf_get hp
      obtain ⟨v, hv⟩ : ∃ v, vs[y]? = some v := by
        have : y < args.length := (List.getElem?_eq_some_iff.mp hp').1
        have : y < vs.length := by rw [hvl, ← hlen]; exact this
        exact ⟨vs[y], List.getElem?_eq_getElem this⟩
      obtain ⟨p', e1, e2⟩ := rs.getV hv
      rw [hp'] at e1; cases e1
      have hyn : F.pn[y]? = some n := by
        have hyl : y < F.pn.length := by rw [← hlen]; exact (List.getElem?_eq_some_iff.mp hp').1
        rw [gtake, List.getElem?_take_of_lt hyl]; exact hn
      have hz : (n, v) ∈ F.pn.zip vs := List.mem_of_getElem? (List.getElem?_zip_eq_some.mpr ⟨hyn, hv⟩)
      have hmap : ((F.pn.zip vs).map (·.1)).Nodup := by rw [List.map_fst_zip (by omega)]; exact hnd
      refine ⟨v, ?_, e2⟩
      have kn : env.kindOf n = F.scope.names.lookup n := by unfold Env.kindOf; rw [eS]
      rcases gpn n (List.mem_of_getElem? hyn) with e | e
      · exact .inl ⟨by rw [eS]; exact e, _, x.toInCall.ns, bindL_get (by rw [kn, e]) _ _ hmap hz⟩
      · obtain ⟨a, ha⟩ := eo.cells n (by rw [hks]; exact e)
        refine .inr ⟨by rw [eS]; exact e, a, ha, ?_⟩
        have := x.cell n a ha
        rw [bindC_get (by rw [kn, e]; decide) _ _ hmap hz] at this
        exact this
    have inv : Inv G0 fa d fs N S B F.cx env (A.deeper env) (argsOf F args) (fun _ => 0) S D h' :=
      ⟨⟨hfs, eo, room.deeper env, ⟨le, fun a o e => hk a o (sub a o e), dl.grew hk⟩, fit⟩, Le.refl _, fun a o e => .inl e, fun a o e => hk a o (Bs a o e).2, fun a o e => (Bs a o e).1, ⟨_, x.toInCall.ns⟩, Bn _ Lf, S_none sub Lf,
        fun n a e => ⟨⟨_, x.cell n a e⟩, Bn _ (cf n a e), S_none sub (cf n a e)⟩, fun n n' a e e' => name_of_addr x.apart (mem_of_lookup e) (mem_of_lookup e'), fun y hy xs e => (argsOf_own e).elim⟩
    have toExt : ∀ {σ' : Sg} {ad' : Nat → Addr} {S' : Frz} {D' : DS} {h'' : Heap}, Inv G0 fa d fs N S B F.cx env (A.deeper env) σ' ad' S' D' h'' → Ext d S s.heap S' h'' := by
      intro σ' ad' S' D' h'' i'
      refine ⟨i'.le, i'.run.ok.sub, fun a o e => ?_, fun a o n e => i'.sub a o (Bi a o n e), fun a e => ?_⟩
      · rcases i'.new a o e with z | z
        · exact .inl z
        · refine .inr ?_
          by_cases q : some a = d
          · have := (i'.run.ok.deal a q.symm).1
            rw [e] at this; cases this
          · have z' : (if some a = d then none else s.heap.get? a) = none := z
            rw [if_neg q] at z'; exact z'
      · by_cases q : some a = d
        · obtain ⟨_, _, _, _, o, h1, _⟩ := i'.run.ok.deal a q.symm
          rw [e] at h1; cases h1
        · cases z : s.heap.get? a with
          | none => rfl
          | some o => rw [i'.sub a o (Bi a o q z)] at e; cases e
    exact wpAny_mono (body env (A.deeper env) B _ h' tk inv toExt (fun hd a o e => Bi a o (by rw [hd]; simp) e)) (fun f s' h => h) fun _ _ e => e.elim

theorem fn_sound (GL : Globs G0 fs fa) (hall : ∀ k, ∃ o fd, G0 (fa k) = some o ∧ o.data = .func fd) {k : Nat} {F : Fn} (at' : FnAt G0 (fa k) F) (hfs : F.cx.fs = fs) (good : F.good = true) {args : List PV} (hlen : args.length = F.pn.length) {D : DS} {Q : PV → DS → Prop}
    (hw : wpSs (CallOK prog w G0 d fa N) F.mini (argsOf F args) D fun fl _ D' => match fl with | .ret p => Q p D' | .next => False) : CallOK prog w G0 d fa (N + 1) k args D Q := by
  intro A S s vs R room le sub dl rs post
  refine fn_enter GL at' hfs good hlen room le sub dl rs fun env A' B ad h' tk inv toExt _ => ?_
  have gok : okSs F.mini F.cx F.body = true := by
    unfold Fn.good at good
    simp only [Bool.and_eq_true] at good
    exact good.1
  refine sound_ss GL hall F.mini (s := { s with heap := h', toks := tk }) gok inv hw (R := fun f s' => R (match f with | .ret v => v | _ => .none) s') fun f fl σ' ad' S' D' h'' tk'' i' hf q => ?_
  cases fl with
  | next => exact q.elim
  | ret p =>
    obtain ⟨v, rfl, rp⟩ := hf
    exact post v p S' D' h'' tk'' (toExt i') i'.run.ok.deal rp q

theorem sxs_then (GL : Globs G0 fs fa) (hall : ∀ k, ∃ o fd, G0 (fa k) = some o ∧ o.data = .func fd) {S0 B : Frz} {c : Cx} {ys : List Stmt} {env : Env} {A : Around} {Q : Fl → Sg → DS → Prop} {R : Flow → Shared → Prop} (hQ : ∀ p σ' D', ¬ Q (.ret p) σ' D') :
    ∀ (ms : MSs) {init : List Stmt} {σ : Sg} {ad : Nat → Addr} {S : Frz} {D : DS} {s : Shared}, okSs ms c init = true → Inv G0 fa d fs N S0 B c env A σ ad S D s.heap → wpSs (CallOK prog w G0 d fa N) ms σ D Q →
    (∀ σ' ad' S' D' h' tk', Inv G0 fa d fs N S0 B c env A σ' ad' S' D' h' → Q .next σ' D' → wpAny (model prog w) A (execs ys env) R (fun _ _ => False) { s with heap := h', toks := tk' }) → wpAny (model prog w) A (execs (init ++ ys) env) R (fun _ _ => False) s
  | .nil, init, σ, ad, S, D, s, ok, i, hw, k => by
    apply l0_e ok
    exact k σ ad S D s.heap s.toks i hw
  | .cons ms r, init, σ, ad, S, D, s, ok, i, hw, k => by
    apply lc_e ok; intro st sts ok
    show wpAny _ A (execs (st :: (sts ++ ys)) env) R _ s
    refine wpAny_execs_cons (sound_s GL hall ms (an ok).1 i hw fun f fl σ' ad' S' D' h' tk' i' hf q => ?_)
    cases fl with
    | next =>
      have hf : f = .next := hf
      subst hf
      exact sxs_then GL hall hQ r (s := { s with heap := h', toks := tk' }) (an ok).2 i' q k
    | ret pv => exact (hQ _ _ _ q).elim
  | .frz x r, init, σ, ad, S, D, s, ok, i, hw, k => by
    have ok' : (c.vis.contains x && okSs r c init) = true := ok
    simp only [Bool.and_eq_true, List.contains_iff_mem] at ok'
    obtain ⟨xs, e0, hw⟩ := asSome_inv hw
    obtain ⟨S', i'⟩ := freeze_own i ok'.1 (go_inv e0)
    exact sxs_then GL hall hQ r ok'.2 i' hw k

/-- what a call hands on that ends with a list of its own -/
noncomputable def OwnOK (prog : Program) (w : World) (G0 : Frz) (d : Option Addr) (fa : Nat → Addr) (N : Nat) (k : Nat) (args : List PV) (D : DS) (Q : List PV → DS → Prop) : Prop :=
  ∀ (A : Around) (S : Frz) (s : Shared) (vs : List Value) (R : Value → Shared → Prop), Room A N → Le G0 S → Sub S s.heap → DealAt d fa D S s.heap → Reps d fa S vs args →
    PostO d fa S s Q R → wpAny (model prog w) A (call (.ref (fa k)) vs []) R (fun _ _ => False) s

theorem fn_own (GL : Globs G0 fs fa) (hall : ∀ k, ∃ o fd, G0 (fa k) = some o ∧ o.data = .func fd) {k : Nat} {F : Fn} (at' : FnAt G0 (fa k) F) (hfs : F.cx.fs = fs) (good : F.good = true) {args : List PV} (hlen : args.length = F.pn.length) {D : DS} {Q : List PV → DS → Prop}
    {ms : MSs} {me : ME} {init : List Stmt} {v : Expr} {pos : Pos} (hb : F.body = init ++ [.Return (some v) pos]) (ok1 : okSs ms F.cx init = true) (ok2 : okE me F.cx v = true) (hf : isFresh me = true)
    (hw : wpSs (CallOK prog w G0 d fa N) ms (argsOf F args) D fun fl σ' D' => match fl with | .next => wpE (CallOK prog w G0 d fa N) me σ' D' (fun v D'' => asList v fun xs => Q xs D'') | .ret _ => False) : OwnOK prog w G0 d fa (N + 1) k args D Q := by
  intro A S s vs R room le sub dl rs post
  refine fn_enter GL at' hfs good hlen room le sub dl rs fun env A' B ad h' tk inv toExt _ => ?_
  rw [hb]
  refine sxs_then GL hall (fun p σ' D' h => h) ms (s := { s with heap := h', toks := tk }) ok1 inv hw fun σ' ad' S' D' h1 tk1 i1 q => ?_
  refine wpAny_execs_cons (wpAny_Return_some (sound_o GL hall me hf (s := { s with heap := h1, toks := tk1 }) ok2 i1.run q fun a xs o vs k S2 D2 h2 tk2 x2 dl2 fr hS ho hc hd rs2 hl q2 => ?_))
  exact post a xs o vs k S2 D2 h2 tk2 ((toExt i1).trans x2) dl2 ((toExt i1).dom a fr) hS ho hc hd rs2 hl q2
end
end Mine
end

section
open PySem PySem.W PyProof.Rows
namespace Mine

section
variable {d : Option Addr} {fa : Nat → Addr} {S : Frz}
theorem Rep.thaw {v : Value} {p : PV} (h : Rep none fa S v p) : Rep d fa S v p :=
  Rep.rec (motive_1 := fun v p _ => Rep d fa S v p) (motive_2 := fun vs ps _ => Reps d fa S vs ps) (fun i t => .int i t) (fun b => .bool b) (fun h1 h2 h3 h4 _ h => .list h1 h2 h3 h4 h) (fun h1 h2 h3 h4 _ h => .tup h1 h2 h3 h4 h) (fun k => .fn k) (fun h => by cases h) .nil (fun _ _ x y => .cons x y) h
theorem Reps.thaw {vs : List Value} {ps : List PV} (h : Reps none fa S vs ps) : Reps d fa S vs ps := h.ind .nil fun x y => .cons x.thaw y
end

section
variable {prog : Program} {w : World} {G0 : Frz} {fa : Nat → Addr} {fs : List Str} {N : Nat}

theorem thaw {S0 B : Frz} {c : Cx} {env : Env} {A : Around} {σ : Sg} {ad : Nat → Addr} {S : Frz} {D : DS} {h : Heap} (i : Inv G0 fa none fs N S0 B c env A σ ad S D h) {x : Nat} (hx : x ∈ c.vis) {xs : List PV} (hσ : σ[x]? = some (.own xs))
    (only : ∀ y ys, σ[y]? = some (.own ys) → y = x) : Inv G0 fa (some (ad x)) fs N S0 B c env A (σ.set x (.v .deal)) ad S xs h := by
  obtain ⟨n, hn⟩ := i.run.eo.named x hx
  obtain ⟨q1, q2, q3, q4, o, vs, kk, q5, q6, q7, q8⟩ := i.run.fit.own x hx n xs hn hσ
  refine ⟨⟨i.run.hfs, i.run.eo, i.run.room, ⟨i.run.ok.g, i.run.ok.sub, fun a e => ?_⟩, ⟨fun y hy n' p h1 h2 => ?_, fun y hy n' ys h1 h2 => ?_, fun y hy y' hy' ys ys' e1 e2 q => ?_⟩⟩, i.le, i.new, i.sub, fun a o' e q => ?_, i.ns, i.lB, i.lS, i.cel, i.capart, fun y hy ys e => ?_⟩
  · cases e
    exact ⟨q3, q2, vs, kk, o, q5, q6.1, q7, q8.thaw⟩
  · rcases set_get_inv h2 with ⟨rfl, e⟩ | ⟨hne, e⟩
    · cases e
      have en : n' = n := Option.some.inj (h1.symm.trans hn)
      subst en
      exact ⟨_, q1, .deal rfl⟩
    · obtain ⟨v, a, b⟩ := i.run.fit.val y hy n' p h1 e
      exact ⟨v, a, b.thaw⟩
  · rcases set_get_inv h2 with ⟨rfl, e⟩ | ⟨hne, e⟩
    · cases e
    · exact absurd (only y ys e) hne
  · rcases set_get_inv e1 with ⟨rfl, e⟩ | ⟨hne, e⟩
    · cases e
    · exact absurd (only y ys e) hne
  · cases q
    rw [i.ownB x hx xs hσ] at e; cases e
  · rcases set_get_inv e with ⟨rfl, e1⟩ | ⟨hne, e1⟩
    · cases e1
    · exact absurd (only y ys e1) hne

/-- the law: its first line deals, the rest works on the dealt list -/
theorem law_sound (GL : Globs G0 fs fa) (hall : ∀ k, ∃ o fd, G0 (fa k) = some o ∧ o.data = .func fd) {k kd x : Nat} {F : Fn} (at' : FnAt G0 (fa k) F) (hfs : F.cx.fs = fs) (good : F.good = true) (hp : F.pn.length = 1)
    {me : MEs} {ms : MSs} {np fp ap pos : Pos} {nd id : Str} {e1 : Expr} {es : List Expr} {rest : List Stmt} (hb : F.body = .Assign [.Name nd np] (.Call (.Name id fp) (e1 :: es) [] ap) pos :: rest) (o1 : F.cx.isVar x nd = true) (o2 : F.cx.isFn kd id = true) (o3 : okEs me F.cx (e1 :: es) = true) (o4 : okSs ms F.cx rest = true) (hx : x < F.nv) (hx1 : x ≠ 0)
    {arg : PV} {Q : List PV → Prop} (hdeal : wpEs (CallOK prog w G0 none fa N) me (argsOf F [arg]) [] fun vs _ => OwnOK prog w G0 none fa N kd vs [] fun xs _ => Q xs)
    (hrest : ∀ z xs, Q xs → wpSs (CallOK prog w G0 (some z) fa N) ms ((argsOf F [arg]).set x (.v .deal)) xs fun fl _ _ => match fl with | .ret (.bool true) => True | _ => False)
    {A : Around} {S : Frz} {s : Shared} {v : Value} {R : Value → Shared → Prop} (room : Room A (N + 1)) (le : Le G0 S) (sub : Sub S s.heap) (rs : Rep none fa S v arg)
    (post : ∀ h' tk', Grew s.heap h' → R (.bool true) { s with heap := h', toks := tk' }) : wpAny (model prog w) A (call (.ref (fa k)) [v] []) R (fun _ _ => False) s := by
  have noDeal : ∀ {S : Frz} {h : Heap} {D : DS}, DealAt none fa D S h := fun a e => by cases e
  refine fn_enter GL at' hfs good (args := [arg]) (by rw [hp]; rfl) room le sub (D := []) noDeal (.cons rs .nil) fun env A' B ad h' tk inv toExt keep => ?_
  rw [hb]
  obtain ⟨xv, xn, _⟩ := isVar_inv o1
  refine wpAny_execs_cons (wpAny_Assign_Name (Call_Name rfl (fn_name (s := { s with heap := h', toks := tk }) GL inv.run o2 ?_)) rfl)
  obtain ⟨o, fd, g1, g2⟩ := hall kd
  refine Calls.callWith_function (o := o) (fd := fd) (SEs.args (sound_es GL hall me) (s := { s with heap := h', toks := tk }) o3 inv.run hdeal fun vs ps S1 D1 h1 tk1 x1 rs1 r1 q => ⟨⟨r1.ok.sub _ _ (r1.ok.g _ _ g1), g2⟩, ?_⟩)
  have i1 := inv.ext x1 r1.ok.deal
  refine q A' S1 { s with heap := h1, toks := tk1 } vs _ r1.room r1.ok.g r1.ok.sub noDeal rs1 fun a xs o vs k S2 D2 h2 tk2 x2 dl2 fr hS ho hc hd rs2 hl q2 => ?_
  have i2 := i1.ext x2 dl2
  have aB : B a = none := none_B i1.sub fr
  refine store_var (s := { s with heap := h2, toks := tk2 }) i2 o1 (l := .own xs) (a := a) ⟨rfl, hl, hS, by simp, aB, o, vs, k, ho, hc, hd, rs2⟩ (fun _ _ y _ _ ys e => (argsOf_own e).elim) fun h3 tk3 i3 _ _ => ?_
  have hσ : ((argsOf F [arg]).set x (.own xs))[x]? = some (.own xs) := by
    rw [List.getElem?_set_self]
    show x < (argsOf F [arg]).length
    unfold argsOf; simp; omega
  have i4 := thaw i3 xv hσ fun y ys e => by
    rcases set_get_inv e with ⟨rfl, _⟩ | ⟨_, e⟩
    · rfl
    · exact (argsOf_own e).elim
  rw [List.set_set] at i4
  refine sound_ss GL hall ms (s := { s with heap := h3, toks := tk3 }) o4 i4 (hrest _ xs q2) fun f fl σ' ad' S' D' h'' tk'' i' hf q => ?_
  cases fl with
  | next => exact q.elim
  | ret p =>
    obtain ⟨v, rfl, rp⟩ := hf
    cases p with
    | bool b =>
      cases b with
      | true =>
        cases rp.bool_inv
        exact post h'' tk'' fun a o e => i'.sub a o (keep rfl a o e)
      | false => exact q.elim
    | _ => exact q.elim
end
end Mine
end

section
open PySem PySem.W PyProof.Rows
set_option maxRecDepth 100000
namespace Mine

noncomputable def defAt (i : Nat) : DefRec := match PySem.Challenge.pw_nz0086_01.main.body[i]? with
  | some (.FunctionDef name args body _ _ _ scope _ _ pos) => ⟨name, args, body, scope, pos⟩
  | _ => ⟨Str.empty, { posonlyargs := [], args := [], vararg := none, kwonlyargs := [], kw_defaults := [], kwarg := none, defaults := [] }, [], { kind := .function, names := [], isGenerator := false, isCoroutine := false, more := [] }, ⟨0, 0, 0, 0⟩⟩

noncomputable def fsN : List Str := (["normal", "nat_of", "compare", "add", "sub", "shift_left", "shift_right", "bits", "low", "ring_one", "ring_add", "ring_sub", "ring_neg", "ring_fold", "ring_shift", "ring_mul", "forward", "backward", "convolved", "weighted", "in_pieces", "put_together", "signed_sum", "root_powers", "turned_about", "element_of", "mul_school", "_law_deal", "_law_take", "_law_great", "_law_row", "_law_value", "_law_element", "_law_same", "_law_power", "_law_turned", "_law_values_right", "_law_round_right", "_law_pieces_right", "law"] : List String).map Str.ofString
-- 0: normal
noncomputable def c0x0 : ME := (.and (.cmp .gt (.var 1) (.int 0)) (.cmp .eq (.idxv 0 (.bin .sub (.var 1) (.int 1))) (.int 0)))
noncomputable def b0x0 : MSs := (.cons (.aug 1 .sub (.int 1)) .nil)
noncomputable def mini0 : MSs := (.cons (.asg 1 (.val (.lenv 0))) (.cons (.whileS c0x0 b0x0) (.cons (.ret (.sliceTo 0 (.var 1))) .nil)))
noncomputable def fn0 : Fn := { pn := ["a"], params := (defAt 3).params, body := (defAt 3).body, scope := (defAt 3).scope, mini := mini0, nv := 2, cx := { nm := ["a", "end"], vis := [0, 1], ks := (defAt 3).scope.names, fs := fsN } }
theorem good0 : fn0.good = true := by decide +kernel
-- 1: nat_of
noncomputable def c1x0 : ME := (.cmp .gt (.var 0) (.int 0))
noncomputable def b1x0 : MSs := (.cons (.app 2 (.bin .band (.var 0) (.var 3))) (.cons (.aug 0 .shr (.var 1)) .nil))
noncomputable def mini1 : MSs := (.cons (.ifS (.cmp .lt (.var 0) (.int 0)) (.cons .fail .nil) .nil) (.cons (.asgT (.cons 2 (.own (.list .nil)) (.cons 3 (.val (.bin .sub (.bin .shl (.int 1) (.var 1)) (.int 1))) .nil))) (.cons (.whileS c1x0 b1x0) (.frz 2 (.cons (.ret (.var 2)) .nil)))))
noncomputable def fn1 : Fn := { pn := ["number", "w"], params := (defAt 4).params, body := (defAt 4).body, scope := (defAt 4).scope, mini := mini1, nv := 4, cx := { nm := ["number", "w", "found", "mask"], vis := [0, 1, 2, 3], ks := (defAt 4).scope.names, fs := fsN } }
theorem good1 : fn1.good = true := by decide +kernel
-- 2: compare
noncomputable def b2x0 : MSs := (.cons (.ifS (.cmp .ne (.idxv 0 (.var 2)) (.idxv 1 (.var 2))) (.cons (.ret (.ite (.cmp .lt (.idxv 0 (.var 2)) (.idxv 1 (.var 2))) (.neg (.int 1)) (.int 1))) .nil) .nil) .nil)
noncomputable def mini2 : MSs := (.cons (.ifS (.cmp .ne (.lenv 0) (.lenv 1)) (.cons (.ret (.ite (.cmp .lt (.lenv 0) (.lenv 1)) (.neg (.int 1)) (.int 1))) .nil) .nil) (.cons (.forS (.one 2) (.range3 (.bin .sub (.lenv 0) (.int 1)) (.neg (.int 1)) (.neg (.int 1))) b2x0) (.cons (.ret (.int 0)) .nil)))
noncomputable def fn2 : Fn := { pn := ["a", "b"], params := (defAt 5).params, body := (defAt 5).body, scope := (defAt 5).scope, mini := mini2, nv := 3, cx := { nm := ["a", "b", "at"], vis := [0, 1, 2], ks := (defAt 5).scope.names, fs := fsN } }
theorem good2 : fn2.good = true := by decide +kernel
-- 3: add
noncomputable def b3x0 : MSs := (.cons (.aug 4 .add (.bin .add (.idxv 0 (.var 6)) (.idxv 1 (.var 6)))) (.cons (.app 3 (.bin .band (.var 4) (.var 5))) (.cons (.aug 4 .shr (.var 2)) .nil)))
noncomputable def b3x1 : MSs := (.cons (.aug 4 .add (.idxv 0 (.var 6))) (.cons (.app 3 (.bin .band (.var 4) (.var 5))) (.cons (.aug 4 .shr (.var 2)) .nil)))
noncomputable def mini3 : MSs := (.cons (.ifS (.cmp .lt (.lenv 0) (.lenv 1)) (.cons (.asgT (.cons 0 (.val (.var 1)) (.cons 1 (.val (.var 0)) .nil))) .nil) .nil) (.cons (.asgT (.cons 3 (.own (.list .nil)) (.cons 4 (.val (.int 0)) (.cons 5 (.val (.bin .sub (.bin .shl (.int 1) (.var 2)) (.int 1))) .nil)))) (.cons (.forS (.one 6) (.range1 (.lenv 1)) b3x0) (.cons (.forS (.one 6) (.range2 (.lenv 1) (.lenv 0)) b3x1) (.cons (.ifS (.cmp .gt (.var 4) (.int 0)) (.cons (.app 3 (.var 4)) .nil) .nil) (.frz 3 (.cons (.ret (.var 3)) .nil)))))))
noncomputable def fn3 : Fn := { pn := ["a", "b", "w"], params := (defAt 6).params, body := (defAt 6).body, scope := (defAt 6).scope, mini := mini3, nv := 7, cx := { nm := ["a", "b", "w", "found", "carry", "mask", "at"], vis := [0, 1, 2, 3, 4, 5, 6], ks := (defAt 6).scope.names, fs := fsN } }
theorem good3 : fn3.good = true := by decide +kernel
-- 4: sub
noncomputable def b4x0 : MSs := (.cons (.asg 7 (.val (.bin .sub (.bin .sub (.idxv 0 (.var 6)) (.var 4)) (.ite (.cmp .lt (.var 6) (.lenv 1)) (.idxv 1 (.var 6)) (.int 0))))) (.cons (.asg 4 (.val (.ite (.cmp .lt (.var 7) (.int 0)) (.int 1) (.int 0)))) (.cons (.app 3 (.ite (.cmp .lt (.var 7) (.int 0)) (.bin .add (.var 7) (.var 5)) (.var 7))) .nil)))
noncomputable def mini4 : MSs := (.cons (.ifS (.cmp .lt (.call 2 (.cons (.var 0) (.cons (.var 1) .nil))) (.int 0)) (.cons .fail .nil) .nil) (.cons (.asgT (.cons 3 (.own (.list .nil)) (.cons 4 (.val (.int 0)) (.cons 5 (.val (.bin .shl (.int 1) (.var 2))) .nil)))) (.cons (.forS (.one 6) (.range1 (.lenv 0)) b4x0) (.frz 3 (.cons (.ret (.call 0 (.cons (.var 3) .nil))) .nil)))))
noncomputable def fn4 : Fn := { pn := ["a", "b", "w"], params := (defAt 7).params, body := (defAt 7).body, scope := (defAt 7).scope, mini := mini4, nv := 8, cx := { nm := ["a", "b", "w", "found", "borrow", "base", "at", "limb"], vis := [0, 1, 2, 3, 4, 5, 6, 7], ks := (defAt 7).scope.names, fs := fsN } }
theorem good4 : fn4.good = true := by decide +kernel
-- 5: shift_left
noncomputable def b5x0 : MSs := (.cons (.aug 6 .bor (.bin .shl (.var 8) (.var 4))) (.cons (.app 5 (.bin .band (.var 6) (.var 7))) (.cons (.aug 6 .shr (.var 2)) .nil)))
noncomputable def mini5 : MSs := (.cons (.ifS (.cmp .eq (.lenv 0) (.int 0)) (.cons (.ret (.list .nil)) .nil) .nil) (.cons (.asgT (.cons 3 (.val (.bin .fdiv (.var 1) (.var 2))) (.cons 4 (.val (.bin .mod (.var 1) (.var 2))) .nil))) (.cons (.asgT (.cons 5 (.own (.rep (.int 0) (.var 3))) (.cons 6 (.val (.int 0)) (.cons 7 (.val (.bin .sub (.bin .shl (.int 1) (.var 2)) (.int 1))) .nil)))) (.cons (.forS (.one 8) (.of (.var 0)) b5x0) (.cons (.ifS (.cmp .gt (.var 6) (.int 0)) (.cons (.app 5 (.var 6)) .nil) .nil) (.frz 5 (.cons (.ret (.var 5)) .nil)))))))
noncomputable def fn5 : Fn := { pn := ["a", "n", "w"], params := (defAt 8).params, body := (defAt 8).body, scope := (defAt 8).scope, mini := mini5, nv := 9, cx := { nm := ["a", "n", "w", "spots", "few", "found", "carry", "mask", "one"], vis := [0, 1, 2, 3, 4, 5, 6, 7, 8], ks := (defAt 8).scope.names, fs := fsN } }
theorem good5 : fn5.good = true := by decide +kernel
-- 6: shift_right
noncomputable def b6x0 : MSs := (.cons (.asg 8 (.val (.ite (.cmp .lt (.bin .add (.var 7) (.int 1)) (.lenv 0)) (.idxv 0 (.bin .add (.var 7) (.int 1))) (.int 0)))) (.cons (.app 5 (.bin .band (.bin .bor (.bin .shr (.idxv 0 (.var 7)) (.var 4)) (.bin .shl (.var 8) (.bin .sub (.var 2) (.var 4)))) (.var 6))) .nil))
noncomputable def mini6 : MSs := (.cons (.asgT (.cons 3 (.val (.bin .fdiv (.var 1) (.var 2))) (.cons 4 (.val (.bin .mod (.var 1) (.var 2))) .nil))) (.cons (.asgT (.cons 5 (.own (.list .nil)) (.cons 6 (.val (.bin .sub (.bin .shl (.int 1) (.var 2)) (.int 1))) .nil))) (.cons (.forS (.one 7) (.range2 (.var 3) (.lenv 0)) b6x0) (.frz 5 (.cons (.ret (.call 0 (.cons (.var 5) .nil))) .nil)))))
noncomputable def fn6 : Fn := { pn := ["a", "n", "w"], params := (defAt 9).params, body := (defAt 9).body, scope := (defAt 9).scope, mini := mini6, nv := 9, cx := { nm := ["a", "n", "w", "spots", "few", "found", "mask", "at", "above"], vis := [0, 1, 2, 3, 4, 5, 6, 7, 8], ks := (defAt 9).scope.names, fs := fsN } }
theorem good6 : fn6.good = true := by decide +kernel
-- 7: bits
noncomputable def mini7 : MSs := (.cons (.ret (.ite (.cmp .gt (.lenv 0) (.int 0)) (.bin .add (.bin .mul (.bin .sub (.lenv 0) (.int 1)) (.var 1)) (.bitlen (.idxv 0 (.neg (.int 1))))) (.int 0))) .nil)
noncomputable def fn7 : Fn := { pn := ["a", "w"], params := (defAt 10).params, body := (defAt 10).body, scope := (defAt 10).scope, mini := mini7, nv := 2, cx := { nm := ["a", "w"], vis := [0, 1], ks := (defAt 10).scope.names, fs := fsN } }
theorem good7 : fn7.good = true := by decide +kernel
-- 8: low
noncomputable def mini8 : MSs := (.cons (.asgT (.cons 3 (.val (.bin .fdiv (.var 1) (.var 2))) (.cons 4 (.val (.bin .mod (.var 1) (.var 2))) .nil))) (.cons (.ifS (.cmp .ge (.var 3) (.lenv 0)) (.cons (.ret (.sliceAll 0)) .nil) .nil) (.cons (.ret (.call 0 (.cons (.bin .add (.sliceTo 0 (.var 3)) (.list (.cons (.bin .band (.idxv 0 (.var 3)) (.bin .sub (.bin .shl (.int 1) (.var 4)) (.int 1))) .nil))) .nil))) .nil)))
noncomputable def fn8 : Fn := { pn := ["a", "n", "w"], params := (defAt 11).params, body := (defAt 11).body, scope := (defAt 11).scope, mini := mini8, nv := 5, cx := { nm := ["a", "n", "w", "spots", "few"], vis := [0, 1, 2, 3, 4], ks := (defAt 11).scope.names, fs := fsN } }
theorem good8 : fn8.good = true := by decide +kernel
-- 9: ring_one
noncomputable def mini9 : MSs := (.cons (.ret (.call 3 (.cons (.call 5 (.cons (.list (.cons (.int 1) .nil)) (.cons (.var 0) (.cons (.var 1) .nil)))) (.cons (.list (.cons (.int 1) .nil)) (.cons (.var 1) .nil))))) .nil)
noncomputable def fn9 : Fn := { pn := ["n", "w"], params := (defAt 13).params, body := (defAt 13).body, scope := (defAt 13).scope, mini := mini9, nv := 2, cx := { nm := ["n", "w"], vis := [0, 1], ks := (defAt 13).scope.names, fs := fsN } }
theorem good9 : fn9.good = true := by decide +kernel
-- 10: ring_add
noncomputable def mini10 : MSs := (.cons (.asg 4 (.val (.call 3 (.cons (.var 0) (.cons (.var 1) (.cons (.var 3) .nil)))))) (.cons (.ret (.ite (.and (.cmp .gt (.call 7 (.cons (.var 4) (.cons (.var 3) .nil))) (.var 2)) (.cmp .ge (.call 2 (.cons (.var 4) (.cons (.call 9 (.cons (.var 2) (.cons (.var 3) .nil))) .nil))) (.int 0))) (.call 4 (.cons (.var 4) (.cons (.call 9 (.cons (.var 2) (.cons (.var 3) .nil))) (.cons (.var 3) .nil)))) (.var 4))) .nil))
noncomputable def fn10 : Fn := { pn := ["a", "b", "n", "w"], params := (defAt 14).params, body := (defAt 14).body, scope := (defAt 14).scope, mini := mini10, nv := 5, cx := { nm := ["a", "b", "n", "w", "found"], vis := [0, 1, 2, 3, 4], ks := (defAt 14).scope.names, fs := fsN } }
theorem good10 : fn10.good = true := by decide +kernel
-- 11: ring_sub
noncomputable def mini11 : MSs := (.cons (.ifS (.cmp .ge (.call 2 (.cons (.var 0) (.cons (.var 1) .nil))) (.int 0)) (.cons (.ret (.call 4 (.cons (.var 0) (.cons (.var 1) (.cons (.var 3) .nil))))) .nil) .nil) (.cons (.ret (.call 4 (.cons (.call 3 (.cons (.var 0) (.cons (.call 9 (.cons (.var 2) (.cons (.var 3) .nil))) (.cons (.var 3) .nil)))) (.cons (.var 1) (.cons (.var 3) .nil))))) .nil))
noncomputable def fn11 : Fn := { pn := ["a", "b", "n", "w"], params := (defAt 15).params, body := (defAt 15).body, scope := (defAt 15).scope, mini := mini11, nv := 4, cx := { nm := ["a", "b", "n", "w"], vis := [0, 1, 2, 3], ks := (defAt 15).scope.names, fs := fsN } }
theorem good11 : fn11.good = true := by decide +kernel
-- 12: ring_neg
noncomputable def mini12 : MSs := (.cons (.ret (.ite (.cmp .gt (.lenv 0) (.int 0)) (.call 4 (.cons (.call 9 (.cons (.var 1) (.cons (.var 2) .nil))) (.cons (.var 0) (.cons (.var 2) .nil)))) (.list .nil))) .nil)
noncomputable def fn12 : Fn := { pn := ["a", "n", "w"], params := (defAt 16).params, body := (defAt 16).body, scope := (defAt 16).scope, mini := mini12, nv := 3, cx := { nm := ["a", "n", "w"], vis := [0, 1, 2], ks := (defAt 16).scope.names, fs := fsN } }
theorem good12 : fn12.good = true := by decide +kernel
-- 13: ring_fold
noncomputable def c13x0 : ME := (.cmp .gt (.lenv 0) (.int 0))
noncomputable def b13x0 : MSs := (.cons (.asg 5 (.val (.call 8 (.cons (.var 0) (.cons (.var 1) (.cons (.var 2) .nil)))))) (.cons (.asg 3 (.val (.ite (.var 4) (.call 11 (.cons (.var 3) (.cons (.var 5) (.cons (.var 1) (.cons (.var 2) .nil))))) (.call 10 (.cons (.var 3) (.cons (.var 5) (.cons (.var 1) (.cons (.var 2) .nil)))))))) (.cons (.asg 0 (.val (.call 6 (.cons (.var 0) (.cons (.var 1) (.cons (.var 2) .nil)))))) (.cons (.asg 4 (.val (.not (.var 4)))) .nil))))
noncomputable def mini13 : MSs := (.cons (.asgT (.cons 3 (.val (.list .nil)) (.cons 4 (.val (.bool false)) .nil))) (.cons (.whileS c13x0 b13x0) (.cons (.ret (.var 3)) .nil)))
noncomputable def fn13 : Fn := { pn := ["a", "n", "w"], params := (defAt 17).params, body := (defAt 17).body, scope := (defAt 17).scope, mini := mini13, nv := 6, cx := { nm := ["a", "n", "w", "found", "is_minus", "part"], vis := [0, 1, 2, 3, 4, 5], ks := (defAt 17).scope.names, fs := fsN } }
theorem good13 : fn13.good = true := by decide +kernel
-- 14: ring_shift
noncomputable def mini14 : MSs := (.cons (.asg 1 (.val (.bin .mod (.var 1) (.bin .mul (.int 2) (.var 2))))) (.cons (.ifS (.cmp .ge (.var 1) (.var 2)) (.cons (.ret (.call 12 (.cons (.call 14 (.cons (.var 0) (.cons (.bin .sub (.var 1) (.var 2)) (.cons (.var 2) (.cons (.var 3) .nil))))) (.cons (.var 2) (.cons (.var 3) .nil))))) .nil) .nil) (.cons (.ret (.call 13 (.cons (.call 5 (.cons (.var 0) (.cons (.var 1) (.cons (.var 3) .nil)))) (.cons (.var 2) (.cons (.var 3) .nil))))) .nil)))
noncomputable def fn14 : Fn := { pn := ["a", "k", "n", "w"], params := (defAt 18).params, body := (defAt 18).body, scope := (defAt 18).scope, mini := mini14, nv := 4, cx := { nm := ["a", "k", "n", "w"], vis := [0, 1, 2, 3], ks := (defAt 18).scope.names, fs := fsN } }
theorem good14 : fn14.good = true := by decide +kernel
-- 15: ring_mul
noncomputable def mini15 : MSs := (.cons (.ret (.call 13 (.cons (.callv 4 (.cons (.var 0) (.cons (.var 1) (.cons (.var 3) .nil)))) (.cons (.var 2) (.cons (.var 3) .nil))))) .nil)
noncomputable def fn15 : Fn := { pn := ["a", "b", "n", "w", "mul"], params := (defAt 19).params, body := (defAt 19).body, scope := (defAt 19).scope, mini := mini15, nv := 5, cx := { nm := ["a", "b", "n", "w", "mul"], vis := [0, 1, 2, 3, 4], ks := (defAt 19).scope.names, fs := fsN } }
theorem good15 : fn15.good = true := by decide +kernel
-- 16: forward
noncomputable def c16x0 : ME := (.cmp .gt (.var 4) (.int 0))
noncomputable def b16x0 : MSs := (.cons (.asgT (.cons 8 (.val (.idxv 3 (.bin .add (.var 6) (.var 7)))) (.cons 9 (.val (.idxv 3 (.bin .add (.bin .add (.var 6) (.var 4)) (.var 7)))) .nil))) (.cons (.seti 3 (.bin .add (.var 6) (.var 7)) (.call 10 (.cons (.var 8) (.cons (.var 9) (.cons (.var 1) (.cons (.var 2) .nil)))))) (.cons (.seti 3 (.bin .add (.bin .add (.var 6) (.var 4)) (.var 7)) (.call 14 (.cons (.call 11 (.cons (.var 8) (.cons (.var 9) (.cons (.var 1) (.cons (.var 2) .nil))))) (.cons (.bin .mul (.var 5) (.var 7)) (.cons (.var 1) (.cons (.var 2) .nil)))))) .nil)))
noncomputable def b16x1 : MSs := (.cons (.forS (.one 7) (.range1 (.var 4)) b16x0) .nil)
noncomputable def b16x2 : MSs := (.cons (.forS (.one 6) (.range3 (.int 0) (.lenv 3) (.bin .mul (.int 2) (.var 4))) b16x1) (.cons (.asgT (.cons 4 (.val (.bin .fdiv (.var 4) (.int 2))) (.cons 5 (.val (.bin .mul (.int 2) (.var 5))) .nil))) .nil))
noncomputable def mini16 : MSs := (.cons (.asgT (.cons 3 (.own (.sliceAll 0)) (.cons 4 (.val (.bin .fdiv (.lenv 0) (.int 2))) (.cons 5 (.val (.bin .fdiv (.bin .mul (.int 2) (.var 1)) (.lenv 0))) .nil)))) (.cons (.whileS c16x0 b16x2) (.frz 3 (.cons (.ret (.var 3)) .nil))))
noncomputable def fn16 : Fn := { pn := ["row", "n", "w"], params := (defAt 20).params, body := (defAt 20).body, scope := (defAt 20).scope, mini := mini16, nv := 10, cx := { nm := ["row", "n", "w", "found", "half", "step", "begin", "at", "one", "other"], vis := [0, 1, 2, 3, 4, 5, 6, 7, 8, 9], ks := (defAt 20).scope.names, fs := fsN } }
theorem good16 : fn16.good = true := by decide +kernel
-- 17: backward
noncomputable def c17x0 : ME := (.cmp .lt (.var 4) (.lenv 3))
noncomputable def b17x0 : MSs := (.cons (.asg 8 (.val (.idxv 3 (.bin .add (.var 6) (.var 7))))) (.cons (.asg 9 (.val (.call 14 (.cons (.idxv 3 (.bin .add (.bin .add (.var 6) (.var 4)) (.var 7))) (.cons (.bin .mul (.neg (.var 5)) (.var 7)) (.cons (.var 1) (.cons (.var 2) .nil))))))) (.cons (.seti 3 (.bin .add (.var 6) (.var 7)) (.call 10 (.cons (.var 8) (.cons (.var 9) (.cons (.var 1) (.cons (.var 2) .nil)))))) (.cons (.seti 3 (.bin .add (.bin .add (.var 6) (.var 4)) (.var 7)) (.call 11 (.cons (.var 8) (.cons (.var 9) (.cons (.var 1) (.cons (.var 2) .nil)))))) .nil))))
noncomputable def b17x1 : MSs := (.cons (.forS (.one 7) (.range1 (.var 4)) b17x0) .nil)
noncomputable def b17x2 : MSs := (.cons (.asg 5 (.val (.bin .fdiv (.var 1) (.var 4)))) (.cons (.forS (.one 6) (.range3 (.int 0) (.lenv 3) (.bin .mul (.int 2) (.var 4))) b17x1) (.cons (.asg 4 (.val (.bin .mul (.int 2) (.var 4)))) .nil)))
noncomputable def e17x0 : ME := (.call 14 (.cons (.var 11) (.cons (.neg (.var 10)) (.cons (.var 1) (.cons (.var 2) .nil)))))
noncomputable def mini17 : MSs := (.cons (.asgT (.cons 3 (.own (.sliceAll 0)) (.cons 4 (.val (.int 1)) .nil))) (.cons (.whileS c17x0 b17x2) (.cons (.asg 10 (.val (.bin .sub (.bitlen (.lenv 0)) (.int 1)))) (.frz 3 (.cons (.ret (.comp e17x0 (.one 11) (.of (.var 3)))) .nil)))))
noncomputable def fn17 : Fn := { pn := ["row", "n", "w"], params := (defAt 21).params, body := (defAt 21).body, scope := (defAt 21).scope, mini := mini17, nv := 12, cx := { nm := ["row", "n", "w", "found", "half", "step", "begin", "at", "one", "other", "less", "one"], vis := [0, 1, 2, 3, 4, 5, 6, 7, 8, 9, 10], ks := (defAt 21).scope.names, fs := fsN } }
theorem good17 : fn17.good = true := by decide +kernel
-- 18: convolved
noncomputable def e18x0 : ME := (.call 15 (.cons (.var 7) (.cons (.var 8) (.cons (.var 2) (.cons (.var 3) (.cons (.var 4) .nil))))))
noncomputable def mini18 : MSs := (.cons (.asgT (.cons 5 (.val (.call 16 (.cons (.var 0) (.cons (.var 2) (.cons (.var 3) .nil))))) (.cons 6 (.val (.call 16 (.cons (.var 1) (.cons (.var 2) (.cons (.var 3) .nil))))) .nil))) (.cons (.ret (.call 17 (.cons (.comp e18x0 (.two 7 8) (.zip (.var 5) (.var 6))) (.cons (.var 2) (.cons (.var 3) .nil))))) .nil))
noncomputable def fn18 : Fn := { pn := ["one", "other", "n", "w", "mul"], params := (defAt 22).params, body := (defAt 22).body, scope := (defAt 22).scope, mini := mini18, nv := 9, cx := { nm := ["one", "other", "n", "w", "mul", "left", "right", "a", "b"], vis := [0, 1, 2, 3, 4, 5, 6], ks := (defAt 22).scope.names, fs := fsN } }
theorem good18 : fn18.good = true := by decide +kernel
-- 19: weighted
noncomputable def e19x0 : ME := (.call 14 (.cons (.var 5) (.cons (.bin .mul (.var 1) (.var 4)) (.cons (.var 2) (.cons (.var 3) .nil)))))
noncomputable def mini19 : MSs := (.cons (.ret (.comp e19x0 (.two 4 5) (.enum (.var 0)))) .nil)
noncomputable def fn19 : Fn := { pn := ["row", "step", "n", "w"], params := (defAt 23).params, body := (defAt 23).body, scope := (defAt 23).scope, mini := mini19, nv := 6, cx := { nm := ["row", "step", "n", "w", "at", "one"], vis := [0, 1, 2, 3], ks := (defAt 23).scope.names, fs := fsN } }
theorem good19 : fn19.good = true := by decide +kernel
-- 20: in_pieces
noncomputable def b20x0 : MSs := (.cons (.app 4 (.call 8 (.cons (.var 0) (.cons (.var 1) (.cons (.var 3) .nil))))) (.cons (.asg 0 (.val (.call 6 (.cons (.var 0) (.cons (.var 1) (.cons (.var 3) .nil)))))) .nil))
noncomputable def mini20 : MSs := (.cons (.asg 4 (.own (.list .nil))) (.cons (.forS (.one 5) (.range1 (.var 2)) b20x0) (.frz 4 (.cons (.ret (.var 4)) .nil))))
noncomputable def fn20 : Fn := { pn := ["a", "size", "pieces", "w"], params := (defAt 24).params, body := (defAt 24).body, scope := (defAt 24).scope, mini := mini20, nv := 6, cx := { nm := ["a", "size", "pieces", "w", "found", "turn"], vis := [0, 1, 2, 3, 4, 5], ks := (defAt 24).scope.names, fs := fsN } }
theorem good20 : fn20.good = true := by decide +kernel
-- 21: put_together
noncomputable def b21x0 : MSs := (.cons (.asg 3 (.val (.call 3 (.cons (.call 5 (.cons (.var 3) (.cons (.var 1) (.cons (.var 2) .nil)))) (.cons (.var 4) (.cons (.var 2) .nil)))))) .nil)
noncomputable def mini21 : MSs := (.cons (.asg 3 (.val (.list .nil))) (.cons (.forS (.one 4) (.of (.sliceRev 0)) b21x0) (.cons (.ret (.var 3)) .nil)))
noncomputable def fn21 : Fn := { pn := ["row", "size", "w"], params := (defAt 25).params, body := (defAt 25).body, scope := (defAt 25).scope, mini := mini21, nv := 5, cx := { nm := ["row", "size", "w", "found", "one"], vis := [0, 1, 2, 3, 4], ks := (defAt 25).scope.names, fs := fsN } }
theorem good21 : fn21.good = true := by decide +kernel
-- 22: signed_sum
noncomputable def b22x0 : MSs := (.cons (.asg 8 (.val (.cmp .ge (.call 7 (.cons (.var 7) (.cons (.var 4) .nil))) (.var 2)))) (.cons (.asg 9 (.val (.call 13 (.cons (.call 5 (.cons (.ite (.var 8) (.call 12 (.cons (.var 7) (.cons (.var 2) (.cons (.var 4) .nil)))) (.var 7)) (.cons (.bin .mul (.var 1) (.var 6)) (.cons (.var 4) .nil)))) (.cons (.var 3) (.cons (.var 4) .nil)))))) (.cons (.asg 5 (.val (.ite (.var 8) (.call 11 (.cons (.var 5) (.cons (.var 9) (.cons (.var 3) (.cons (.var 4) .nil))))) (.call 10 (.cons (.var 5) (.cons (.var 9) (.cons (.var 3) (.cons (.var 4) .nil)))))))) .nil)))
noncomputable def mini22 : MSs := (.cons (.asg 5 (.val (.list .nil))) (.cons (.forS (.two 6 7) (.enum (.var 0)) b22x0) (.cons (.ret (.var 5)) .nil)))
noncomputable def fn22 : Fn := { pn := ["row", "size", "n", "outer", "w"], params := (defAt 26).params, body := (defAt 26).body, scope := (defAt 26).scope, mini := mini22, nv := 10, cx := { nm := ["row", "size", "n", "outer", "w", "found", "at", "one", "is_minus", "part"], vis := [0, 1, 2, 3, 4, 5, 6, 7, 8, 9], ks := (defAt 26).scope.names, fs := fsN } }
theorem good22 : fn22.good = true := by decide +kernel
-- 23: root_powers
noncomputable def e23x0 : ME := (.call 14 (.cons (.list (.cons (.int 1) .nil)) (.cons (.bin .mul (.bin .fdiv (.bin .mul (.int 2) (.var 1)) (.var 0)) (.var 3)) (.cons (.var 1) (.cons (.var 2) .nil)))))
noncomputable def mini23 : MSs := (.cons (.ret (.comp e23x0 (.one 3) (.range1 (.var 0)))) .nil)
noncomputable def fn23 : Fn := { pn := ["many", "n", "w"], params := (defAt 27).params, body := (defAt 27).body, scope := (defAt 27).scope, mini := mini23, nv := 4, cx := { nm := ["many", "n", "w", "at"], vis := [0, 1, 2], ks := (defAt 27).scope.names, fs := fsN } }
theorem good23 : fn23.good = true := by decide +kernel
-- 24: turned_about
noncomputable def c24x0 : ME := (.cmp .gt (.var 1) (.int 1))
noncomputable def b24x0 : MSs := (.cons (.asg 2 (.val (.bin .add (.bin .mul (.int 2) (.var 2)) (.bin .mod (.var 0) (.int 2))))) (.cons (.asgT (.cons 0 (.val (.bin .fdiv (.var 0) (.int 2))) (.cons 1 (.val (.bin .fdiv (.var 1) (.int 2))) .nil))) .nil))
noncomputable def mini24 : MSs := (.cons (.asg 2 (.val (.int 0))) (.cons (.whileS c24x0 b24x0) (.cons (.ret (.var 2)) .nil)))
noncomputable def fn24 : Fn := { pn := ["number", "many"], params := (defAt 28).params, body := (defAt 28).body, scope := (defAt 28).scope, mini := mini24, nv := 3, cx := { nm := ["number", "many", "found"], vis := [0, 1, 2], ks := (defAt 28).scope.names, fs := fsN } }
theorem good24 : fn24.good = true := by decide +kernel
-- 25: element_of
noncomputable def mini25 : MSs := (.cons (.asg 3 (.val (.call 13 (.cons (.call 0 (.cons (.call 1 (.cons (.abs (.var 0)) (.cons (.var 2) .nil))) .nil)) (.cons (.var 1) (.cons (.var 2) .nil)))))) (.cons (.ret (.ite (.cmp .lt (.var 0) (.int 0)) (.call 12 (.cons (.var 3) (.cons (.var 1) (.cons (.var 2) .nil)))) (.var 3))) .nil))
noncomputable def fn25 : Fn := { pn := ["number", "n", "w"], params := (defAt 29).params, body := (defAt 29).body, scope := (defAt 29).scope, mini := mini25, nv := 4, cx := { nm := ["number", "n", "w", "found"], vis := [0, 1, 2, 3], ks := (defAt 29).scope.names, fs := fsN } }
theorem good25 : fn25.good = true := by decide +kernel
-- 26: mul_school
noncomputable def b26x0 : MSs := (.cons (.aug 7 .add (.bin .add (.idxv 3 (.bin .add (.var 5) (.var 8))) (.bin .mul (.var 6) (.var 9)))) (.cons (.seti 3 (.bin .add (.var 5) (.var 8)) (.bin .band (.var 7) (.var 4))) (.cons (.aug 7 .shr (.var 2)) .nil)))
noncomputable def b26x1 : MSs := (.cons (.asg 7 (.val (.int 0))) (.cons (.forS (.two 8 9) (.enum (.var 1)) b26x0) (.cons (.seti 3 (.bin .add (.var 5) (.lenv 1)) (.var 7)) .nil)))
noncomputable def mini26 : MSs := (.cons (.asgT (.cons 3 (.own (.rep (.int 0) (.bin .add (.lenv 0) (.lenv 1)))) (.cons 4 (.val (.bin .sub (.bin .shl (.int 1) (.var 2)) (.int 1))) .nil))) (.cons (.forS (.two 5 6) (.enum (.var 0)) b26x1) (.frz 3 (.cons (.ret (.call 0 (.cons (.var 3) .nil))) .nil))))
noncomputable def fn26 : Fn := { pn := ["a", "b", "w"], params := (defAt 31).params, body := (defAt 31).body, scope := (defAt 31).scope, mini := mini26, nv := 10, cx := { nm := ["a", "b", "w", "found", "mask", "at", "limb", "carry", "spot", "other"], vis := [0, 1, 2, 3, 4, 5, 6, 7, 8, 9], ks := (defAt 31).scope.names, fs := fsN } }
theorem good26 : fn26.good = true := by decide +kernel
-- 27: _law_deal
noncomputable def e27x0 : ME := (.abs (.toInt (.var 4)))
noncomputable def b27x0 : MSs := (.cons (.asg 2 (.val (.bin .mod (.bin .add (.bin .add (.bin .mul (.var 2) (.int 16807)) (.bin .mod (.var 3) (.int 1000003))) (.int 23)) (.int 2147483647)))) .nil)
noncomputable def mini27 : MSs := (.cons (.asg 1 (.val (.comp e27x0 (.one 4) (.of (.sliceTo 0 (.int 24)))))) (.cons (.asg 2 (.val (.int 54))) (.cons (.forS (.one 3) (.of (.var 1)) b27x0) (.cons (.ret (.list (.cons (.var 1) (.cons (.int 0) (.cons (.var 2) .nil))))) .nil))))
noncomputable def fn27 : Fn := { pn := ["script"], params := (defAt 33).params, body := (defAt 33).body, scope := (defAt 33).scope, mini := mini27, nv := 5, cx := { nm := ["script", "numbers", "seed", "number", "number"], vis := [0, 1, 2, 3], ks := (defAt 33).scope.names, fs := fsN } }
theorem good27 : fn27.good = true := by decide +kernel
-- 28: _law_take
noncomputable def mini28 : MSs := (.cons (.ifS (.cmp .lt (.idxv 0 (.int 1)) (.len (.idxv 0 (.int 0)))) (.cons (.setd 0 1 (.bin .add (.idxv 0 (.int 1)) (.int 1))) (.cons (.ret (.bin .mod (.idx (.idxv 0 (.int 0)) (.bin .sub (.idxv 0 (.int 1)) (.int 1))) (.var 1))) .nil)) .nil) (.cons (.setd 0 2 (.bin .mod (.bin .add (.bin .mul (.idxv 0 (.int 2)) (.int 16807)) (.int 7919)) (.int 2147483647))) (.cons (.ret (.bin .mod (.bin .fdiv (.idxv 0 (.int 2)) (.int 32)) (.var 1))) .nil)))
noncomputable def fn28 : Fn := { pn := ["deal", "many"], params := (defAt 34).params, body := (defAt 34).body, scope := (defAt 34).scope, mini := mini28, nv := 2, cx := { nm := ["deal", "many"], vis := [0, 1], ks := (defAt 34).scope.names, fs := fsN } }
theorem good28 : fn28.good = true := by decide +kernel
-- 29: _law_great
noncomputable def b29x0 : MSs := (.cons (.asg 3 (.val (.bin .add (.bin .mul (.var 3) (.int 65536)) (.call 28 (.cons (.var 0) (.cons (.int 65536) .nil)))))) .nil)
noncomputable def mini29 : MSs := (.cons (.asgT (.cons 2 (.val (.call 28 (.cons (.var 0) (.cons (.int 5) .nil)))) (.cons 3 (.val (.int 0)) .nil))) (.cons (.ifS (.cmp .lt (.var 2) (.int 2)) (.cons (.ret (.idx (.list (.cons (.bin .sub (.bin .pow (.int 2) (.var 1)) (.int 1)) (.cons (.bin .fdiv (.bin .pow (.int 2) (.var 1)) (.int 2)) .nil))) (.var 2))) .nil) .nil) (.cons (.forS (.one 4) (.range1 (.bin .add (.bin .fdiv (.var 1) (.int 16)) (.int 1))) b29x0) (.cons (.ret (.bin .mod (.var 3) (.bin .pow (.int 2) (.var 1)))) .nil))))
noncomputable def fn29 : Fn := { pn := ["deal", "size"], params := (defAt 35).params, body := (defAt 35).body, scope := (defAt 35).scope, mini := mini29, nv := 5, cx := { nm := ["deal", "size", "kind", "found", "turn"], vis := [0, 1, 2, 3, 4], ks := (defAt 35).scope.names, fs := fsN } }
theorem good29 : fn29.good = true := by decide +kernel
-- 30: _law_row
noncomputable def c30x0 : ME := (.cmp .gt (.var 0) (.int 0))
noncomputable def b30x0 : MSs := (.cons (.app 2 (.bin .mod (.var 0) (.bin .pow (.int 2) (.var 1)))) (.cons (.asg 0 (.val (.bin .fdiv (.var 0) (.bin .pow (.int 2) (.var 1))))) .nil))
noncomputable def mini30 : MSs := (.cons (.asg 2 (.own (.list .nil))) (.cons (.whileS c30x0 b30x0) (.frz 2 (.cons (.ret (.var 2)) .nil))))
noncomputable def fn30 : Fn := { pn := ["number", "w"], params := (defAt 36).params, body := (defAt 36).body, scope := (defAt 36).scope, mini := mini30, nv := 3, cx := { nm := ["number", "w", "found"], vis := [0, 1, 2], ks := (defAt 36).scope.names, fs := fsN } }
theorem good30 : fn30.good = true := by decide +kernel
-- 31: _law_value
noncomputable def t31x0 : ME := (.not (.chain .le .lt (.int 0) (.var 4) (.bin .pow (.int 2) (.var 1))))
noncomputable def e31x0 : ME := (.var 4)
noncomputable def b31x0 : MSs := (.cons (.asg 2 (.val (.bin .add (.bin .mul (.var 2) (.bin .pow (.int 2) (.var 1))) (.var 3)))) .nil)
noncomputable def mini31 : MSs := (.cons (.ifS (.or (.cmp .ne (.compIf e31x0 (.one 4) (.of (.var 0)) t31x0) (.list .nil)) (.and (.cmp .ne (.var 0) (.list .nil)) (.cmp .eq (.idxv 0 (.neg (.int 1))) (.int 0)))) (.cons (.ret (.bin .sub (.int 0) (.int 1))) .nil) .nil) (.cons (.asg 2 (.val (.int 0))) (.cons (.forS (.one 3) (.of (.sliceRev 0)) b31x0) (.cons (.ret (.var 2)) .nil))))
noncomputable def fn31 : Fn := { pn := ["row", "w"], params := (defAt 37).params, body := (defAt 37).body, scope := (defAt 37).scope, mini := mini31, nv := 5, cx := { nm := ["row", "w", "found", "limb", "limb"], vis := [0, 1, 2, 3], ks := (defAt 37).scope.names, fs := fsN } }
theorem good31 : fn31.good = true := by decide +kernel
-- 32: _law_element
noncomputable def mini32 : MSs := (.cons (.asg 2 (.val (.call 28 (.cons (.var 0) (.cons (.int 5) .nil))))) (.cons (.ret (.ite (.cmp .lt (.var 2) (.int 3)) (.idx (.list (.cons (.bin .pow (.int 2) (.var 1)) (.cons (.int 0) (.cons (.int 1) .nil)))) (.var 2)) (.call 29 (.cons (.var 0) (.cons (.var 1) .nil))))) .nil))
noncomputable def fn32 : Fn := { pn := ["deal", "n"], params := (defAt 38).params, body := (defAt 38).body, scope := (defAt 38).scope, mini := mini32, nv := 3, cx := { nm := ["deal", "n", "at"], vis := [0, 1, 2], ks := (defAt 38).scope.names, fs := fsN } }
theorem good32 : fn32.good = true := by decide +kernel
-- 33: _law_same
noncomputable def e33x0 : ME := (.call 31 (.cons (.var 3) (.cons (.var 2) .nil)))
noncomputable def mini33 : MSs := (.cons (.ret (.cmp .eq (.comp e33x0 (.one 3) (.of (.var 0))) (.var 1))) .nil)
noncomputable def fn33 : Fn := { pn := ["rows", "numbers", "w"], params := (defAt 39).params, body := (defAt 39).body, scope := (defAt 39).scope, mini := mini33, nv := 4, cx := { nm := ["rows", "numbers", "w", "row"], vis := [0, 1, 2], ks := (defAt 39).scope.names, fs := fsN } }
theorem good33 : fn33.good = true := by decide +kernel
-- 34: _law_power
noncomputable def mini34 : MSs := (.cons (.ret (.bin .mod (.bin .pow (.int 2) (.bin .mod (.var 0) (.bin .mul (.int 2) (.var 1)))) (.bin .add (.bin .pow (.int 2) (.var 1)) (.int 1)))) .nil)
noncomputable def fn34 : Fn := { pn := ["step", "n"], params := (defAt 40).params, body := (defAt 40).body, scope := (defAt 40).scope, mini := mini34, nv := 2, cx := { nm := ["step", "n"], vis := [0, 1], ks := (defAt 40).scope.names, fs := fsN } }
theorem good34 : fn34.good = true := by decide +kernel
-- 35: _law_turned
noncomputable def c35x0 : ME := (.cmp .gt (.var 1) (.int 1))
noncomputable def b35x0 : MSs := (.cons (.asgT (.cons 2 (.val (.bin .add (.bin .mul (.int 2) (.var 2)) (.bin .mod (.var 0) (.int 2)))) (.cons 0 (.val (.bin .fdiv (.var 0) (.int 2))) (.cons 1 (.val (.bin .fdiv (.var 1) (.int 2))) .nil)))) .nil)
noncomputable def mini35 : MSs := (.cons (.asg 2 (.val (.int 0))) (.cons (.whileS c35x0 b35x0) (.cons (.ret (.var 2)) .nil)))
noncomputable def fn35 : Fn := { pn := ["number", "many"], params := (defAt 41).params, body := (defAt 41).body, scope := (defAt 41).scope, mini := mini35, nv := 3, cx := { nm := ["number", "many", "found"], vis := [0, 1, 2], ks := (defAt 41).scope.names, fs := fsN } }
theorem good35 : fn35.good = true := by decide +kernel
-- 36: _law_values_right
noncomputable def e36x0 : ME := (.call 30 (.cons (.var 11) (.cons (.var 3) .nil)))
noncomputable def e36x1 : ME := (.bin .mod (.bin .mul (.var 13) (.call 34 (.cons (.bin .mul (.var 1) (.var 12)) (.cons (.var 2) .nil)))) (.var 5))
noncomputable def e36x2 : ME := (.bin .mul (.var 15) (.bin .pow (.var 9) (.var 14)))
noncomputable def b36x0 : MSs := (.cons (.asg 9 (.val (.call 34 (.cons (.bin .add (.var 1) (.bin .mul (.bin .fdiv (.bin .mul (.int 2) (.var 2)) (.var 4)) (.call 35 (.cons (.var 8) (.cons (.var 4) .nil))))) (.cons (.var 2) .nil))))) (.cons (.app 7 (.bin .mod (.sum (.comp e36x2 (.two 14 15) (.enum (.var 0)))) (.var 5))) .nil))
noncomputable def e36x3 : ME := (.call 24 (.cons (.var 16) (.cons (.var 4) .nil)))
noncomputable def e36x4 : ME := (.call 35 (.cons (.var 17) (.cons (.var 4) .nil)))
noncomputable def e36x5 : ME := (.call 34 (.cons (.bin .mul (.bin .fdiv (.bin .mul (.int 2) (.var 2)) (.var 4)) (.var 18)) (.cons (.var 2) .nil)))
noncomputable def mini36 : MSs := (.cons (.asgT (.cons 4 (.val (.lenv 0)) (.cons 5 (.val (.bin .add (.bin .pow (.int 2) (.var 2)) (.int 1))) .nil))) (.cons (.asg 6 (.val (.call 19 (.cons (.comp e36x0 (.one 11) (.of (.var 0))) (.cons (.var 1) (.cons (.var 2) (.cons (.var 3) .nil))))))) (.cons (.ifS (.not (.call 33 (.cons (.var 6) (.cons (.comp e36x1 (.two 12 13) (.enum (.var 0))) (.cons (.var 3) .nil))))) (.cons (.ret (.bool false)) .nil) .nil) (.cons (.ifS (.not (.call 33 (.cons (.call 19 (.cons (.var 6) (.cons (.neg (.var 1)) (.cons (.var 2) (.cons (.var 3) .nil))))) (.cons (.var 0) (.cons (.var 3) .nil))))) (.cons (.ret (.bool false)) .nil) .nil) (.cons (.asg 7 (.own (.list .nil))) (.cons (.forS (.one 8) (.range1 (.var 4)) b36x0) (.cons (.ifS (.cmp .ne (.comp e36x3 (.one 16) (.range1 (.var 4))) (.comp e36x4 (.one 17) (.range1 (.var 4)))) (.cons (.ret (.bool false)) .nil) .nil) (.cons (.asg 10 (.val (.comp e36x5 (.one 18) (.range1 (.var 4))))) (.frz 7 (.cons (.ret (.and (.call 33 (.cons (.call 16 (.cons (.var 6) (.cons (.var 2) (.cons (.var 3) .nil)))) (.cons (.var 7) (.cons (.var 3) .nil)))) (.call 33 (.cons (.call 23 (.cons (.var 4) (.cons (.var 2) (.cons (.var 3) .nil)))) (.cons (.var 10) (.cons (.var 3) .nil)))))) .nil))))))))))
noncomputable def fn36 : Fn := { pn := ["some", "step", "n", "w"], params := (defAt 42).params, body := (defAt 42).body, scope := (defAt 42).scope, mini := mini36, nv := 19, cx := { nm := ["some", "step", "n", "w", "many", "modulus", "rows", "due", "at", "point", "powers", "one", "at", "one", "spot", "one", "at", "at", "at"], vis := [0, 1, 2, 3, 4, 5, 6, 7, 8, 9, 10], ks := (defAt 42).scope.names, fs := fsN } }
theorem good36 : fn36.good = true := by decide +kernel
-- 37: _law_round_right
noncomputable def e37x0 : ME := (.call 30 (.cons (.var 17) (.cons (.var 4) .nil)))
noncomputable def e37x1 : ME := (.call 19 (.cons (.comp e37x0 (.one 17) (.of (.var 16))) (.cons (.var 2) (.cons (.var 3) (.cons (.var 4) .nil)))))
noncomputable def b37x0 : MSs := (.cons (.asg 15 (.val (.ite (.cmp .ge (.bin .add (.var 11) (.var 13)) (.var 5)) (.call 34 (.cons (.bin .mul (.var 2) (.var 5)) (.cons (.var 3) .nil))) (.int 1)))) (.cons (.seti 10 (.bin .mod (.bin .add (.var 11) (.var 13)) (.var 5)) (.bin .mod (.bin .add (.idxv 10 (.bin .mod (.bin .add (.var 11) (.var 13)) (.var 5))) (.bin .mul (.bin .mul (.var 12) (.var 14)) (.var 15))) (.var 6))) .nil))
noncomputable def b37x1 : MSs := (.cons (.forS (.two 13 14) (.enum (.var 1)) b37x0) .nil)
noncomputable def mini37 : MSs := (.cons (.asgT (.cons 5 (.val (.lenv 0)) (.cons 6 (.val (.bin .add (.bin .pow (.int 2) (.var 3)) (.int 1))) .nil))) (.cons (.asgU 7 8 (.comp e37x1 (.one 16) (.of (.tup (.cons (.var 0) (.cons (.var 1) .nil)))))) (.cons (.asg 9 (.val (.call 19 (.cons (.call 18 (.cons (.var 7) (.cons (.var 8) (.cons (.var 3) (.cons (.var 4) (.cons (.fnv 26) .nil)))))) (.cons (.neg (.var 2)) (.cons (.var 3) (.cons (.var 4) .nil))))))) (.cons (.asg 10 (.own (.rep (.int 0) (.var 5)))) (.cons (.forS (.two 11 12) (.enum (.var 0)) b37x1) (.frz 10 (.cons (.ret (.call 33 (.cons (.var 9) (.cons (.var 10) (.cons (.var 4) .nil))))) .nil)))))))
noncomputable def fn37 : Fn := { pn := ["some", "others", "step", "n", "w"], params := (defAt 43).params, body := (defAt 43).body, scope := (defAt 43).scope, mini := mini37, nv := 18, cx := { nm := ["some", "others", "step", "n", "w", "many", "modulus", "rows", "more", "told", "due", "at", "one", "spot", "other", "beyond", "row", "one"], vis := [0, 1, 2, 3, 4, 5, 6, 7, 8, 9, 10, 11, 12, 13, 14, 15], ks := (defAt 43).scope.names, fs := fsN } }
theorem good37 : fn37.good = true := by decide +kernel
-- 38: _law_pieces_right
noncomputable def e38x0 : ME := (.bin .mod (.bin .fdiv (.var 6) (.bin .pow (.int 2) (.bin .mul (.var 4) (.var 12)))) (.bin .pow (.int 2) (.var 4)))
noncomputable def e38x1 : ME := (.ite (.cmp .ge (.var 13) (.bin .pow (.int 2) (.bin .sub (.var 2) (.int 1)))) (.bin .sub (.bin .sub (.var 13) (.bin .pow (.int 2) (.var 2))) (.int 1)) (.var 13))
noncomputable def e38x2 : ME := (.bin .mul (.var 15) (.bin .pow (.int 2) (.bin .mul (.var 4) (.var 14))))
noncomputable def e38x3 : ME := (.call 30 (.cons (.var 16) (.cons (.var 3) .nil)))
noncomputable def tl38i : MSs := (.cons (.ret (.cmp .eq (.call 31 (.cons (.call 25 (.cons (.var 11) (.cons (.var 2) (.cons (.var 3) .nil)))) (.cons (.var 3) .nil))) (.bin .mod (.var 11) (.bin .add (.bin .pow (.int 2) (.var 2)) (.int 1))))) .nil)
noncomputable def tl38h : MSs := (.cons (.asg 11 (.val (.bin .sub (.call 28 (.cons (.var 0) (.cons (.int 90) .nil))) (.int 45)))) tl38i)
noncomputable def tl38g : MSs := (.cons (.ifS (.cmp .ne (.call 31 (.cons (.call 22 (.cons (.comp e38x3 (.one 16) (.of (.var 1))) (.cons (.var 4) (.cons (.var 2) (.cons (.var 7) (.cons (.var 3) .nil)))))) (.cons (.var 3) .nil))) (.var 10)) (.cons (.ret (.bool false)) .nil) .nil) tl38h)
noncomputable def tl38f : MSs := (.cons (.asg 10 (.val (.bin .mod (.sum (.comp e38x2 (.two 14 15) (.enum (.var 9)))) (.bin .add (.bin .pow (.int 2) (.var 7)) (.int 1))))) tl38g)
noncomputable def tl38e : MSs := (.cons (.asg 9 (.val (.comp e38x1 (.one 13) (.of (.var 1))))) tl38f)
noncomputable def tl38d : MSs := (.cons (.ifS (.cmp .ne (.call 31 (.cons (.call 21 (.cons (.var 8) (.cons (.var 4) (.cons (.var 3) .nil)))) (.cons (.var 3) .nil))) (.var 6)) (.cons (.ret (.bool false)) .nil) .nil) tl38e)
noncomputable def tl38c : MSs := (.cons (.ifS (.not (.call 33 (.cons (.var 8) (.cons (.comp e38x0 (.one 12) (.range1 (.var 5))) (.cons (.var 3) .nil))))) (.cons (.ret (.bool false)) .nil) .nil) tl38d)
noncomputable def tl38b : MSs := (.cons (.asg 8 (.val (.call 20 (.cons (.call 30 (.cons (.var 6) (.cons (.var 3) .nil))) (.cons (.var 4) (.cons (.var 5) (.cons (.var 3) .nil))))))) tl38c)
noncomputable def tl38a : MSs := (.cons (.asgT (.cons 6 (.val (.call 29 (.cons (.var 0) (.cons (.bin .mul (.var 4) (.var 5)) .nil)))) (.cons 7 (.val (.bin .add (.var 2) (.call 28 (.cons (.var 0) (.cons (.int 12) .nil))))) .nil))) tl38b)
noncomputable def mini38 : MSs := (.cons (.asgT (.cons 4 (.val (.bin .add (.int 1) (.call 28 (.cons (.var 0) (.cons (.int 9) .nil))))) (.cons 5 (.val (.bin .add (.int 1) (.call 28 (.cons (.var 0) (.cons (.int 5) .nil))))) .nil))) tl38a)
noncomputable def fn38 : Fn := { pn := ["deal", "some", "n", "w"], params := (defAt 44).params, body := (defAt 44).body, scope := (defAt 44).scope, mini := mini38, nv := 17, cx := { nm := ["deal", "some", "n", "w", "size", "many", "number", "outer", "parts", "sided", "due", "small", "at", "one", "at", "one", "one"], vis := [0, 1, 2, 3, 4, 5, 6, 7, 8, 9, 10, 11], ks := (defAt 44).scope.names, fs := fsN } }
theorem good38 : fn38.good = true := by decide +kernel
-- 39: law
noncomputable def e39x0 : ME := (.call 32 (.cons (.var 1) (.cons (.var 4) .nil)))
noncomputable def e39x1 : ME := (.call 32 (.cons (.var 1) (.cons (.var 4) .nil)))
noncomputable def mini39 : MSs := (.cons (.asg 1 (.val (.call 27 (.cons (.var 0) .nil)))) (.cons (.asgT (.cons 2 (.val (.idx (.list (.cons (.int 1) (.cons (.int 2) (.cons (.int 4) (.cons (.int 8) .nil))))) (.call 28 (.cons (.var 1) (.cons (.int 4) .nil))))) (.cons 3 (.val (.bin .add (.int 3) (.call 28 (.cons (.var 1) (.cons (.int 7) .nil))))) .nil))) (.cons (.asg 4 (.val (.ite (.cmp .gt (.var 2) (.int 1)) (.bin .mul (.var 2) (.bin .add (.int 1) (.call 28 (.cons (.var 1) (.cons (.idx (.list (.cons (.int 1) (.cons (.int 4) (.cons (.int 2) (.cons (.int 1) .nil))))) (.bin .sub (.bitlen (.var 2)) (.int 1))) .nil))))) (.bin .add (.int 1) (.call 28 (.cons (.var 1) (.cons (.int 8) .nil))))))) (.cons (.asg 5 (.val (.bin .sub (.call 28 (.cons (.var 1) (.cons (.bin .mul (.int 4) (.var 4)) .nil))) (.bin .mul (.int 2) (.var 4))))) (.cons (.asgT (.cons 6 (.val (.comp e39x0 (.one 8) (.range1 (.var 2)))) (.cons 7 (.val (.comp e39x1 (.one 9) (.range1 (.var 2)))) .nil))) (.cons (.ifS (.or (.not (.call 36 (.cons (.var 6) (.cons (.var 5) (.cons (.var 4) (.cons (.var 3) .nil)))))) (.not (.call 37 (.cons (.var 6) (.cons (.var 7) (.cons (.var 5) (.cons (.var 4) (.cons (.var 3) .nil)))))))) (.cons (.ret (.bool false)) .nil) .nil) (.cons (.ret (.call 38 (.cons (.var 1) (.cons (.var 6) (.cons (.var 4) (.cons (.var 3) .nil)))))) .nil)))))))
noncomputable def fn39 : Fn := { pn := ["script"], params := (defAt 45).params, body := (defAt 45).body, scope := (defAt 45).scope, mini := mini39, nv := 10, cx := { nm := ["script", "deal", "many", "w", "n", "step", "some", "others", "turn", "turn"], vis := [0, 1, 2, 3, 4, 5, 6, 7], ks := (defAt 45).scope.names, fs := fsN } }
theorem good39 : fn39.good = true := by decide +kernel
end Mine
end

section
open PySem.Calls
open PySem PySem.W PyProof.Rows
set_option maxRecDepth 100000
namespace Mine

section
variable {α : Type} {xs : List α}
theorem len0 (h : xs.length = 0) : xs = [] := List.eq_nil_of_length_eq_zero h
theorem lenS {n : Nat} (h : xs.length = n + 1) : ∃ a r, xs = a :: r ∧ r.length = n := by
  cases xs with
  | nil => cases h
  | cons a r => exact ⟨a, r, rfl, Nat.succ.inj h⟩
theorem len1 (h : xs.length = 1) : ∃ a, xs = [a] := by obtain ⟨a, r, e, h⟩ := lenS h; exact ⟨a, by rw [e, len0 h]⟩
theorem len2 (h : xs.length = 2) : ∃ a b, xs = [a, b] := by obtain ⟨a, r, e, h⟩ := lenS h; obtain ⟨b, h⟩ := len1 h; exact ⟨a, b, by rw [e, h]⟩
theorem len3 (h : xs.length = 3) : ∃ a b c, xs = [a, b, c] := by obtain ⟨a, r, e, h⟩ := lenS h; obtain ⟨b, c, h⟩ := len2 h; exact ⟨a, b, c, by rw [e, h]⟩
theorem len4 (h : xs.length = 4) : ∃ a b c d, xs = [a, b, c, d] := by obtain ⟨a, r, e, h⟩ := lenS h; obtain ⟨b, c, d, h⟩ := len3 h; exact ⟨a, b, c, d, by rw [e, h]⟩
theorem len5 (h : xs.length = 5) : ∃ a b c d f, xs = [a, b, c, d, f] := by obtain ⟨a, r, e, h⟩ := lenS h; obtain ⟨b, c, d, f, h⟩ := len4 h; exact ⟨a, b, c, d, f, by rw [e, h]⟩
end
theorem bind0 (pm cd doc : Value) (vs : List Value) (hl : vs.length = 1) : bindArgs (docDef (defAt 3).name (defAt 3).params (defAt 3).body (defAt 3).scope pm cd doc) ⟨vs, []⟩ = pure (fn0.pn.zip vs) := by
  obtain ⟨v0, rfl⟩ := len1 hl; rfl
theorem bind1 (pm cd doc : Value) (vs : List Value) (hl : vs.length = 2) : bindArgs (docDef (defAt 4).name (defAt 4).params (defAt 4).body (defAt 4).scope pm cd doc) ⟨vs, []⟩ = pure (fn1.pn.zip vs) := by
  obtain ⟨v0, v1, rfl⟩ := len2 hl; rfl
theorem bind2 (pm cd doc : Value) (vs : List Value) (hl : vs.length = 2) : bindArgs (docDef (defAt 5).name (defAt 5).params (defAt 5).body (defAt 5).scope pm cd doc) ⟨vs, []⟩ = pure (fn2.pn.zip vs) := by
  obtain ⟨v0, v1, rfl⟩ := len2 hl; rfl
theorem bind3 (pm cd doc : Value) (vs : List Value) (hl : vs.length = 3) : bindArgs (docDef (defAt 6).name (defAt 6).params (defAt 6).body (defAt 6).scope pm cd doc) ⟨vs, []⟩ = pure (fn3.pn.zip vs) := by
  obtain ⟨v0, v1, v2, rfl⟩ := len3 hl; rfl
theorem bind4 (pm cd doc : Value) (vs : List Value) (hl : vs.length = 3) : bindArgs (docDef (defAt 7).name (defAt 7).params (defAt 7).body (defAt 7).scope pm cd doc) ⟨vs, []⟩ = pure (fn4.pn.zip vs) := by
  obtain ⟨v0, v1, v2, rfl⟩ := len3 hl; rfl
theorem bind5 (pm cd doc : Value) (vs : List Value) (hl : vs.length = 3) : bindArgs (docDef (defAt 8).name (defAt 8).params (defAt 8).body (defAt 8).scope pm cd doc) ⟨vs, []⟩ = pure (fn5.pn.zip vs) := by
  obtain ⟨v0, v1, v2, rfl⟩ := len3 hl; rfl
theorem bind6 (pm cd doc : Value) (vs : List Value) (hl : vs.length = 3) : bindArgs (docDef (defAt 9).name (defAt 9).params (defAt 9).body (defAt 9).scope pm cd doc) ⟨vs, []⟩ = pure (fn6.pn.zip vs) := by
  obtain ⟨v0, v1, v2, rfl⟩ := len3 hl; rfl
theorem bind7 (pm cd doc : Value) (vs : List Value) (hl : vs.length = 2) : bindArgs (docDef (defAt 10).name (defAt 10).params (defAt 10).body (defAt 10).scope pm cd doc) ⟨vs, []⟩ = pure (fn7.pn.zip vs) := by
  obtain ⟨v0, v1, rfl⟩ := len2 hl; rfl
theorem bind8 (pm cd doc : Value) (vs : List Value) (hl : vs.length = 3) : bindArgs (docDef (defAt 11).name (defAt 11).params (defAt 11).body (defAt 11).scope pm cd doc) ⟨vs, []⟩ = pure (fn8.pn.zip vs) := by
  obtain ⟨v0, v1, v2, rfl⟩ := len3 hl; rfl
theorem bind9 (pm cd doc : Value) (vs : List Value) (hl : vs.length = 2) : bindArgs (docDef (defAt 13).name (defAt 13).params (defAt 13).body (defAt 13).scope pm cd doc) ⟨vs, []⟩ = pure (fn9.pn.zip vs) := by
  obtain ⟨v0, v1, rfl⟩ := len2 hl; rfl
theorem bind10 (pm cd doc : Value) (vs : List Value) (hl : vs.length = 4) : bindArgs (docDef (defAt 14).name (defAt 14).params (defAt 14).body (defAt 14).scope pm cd doc) ⟨vs, []⟩ = pure (fn10.pn.zip vs) := by
  obtain ⟨v0, v1, v2, v3, rfl⟩ := len4 hl; rfl
theorem bind11 (pm cd doc : Value) (vs : List Value) (hl : vs.length = 4) : bindArgs (docDef (defAt 15).name (defAt 15).params (defAt 15).body (defAt 15).scope pm cd doc) ⟨vs, []⟩ = pure (fn11.pn.zip vs) := by
  obtain ⟨v0, v1, v2, v3, rfl⟩ := len4 hl; rfl
theorem bind12 (pm cd doc : Value) (vs : List Value) (hl : vs.length = 3) : bindArgs (docDef (defAt 16).name (defAt 16).params (defAt 16).body (defAt 16).scope pm cd doc) ⟨vs, []⟩ = pure (fn12.pn.zip vs) := by
  obtain ⟨v0, v1, v2, rfl⟩ := len3 hl; rfl
theorem bind13 (pm cd doc : Value) (vs : List Value) (hl : vs.length = 3) : bindArgs (docDef (defAt 17).name (defAt 17).params (defAt 17).body (defAt 17).scope pm cd doc) ⟨vs, []⟩ = pure (fn13.pn.zip vs) := by
  obtain ⟨v0, v1, v2, rfl⟩ := len3 hl; rfl
theorem bind14 (pm cd doc : Value) (vs : List Value) (hl : vs.length = 4) : bindArgs (docDef (defAt 18).name (defAt 18).params (defAt 18).body (defAt 18).scope pm cd doc) ⟨vs, []⟩ = pure (fn14.pn.zip vs) := by
  obtain ⟨v0, v1, v2, v3, rfl⟩ := len4 hl; rfl
theorem bind15 (pm cd doc : Value) (vs : List Value) (hl : vs.length = 5) : bindArgs (docDef (defAt 19).name (defAt 19).params (defAt 19).body (defAt 19).scope pm cd doc) ⟨vs, []⟩ = pure (fn15.pn.zip vs) := by
  obtain ⟨v0, v1, v2, v3, v4, rfl⟩ := len5 hl; rfl
theorem bind16 (pm cd doc : Value) (vs : List Value) (hl : vs.length = 3) : bindArgs (docDef (defAt 20).name (defAt 20).params (defAt 20).body (defAt 20).scope pm cd doc) ⟨vs, []⟩ = pure (fn16.pn.zip vs) := by
  obtain ⟨v0, v1, v2, rfl⟩ := len3 hl; rfl
theorem bind17 (pm cd doc : Value) (vs : List Value) (hl : vs.length = 3) : bindArgs (docDef (defAt 21).name (defAt 21).params (defAt 21).body (defAt 21).scope pm cd doc) ⟨vs, []⟩ = pure (fn17.pn.zip vs) := by
  obtain ⟨v0, v1, v2, rfl⟩ := len3 hl; rfl
theorem bind18 (pm cd doc : Value) (vs : List Value) (hl : vs.length = 5) : bindArgs (docDef (defAt 22).name (defAt 22).params (defAt 22).body (defAt 22).scope pm cd doc) ⟨vs, []⟩ = pure (fn18.pn.zip vs) := by
  obtain ⟨v0, v1, v2, v3, v4, rfl⟩ := len5 hl; rfl
theorem bind19 (pm cd doc : Value) (vs : List Value) (hl : vs.length = 4) : bindArgs (docDef (defAt 23).name (defAt 23).params (defAt 23).body (defAt 23).scope pm cd doc) ⟨vs, []⟩ = pure (fn19.pn.zip vs) := by
  obtain ⟨v0, v1, v2, v3, rfl⟩ := len4 hl; rfl
theorem bind20 (pm cd doc : Value) (vs : List Value) (hl : vs.length = 4) : bindArgs (docDef (defAt 24).name (defAt 24).params (defAt 24).body (defAt 24).scope pm cd doc) ⟨vs, []⟩ = pure (fn20.pn.zip vs) := by
  obtain ⟨v0, v1, v2, v3, rfl⟩ := len4 hl; rfl
theorem bind21 (pm cd doc : Value) (vs : List Value) (hl : vs.length = 3) : bindArgs (docDef (defAt 25).name (defAt 25).params (defAt 25).body (defAt 25).scope pm cd doc) ⟨vs, []⟩ = pure (fn21.pn.zip vs) := by
  obtain ⟨v0, v1, v2, rfl⟩ := len3 hl; rfl
theorem bind22 (pm cd doc : Value) (vs : List Value) (hl : vs.length = 5) : bindArgs (docDef (defAt 26).name (defAt 26).params (defAt 26).body (defAt 26).scope pm cd doc) ⟨vs, []⟩ = pure (fn22.pn.zip vs) := by
  obtain ⟨v0, v1, v2, v3, v4, rfl⟩ := len5 hl; rfl
theorem bind23 (pm cd doc : Value) (vs : List Value) (hl : vs.length = 3) : bindArgs (docDef (defAt 27).name (defAt 27).params (defAt 27).body (defAt 27).scope pm cd doc) ⟨vs, []⟩ = pure (fn23.pn.zip vs) := by
  obtain ⟨v0, v1, v2, rfl⟩ := len3 hl; rfl
theorem bind24 (pm cd doc : Value) (vs : List Value) (hl : vs.length = 2) : bindArgs (docDef (defAt 28).name (defAt 28).params (defAt 28).body (defAt 28).scope pm cd doc) ⟨vs, []⟩ = pure (fn24.pn.zip vs) := by
  obtain ⟨v0, v1, rfl⟩ := len2 hl; rfl
theorem bind25 (pm cd doc : Value) (vs : List Value) (hl : vs.length = 3) : bindArgs (docDef (defAt 29).name (defAt 29).params (defAt 29).body (defAt 29).scope pm cd doc) ⟨vs, []⟩ = pure (fn25.pn.zip vs) := by
  obtain ⟨v0, v1, v2, rfl⟩ := len3 hl; rfl
theorem bind26 (pm cd doc : Value) (vs : List Value) (hl : vs.length = 3) : bindArgs (docDef (defAt 31).name (defAt 31).params (defAt 31).body (defAt 31).scope pm cd doc) ⟨vs, []⟩ = pure (fn26.pn.zip vs) := by
  obtain ⟨v0, v1, v2, rfl⟩ := len3 hl; rfl
theorem bind27 (pm cd doc : Value) (vs : List Value) (hl : vs.length = 1) : bindArgs (docDef (defAt 33).name (defAt 33).params (defAt 33).body (defAt 33).scope pm cd doc) ⟨vs, []⟩ = pure (fn27.pn.zip vs) := by
  obtain ⟨v0, rfl⟩ := len1 hl; rfl
theorem bind28 (pm cd doc : Value) (vs : List Value) (hl : vs.length = 2) : bindArgs (docDef (defAt 34).name (defAt 34).params (defAt 34).body (defAt 34).scope pm cd doc) ⟨vs, []⟩ = pure (fn28.pn.zip vs) := by
  obtain ⟨v0, v1, rfl⟩ := len2 hl; rfl
theorem bind29 (pm cd doc : Value) (vs : List Value) (hl : vs.length = 2) : bindArgs (docDef (defAt 35).name (defAt 35).params (defAt 35).body (defAt 35).scope pm cd doc) ⟨vs, []⟩ = pure (fn29.pn.zip vs) := by
  obtain ⟨v0, v1, rfl⟩ := len2 hl; rfl
theorem bind30 (pm cd doc : Value) (vs : List Value) (hl : vs.length = 2) : bindArgs (docDef (defAt 36).name (defAt 36).params (defAt 36).body (defAt 36).scope pm cd doc) ⟨vs, []⟩ = pure (fn30.pn.zip vs) := by
  obtain ⟨v0, v1, rfl⟩ := len2 hl; rfl
theorem bind31 (pm cd doc : Value) (vs : List Value) (hl : vs.length = 2) : bindArgs (docDef (defAt 37).name (defAt 37).params (defAt 37).body (defAt 37).scope pm cd doc) ⟨vs, []⟩ = pure (fn31.pn.zip vs) := by
  obtain ⟨v0, v1, rfl⟩ := len2 hl; rfl
theorem bind32 (pm cd doc : Value) (vs : List Value) (hl : vs.length = 2) : bindArgs (docDef (defAt 38).name (defAt 38).params (defAt 38).body (defAt 38).scope pm cd doc) ⟨vs, []⟩ = pure (fn32.pn.zip vs) := by
  obtain ⟨v0, v1, rfl⟩ := len2 hl; rfl
theorem bind33 (pm cd doc : Value) (vs : List Value) (hl : vs.length = 3) : bindArgs (docDef (defAt 39).name (defAt 39).params (defAt 39).body (defAt 39).scope pm cd doc) ⟨vs, []⟩ = pure (fn33.pn.zip vs) := by
  obtain ⟨v0, v1, v2, rfl⟩ := len3 hl; rfl
theorem bind34 (pm cd doc : Value) (vs : List Value) (hl : vs.length = 2) : bindArgs (docDef (defAt 40).name (defAt 40).params (defAt 40).body (defAt 40).scope pm cd doc) ⟨vs, []⟩ = pure (fn34.pn.zip vs) := by
  obtain ⟨v0, v1, rfl⟩ := len2 hl; rfl
theorem bind35 (pm cd doc : Value) (vs : List Value) (hl : vs.length = 2) : bindArgs (docDef (defAt 41).name (defAt 41).params (defAt 41).body (defAt 41).scope pm cd doc) ⟨vs, []⟩ = pure (fn35.pn.zip vs) := by
  obtain ⟨v0, v1, rfl⟩ := len2 hl; rfl
theorem bind36 (pm cd doc : Value) (vs : List Value) (hl : vs.length = 4) : bindArgs (docDef (defAt 42).name (defAt 42).params (defAt 42).body (defAt 42).scope pm cd doc) ⟨vs, []⟩ = pure (fn36.pn.zip vs) := by
  obtain ⟨v0, v1, v2, v3, rfl⟩ := len4 hl; rfl
theorem bind37 (pm cd doc : Value) (vs : List Value) (hl : vs.length = 5) : bindArgs (docDef (defAt 43).name (defAt 43).params (defAt 43).body (defAt 43).scope pm cd doc) ⟨vs, []⟩ = pure (fn37.pn.zip vs) := by
  obtain ⟨v0, v1, v2, v3, v4, rfl⟩ := len5 hl; rfl
theorem bind38 (pm cd doc : Value) (vs : List Value) (hl : vs.length = 4) : bindArgs (docDef (defAt 44).name (defAt 44).params (defAt 44).body (defAt 44).scope pm cd doc) ⟨vs, []⟩ = pure (fn38.pn.zip vs) := by
  obtain ⟨v0, v1, v2, v3, rfl⟩ := len4 hl; rfl
theorem bind39 (pm cd doc : Value) (vs : List Value) (hl : vs.length = 1) : bindArgs (docDef (defAt 45).name (defAt 45).params (defAt 45).body (defAt 45).scope pm cd doc) ⟨vs, []⟩ = pure (fn39.pn.zip vs) := by
  obtain ⟨v0, rfl⟩ := len1 hl; rfl
end Mine
end

section
namespace Mine

/-- limbs, the lowest first -/
noncomputable def val (b : Nat) : List Nat → Nat
  | [] => 0
  | x :: r => x + b * val b r
noncomputable def Lim (b : Nat) (xs : List Nat) : Prop := ∀ x ∈ xs, x < b
noncomputable def Top0 (xs : List Nat) : Prop := ∀ x, xs.getLast? = some x → x ≠ 0

noncomputable def digF (b : Nat) : Nat → Nat → List Nat
  | 0, _ => []
  | f + 1, v => if v = 0 then [] else v % b :: digF b f (v / b)
noncomputable def dig (b v : Nat) : List Nat := digF b v v

theorem digF_eq {b : Nat} (hb : 2 ≤ b) : ∀ (f g v : Nat), v ≤ f → v ≤ g → digF b f v = digF b g v
  | 0, 0, _, _, _ => rfl
  | 0, g + 1, v, h, _ => by
    have : v = 0 := by omega
    subst this; simp [digF]
  | f + 1, 0, v, _, h => by
    have : v = 0 := by omega
    subst this; simp [digF]
  | f + 1, g + 1, v, h1, h2 => by
    unfold digF
    by_cases hv : v = 0
    · rw [if_pos hv, if_pos hv]
    · rw [if_neg hv, if_neg hv]
      have : v / b < v := Nat.div_lt_self (by omega) (by omega)
      rw [digF_eq hb f g (v / b) (by omega) (by omega)]
theorem dig_zero (b : Nat) : dig b 0 = [] := rfl
theorem dig_pos {b v : Nat} (hb : 2 ≤ b) (hv : v ≠ 0) : dig b v = v % b :: dig b (v / b) := by
  unfold dig
  cases v with
  | zero => exact absurd rfl hv
  | succ v =>
    rw [digF, if_neg hv]
    have : (v + 1) / b < v + 1 := Nat.div_lt_self (by omega) (by omega)
    rw [digF_eq hb v ((v + 1) / b) _ (by omega) (Nat.le_refl _)]

theorem dig_rec {b : Nat} (hb : 2 ≤ b) {P : Nat → Prop} (h0 : P 0) (h1 : ∀ v, v ≠ 0 → P (v / b) → P v) : ∀ v, P v := by
  intro v
  induction v using Nat.strongRecOn with
  | ind v ih =>
    by_cases hv : v = 0
    · rw [hv]; exact h0
    · exact h1 v hv (ih _ (Nat.div_lt_self (by omega) (by omega)))

theorem val_dig {b : Nat} (hb : 2 ≤ b) : ∀ v, val b (dig b v) = v := dig_rec hb rfl fun v hv ih => by
  rw [dig_pos hb hv, val, ih]
  exact Nat.mod_add_div v b
theorem lim_dig {b : Nat} (hb : 2 ≤ b) : ∀ v, Lim b (dig b v) := dig_rec hb (fun x h => by cases h) fun v hv ih x hx => by
  rw [dig_pos hb hv] at hx
  rcases List.mem_cons.mp hx with rfl | hx
  · exact Nat.mod_lt _ (by omega)
  · exact ih x hx
theorem top_dig {b : Nat} (hb : 2 ≤ b) : ∀ v, Top0 (dig b v) := dig_rec hb (fun x h => by cases h) fun v hv ih x hx => by
  rw [dig_pos hb hv] at hx
  by_cases hd : v / b = 0
  · rw [hd, dig_zero] at hx
    simp at hx
    have : v < b := by
      rcases Nat.lt_or_ge v b with h | h
      · exact h
      · have := Nat.div_pos h (by omega); omega
    rw [Nat.mod_eq_of_lt this] at hx
    omega
  · have hne : dig b (v / b) ≠ [] := by rw [dig_pos hb hd]; simp
    rw [List.getLast?_cons] at hx
    cases q : (dig b (v / b)).getLast? with
    | none => rw [List.getLast?_eq_none_iff] at q; exact absurd q hne
    | some y =>
      rw [q] at hx
      simp at hx
      subst hx
      exact ih y q

theorem dig_val {b : Nat} (hb : 2 ≤ b) : ∀ xs : List Nat, Lim b xs → Top0 xs → dig b (val b xs) = xs
  | [], _, _ => rfl
  | x :: r, hl, ht => by
    have hx : x < b := hl x List.mem_cons_self
    have hr : Lim b r := fun y hy => hl y (List.mem_cons_of_mem _ hy)
    have htr : Top0 r := fun y hy => ht y (by rw [List.getLast?_cons, hy]; rfl)
    have ih := dig_val hb r hr htr
    have hv : val b (x :: r) ≠ 0 := by
      intro h
      rw [val] at h
      have h1 : x = 0 := by omega
      have h2 : b * val b r = 0 := by omega
      have h3 : val b r = 0 := by
        rcases Nat.mul_eq_zero.mp h2 with h | h
        · omega
        · exact h
      rw [h3, dig_zero] at ih
      subst h1
      subst ih
      exact ht 0 rfl rfl
    rw [dig_pos hb hv, val]
    have e1 : (x + b * val b r) % b = x := by rw [Nat.add_mul_mod_self_left]; exact Nat.mod_eq_of_lt hx
    have e2 : (x + b * val b r) / b = val b r := by rw [Nat.add_mul_div_left _ _ (by omega), Nat.div_eq_of_lt hx]; omega
    rw [e1, e2, ih]

theorem val_append (b : Nat) : ∀ xs ys : List Nat, val b (xs ++ ys) = val b xs + b ^ xs.length * val b ys
  | [], ys => by simp [val]
  | x :: r, ys => by
    rw [List.cons_append, val, val, val_append b r ys, List.length_cons, Nat.pow_succ, Nat.mul_add, Nat.add_assoc]
    congr 2
    rw [← Nat.mul_assoc, Nat.mul_comm b]
theorem val_snoc (b : Nat) (xs : List Nat) (y : Nat) : val b (xs ++ [y]) = val b xs + b ^ xs.length * y := by
  rw [val_append]; simp [val]
theorem val_lt {b : Nat} (hb : 2 ≤ b) : ∀ xs : List Nat, Lim b xs → val b xs < b ^ xs.length
  | [], _ => by simp [val]
  | x :: r, h => by
    have hx : x < b := h x List.mem_cons_self
    have ih := val_lt hb r fun y hy => h y (List.mem_cons_of_mem _ hy)
    rw [val, List.length_cons, Nat.pow_succ, Nat.mul_comm (b ^ r.length)]
    have : b * (val b r + 1) ≤ b * b ^ r.length := Nat.mul_le_mul_left b ih
    rw [Nat.mul_add] at this
    omega
theorem lim_append {b : Nat} {xs ys : List Nat} (h1 : Lim b xs) (h2 : Lim b ys) : Lim b (xs ++ ys) := fun x hx => by
  rcases List.mem_append.mp hx with h | h
  · exact h1 x h
  · exact h2 x h
theorem lim_snoc {b : Nat} {xs : List Nat} {y : Nat} (h1 : Lim b xs) (h2 : y < b) : Lim b (xs ++ [y]) := lim_append h1 fun x hx => by rw [List.mem_singleton.mp hx]; exact h2
theorem top_snoc {xs : List Nat} {y : Nat} (h : y ≠ 0) : Top0 (xs ++ [y]) := fun x hx => by
  rw [List.getLast?_concat] at hx; cases hx; exact h
theorem lim_nil (b : Nat) : Lim b [] := fun x h => by cases h

/-- length: v < b ^ k says at most k limbs -/
theorem dig_len_le {b : Nat} (hb : 2 ≤ b) : ∀ (k v : Nat), v < b ^ k → (dig b v).length ≤ k
  | 0, v, h => by
    have : v = 0 := by simpa using h
    subst this; simp [dig_zero]
  | k + 1, v, h => by
    by_cases hv : v = 0
    · subst hv; simp [dig_zero]
    · rw [dig_pos hb hv, List.length_cons]
      have : v / b < b ^ k := by
        rw [Nat.div_lt_iff_lt_mul (by omega)]
        rw [Nat.pow_succ] at h; exact h
      have := dig_len_le hb k _ this
      omega
theorem dig_len_ge {b : Nat} (hb : 2 ≤ b) {v : Nat} (hv : v ≠ 0) : b ^ ((dig b v).length - 1) ≤ v := by
  rcases Nat.lt_or_ge v (b ^ ((dig b v).length - 1)) with h | h
  · have := dig_len_le hb _ v h
    have h2 : (dig b v).length ≠ 0 := by rw [dig_pos hb hv]; simp
    omega
  · exact h

/-- where the upper noughts begin -/
noncomputable def cut (xs : List Nat) : Nat → Nat
  | 0 => 0
  | k + 1 => if xs[k]? = some 0 then cut xs k else k + 1
theorem cut_le (xs : List Nat) : ∀ k, cut xs k ≤ k
  | 0 => Nat.le_refl _
  | k + 1 => by
    unfold cut
    split
    · exact Nat.le_succ_of_le (cut_le xs k)
    · exact Nat.le_refl _
theorem cut_val (b : Nat) (xs : List Nat) : ∀ k, val b (xs.take (cut xs k)) = val b (xs.take k)
  | 0 => rfl
  | k + 1 => by
    unfold cut
    split
    · rename_i h
      rw [cut_val b xs k, List.take_add_one, h]
      show _ = val b (xs.take k ++ [0])
      rw [val_snoc]; simp
    · rfl
theorem cut_top (xs : List Nat) : ∀ k, k ≤ xs.length → Top0 (xs.take (cut xs k))
  | 0, _ => fun x h => by simp [cut] at h
  | k + 1, hk => by
    unfold cut
    split
    · exact cut_top xs k (by omega)
    · rename_i h
      have hlt : k < xs.length := by omega
      rw [List.take_add_one, List.getElem?_eq_getElem hlt]
      show Top0 (xs.take k ++ [xs[k]])
      refine top_snoc fun e => h ?_
      rw [List.getElem?_eq_getElem hlt, e]
theorem take_cut {b : Nat} (hb : 2 ≤ b) {xs : List Nat} (h : Lim b xs) : xs.take (cut xs xs.length) = dig b (val b xs) := by
  have h1 : Lim b (xs.take (cut xs xs.length)) := fun x hx => h x (List.mem_of_mem_take hx)
  rw [← dig_val hb _ h1 (cut_top xs _ (Nat.le_refl _)), cut_val, List.take_length]

theorem val_take_drop (b : Nat) (xs : List Nat) (k : Nat) (hk : k ≤ xs.length) : val b xs = val b (xs.take k) + b ^ k * val b (xs.drop k) := by
  conv => lhs; rw [← List.take_append_drop k xs]
  rw [val_append, List.length_take, Nat.min_eq_left hk]
theorem take_val {b : Nat} (hb : 2 ≤ b) {xs : List Nat} (h : Lim b xs) (k : Nat) : val b (xs.take k) = val b xs % b ^ k := by
  rcases Nat.le_total k xs.length with hk | hk
  · have h1 : Lim b (xs.take k) := fun x hx => h x (List.mem_of_mem_take hx)
    have h2 := val_lt hb _ h1
    rw [List.length_take, Nat.min_eq_left hk] at h2
    rw [val_take_drop b xs k hk, Nat.add_mul_mod_self_left, Nat.mod_eq_of_lt h2]
  · rw [List.take_of_length_le hk, Nat.mod_eq_of_lt]
    exact Nat.lt_of_lt_of_le (val_lt hb xs h) (Nat.pow_le_pow_right (by omega) hk)
theorem drop_val {b : Nat} (hb : 2 ≤ b) {xs : List Nat} (h : Lim b xs) (k : Nat) : val b (xs.drop k) = val b xs / b ^ k := by
  rcases Nat.le_total k xs.length with hk | hk
  · have h1 : Lim b (xs.take k) := fun x hx => h x (List.mem_of_mem_take hx)
    have h2 := val_lt hb _ h1
    rw [List.length_take, Nat.min_eq_left hk] at h2
    rw [val_take_drop b xs k hk, Nat.add_mul_div_left _ _ (by exact Nat.pow_pos (by omega)), Nat.div_eq_of_lt h2, Nat.zero_add]
  · rw [List.drop_eq_nil_iff.mpr hk]
    have := Nat.lt_of_lt_of_le (val_lt hb xs h) (Nat.pow_le_pow_right (n := b) (by omega) hk)
    rw [Nat.div_eq_of_lt this]; rfl
end Mine
end

section
open PySem PySem.W PyProof.Rows
namespace Mine
section
variable {n k m e : Nat}
theorem q64a (h : n ≤ k) (z : k ≤ 4294967296 := by decide) : (n : Int).natAbs < 2 ^ 64 := Nat.lt_of_le_of_lt (Nat.le_trans h z) (show 4294967296 < 2 ^ 64 by decide)
theorem q64b (h : n < k) (z : k ≤ 4294967296 := by decide) : (n : Int).natAbs < 2 ^ 64 := q64a (Nat.le_of_lt h) z
theorem q64c (h : 1 ≤ n ∧ n ≤ k) (z : k ≤ 4294967296 := by decide) : (n : Int).natAbs < 2 ^ 64 := q64a h.2 z
theorem q6a (h : n ≤ k) (z : k ≤ 1000000 := by decide) : (n : Int) ≤ 1000000 := show (n : Int) ≤ ((1000000 : Nat) : Int) from Int.ofNat_le.mpr (Nat.le_trans h z)
theorem q6b (h : n < k) (z : k ≤ 1000000 := by decide) : (n : Int) ≤ 1000000 := q6a (Nat.le_of_lt h) z
theorem q6c (h : 1 ≤ n ∧ n ≤ k) (z : k ≤ 1000000 := by decide) : (n : Int) ≤ 1000000 := q6a h.2 z
theorem qla (h : n ≤ k) (z : k ≤ 1000000 := by decide) : n < lim := Nat.lt_of_le_of_lt (Nat.le_trans h z) (show 1000000 < lim by decide)
theorem qlb (h : n < k) (z : k ≤ 1000000 := by decide) : n < lim := qla (Nat.le_of_lt h) z
theorem qlc (h : 1 ≤ n ∧ n ≤ k) (z : k ≤ 1000000 := by decide) : n < lim := qla h.2 z
theorem qlA (h : n ≤ k) (z : k ≤ 1000000 := by decide) : (n : Int).natAbs < lim := qla h z
theorem qlB (h : n < k) (z : k ≤ 1000000 := by decide) : (n : Int).natAbs < lim := qlb h z
theorem qlC (h : 1 ≤ n ∧ n ≤ k) (z : k ≤ 1000000 := by decide) : (n : Int).natAbs < lim := qlc h z
theorem ql0 : 0 < lim := by decide
theorem qba (h : n ≤ k) (z : k ≤ m := by decide) : n ≤ m := Nat.le_trans h z
theorem qbb (h : n < k) (z : k ≤ m := by decide) : n ≤ m := Nat.le_trans (Nat.le_of_lt h) z
theorem qbc (h : 1 ≤ n ∧ n ≤ k) (z : k ≤ m := by decide) : n ≤ m := Nat.le_trans h.2 z
theorem qcc (h : 1 ≤ n ∧ n ≤ k) (z : k ≤ m := by decide) : 1 ≤ n ∧ n ≤ m := ⟨h.1, Nat.le_trans h.2 z⟩
theorem qda (h : n ≤ k) (z : k < m := by decide) : n < m := Nat.lt_of_le_of_lt h z
theorem qdb (h : n < k) (z : k ≤ m := by decide) : n < m := Nat.lt_of_lt_of_le h z
theorem qdc (h : 1 ≤ n ∧ n ≤ k) (z : k < m := by decide) : n < m := Nat.lt_of_le_of_lt h.2 z
theorem qN0 (h : 1 ≤ n) : (n : Int) ≠ 0 := fun e => absurd (Int.ofNat.inj e) (Nat.ne_of_gt h)
theorem qn0 (h : 1 ≤ n ∧ n ≤ k) : (n : Int) ≠ 0 := qN0 h.1
theorem qpz : ((2 ^ e : Nat) : Int) ≠ 0 := qN0 (Nat.pow_pos (by decide))
theorem qp1 : (2 : Int) ^ n + 1 ≠ 0 := Int.ne_of_gt (Int.add_pos (Int.pow_pos (by decide)) (by decide))
theorem q2N (h : 1 ≤ n) : 2 * (n : Int) ≠ 0 := qN0 (n := 2 * n) (Nat.le_trans h (Nat.le_mul_of_pos_left n (by decide)))
theorem q2n (h : 1 ≤ n ∧ n ≤ k) : 2 * (n : Int) ≠ 0 := q2N h.1
end
section
variable (p : PV) (xs : List PV) (l : Sl) (σ : Sg) (D : DS) (n : Nat)
theorem gv0 : gv (.v p :: σ) 0 = some p := rfl
theorem gv1 : gv (l :: σ) (n + 1) = gv σ n := rfl
theorem gl0 : gl (.v (.list xs) :: σ) D 0 = some xs := rfl
theorem gl0o : gl (.own xs :: σ) D 0 = some xs := rfl
theorem gl0d : gl (.v .deal :: σ) D 0 = some D := rfl
theorem gl1 : gl (l :: σ) D (n + 1) = gl σ D n := rfl
theorem gf0 : gf (.v (.list xs) :: σ) 0 = some xs := rfl
theorem gf1 : gf (l :: σ) (n + 1) = gf σ n := rfl
theorem go0 : go (.own xs :: σ) 0 = some xs := rfl
theorem go1 : go (l :: σ) (n + 1) = go σ n := rfl
end
section
variable {α β : Type} (f : α → β) (a b : α) (l m : List α) (n : Nat)
theorem W5 : List.map f (a :: l) = f a :: List.map f l := rfl
theorem W6 : List.map f [] = [] := rfl
theorem W7 : List.length (a :: l) = List.length l + 1 := rfl
theorem W8 : List.length ([] : List α) = 0 := rfl
theorem W9 : (a :: l) ++ m = a :: (l ++ m) := rfl
theorem Za : [] ++ m = m := rfl
theorem Zb : List.replicate (n + 1) a = a :: List.replicate n a := rfl
theorem Zc : List.replicate 0 a = [] := rfl
theorem Zd : (a :: l)[0]? = some a := rfl
theorem Ze : (a :: l)[n + 1]? = l[n]? := rfl
theorem Zf : ([] : List α)[n]? = none := rfl
theorem Zg : List.set (a :: l) 0 b = b :: l := rfl
theorem Zh : List.set (a :: l) (n + 1) b = a :: List.set l n b := rfl
theorem Zi : List.set [] n b = [] := rfl
theorem Zj (n : Nat) : Int.toNat (n : Int) = n := rfl
end
section
variable {α : Type} {D : DS}
theorem Zk (a : α) (Q : α → Prop) : asSome (some a) Q = Q a := rfl
theorem Zl (i : Int) (Q : Int → Prop) : asInt (.int i) Q = Q i := rfl
theorem Zm (b : Bool) (Q : Bool → Prop) : asBool (.bool b) Q = Q b := rfl
theorem Zn (xs : List PV) (Q : List PV → Prop) : asList (.list xs) Q = Q xs := rfl
theorem Zo (k : Nat) (Q : Nat → Prop) : asFn (some (.fn k)) Q = Q k := rfl
theorem Zp (P Q : Prop) : whichB true P Q = P := rfl
theorem Zq (P Q : Prop) : whichB false P Q = Q := rfl
theorem Zr (x y : Int) (Q : PV → Prop) : bin2 .add (.int x) (.int y) Q = Q (.int (x + y)) := rfl
theorem Zs (x y : Int) (Q : PV → Prop) : bin2 .sub (.int x) (.int y) Q = Q (.int (x - y)) := rfl
theorem Zt (x y : Int) (Q : PV → Prop) : bin2 .mul (.int x) (.int y) Q = ((x.natAbs < 2 ^ 64 ∧ y.natAbs < 2 ^ 64) ∧ Q (.int (x * y))) := rfl
theorem Zu (x y : Int) (Q : PV → Prop) : bin2 .fdiv (.int x) (.int y) Q = ((y ≠ 0 ∧ y.natAbs < 2 ^ 64) ∧ Q (.int (x.fdiv y))) := rfl
theorem Zv (x y : Int) (Q : PV → Prop) : bin2 .mod (.int x) (.int y) Q = (y ≠ 0 ∧ Q (.int (x.fmod y))) := rfl
theorem Zw (x y : Int) (Q : PV → Prop) : bin2 .pow (.int x) (.int y) Q = ((0 ≤ y ∧ y ≤ 1000000 ∧ x.natAbs < 2 ^ 64) ∧ Q (.int (x ^ y.toNat))) := rfl
theorem Zx (x y : Int) (Q : PV → Prop) : bin2 .band (.int x) (.int y) Q = Q (.int (Builtin.bitAnd x y)) := rfl
theorem Zy (x y : Int) (Q : PV → Prop) : bin2 .bor (.int x) (.int y) Q = Q (.int (Builtin.bitOr x y)) := rfl
theorem Zz (x y : Int) (Q : PV → Prop) : bin2 .shl (.int x) (.int y) Q = ((0 ≤ y ∧ y ≤ 1000000 ∧ x.natAbs < 2 ^ 64) ∧ Q (.int (x * 2 ^ y.toNat))) := rfl
theorem ZA (x y : Int) (Q : PV → Prop) : bin2 .shr (.int x) (.int y) Q = (0 ≤ y ∧ Q (.int (x.fdiv (2 ^ y.toNat)))) := rfl
theorem ZB (xs ys : List PV) (Q : PV → Prop) : bin2 .add (.list xs) (.list ys) Q = (xs.length + ys.length < lim ∧ Q (.list (xs ++ ys))) := rfl
theorem ZC (x y : Int) (Q : Bool → Prop) : cmp2 .eq (.int x) (.int y) Q = Q (x == y) := rfl
theorem ZD (x y : Int) (Q : Bool → Prop) : cmp2 .ne (.int x) (.int y) Q = Q (x != y) := rfl
theorem ZE (x y : Int) (Q : Bool → Prop) : cmp2 .lt (.int x) (.int y) Q = Q (decide (x < y)) := rfl
theorem ZF (x y : Int) (Q : Bool → Prop) : cmp2 .le (.int x) (.int y) Q = Q (decide (x ≤ y)) := rfl
theorem ZG (x y : Int) (Q : Bool → Prop) : cmp2 .gt (.int x) (.int y) Q = Q (decide (x > y)) := rfl
theorem ZH (x y : Int) (Q : Bool → Prop) : cmp2 .ge (.int x) (.int y) Q = Q (decide (x ≥ y)) := rfl
theorem ZI (x : Nat) (v : PV) (σ : Sg) (k : Sg → Prop) : bindP (.one x) v σ k = k (σ.set x (.v v)) := rfl
theorem ZJ (x y : Nat) (a b : PV) (σ : Sg) (k : Sg → Prop) : bindP (.two x y) (.tup [a, b]) σ k = k ((σ.set x (.v a)).set y (.v b)) := rfl

theorem intsOf_map : ∀ xs : List Int, intsOf (xs.map PV.int) = some xs
  | [] => rfl
  | x :: r => by rw [List.map_cons, intsOf, intsOf_map r]; rfl

noncomputable def nv (x : Nat) : PV := .int (x : Int)
/-- a row of limbs -/
noncomputable abbrev LN (xs : List Nat) : PV := .list (xs.map nv)
/-- the row of a number -/
noncomputable abbrev num (b v : Nat) : PV := LN (dig b v)
noncomputable abbrev LI (xs : List Int) : PV := .list (xs.map PV.int)

theorem seq_at {k : Int} {i n : Nat} (hk : k = i) (h : i < n) : seqIndex? k n = some i := by
  subst hk
  unfold seqIndex?
  simp
  omega
theorem idx_rule {xs : List PV} {k : Int} (i : Nat) {p : PV} {Q : PV → Prop} {n : Nat} (hk : k = i) (hp : xs[i]? = some p) (h : Q p) (hn : n = xs.length := by simp only [List.length_map]) : asSome (seqIndex? k n) fun j => asSome xs[j]? fun p => Q p := by
  subst hn
  rw [seq_at hk (List.getElem?_eq_some_iff.mp hp).1, Zk, hp]
  exact h
theorem ln_get {xs : List Nat} {i x : Nat} (h : xs[i]? = some x) : (xs.map nv)[i]? = some (.int (x : Int)) := by rw [List.getElem?_map, h]; rfl
theorem band_mask (x : Nat) (w : Nat) : Builtin.bitAnd (x : Int) (2 ^ w - 1) = ((x % 2 ^ w : Nat) : Int) := by
  rw [kbt_mask]; simp
theorem fdiv_pow (x : Nat) (w : Nat) : Int.fdiv (x : Int) (2 ^ w) = ((x / 2 ^ w : Nat) : Int) := by
  rw [Int.fdiv_eq_ediv_of_nonneg _ (by exact Int.pow_nonneg (by decide))]; simp
end

theorem fdiv_nat (x y : Nat) : Int.fdiv (x : Int) (y : Int) = ((x / y : Nat) : Int) := by
  rw [Int.fdiv_eq_ediv_of_nonneg _ (by omega)]; simp
theorem fmod_nat (x y : Nat) : Int.fmod (x : Int) (y : Int) = ((x % y : Nat) : Int) := by
  rw [Int.fmod_eq_emod_of_nonneg _ (by omega)]; simp

theorem range_up (n : Nat) : (rangeInts 0 (n : Int) 1).map PV.int = (List.range n).map nv := by
  have e : (Builtin.Range.rangeSize 0 (n : Int) 1).toNat = n := by
    unfold Builtin.Range.rangeSize
    split <;> (try split) <;> omega
  unfold rangeInts
  rw [e, List.map_map]
  apply List.map_congr_left
  intro i _
  simp [nv]
theorem range_from (m n : Nat) : (rangeInts (m : Int) (n : Int) 1).map PV.int = (List.range (n - m)).map fun i => nv (m + i) := by
  have e : (Builtin.Range.rangeSize (m : Int) (n : Int) 1).toNat = n - m := by
    unfold Builtin.Range.rangeSize
    split <;> (try split) <;> omega
  unfold rangeInts
  rw [e, List.map_map]
  apply List.map_congr_left
  intro i _
  simp [nv]
theorem range_down (n : Nat) : (rangeInts ((n : Int) - 1) (-1) (-1)).map PV.int = (List.range n).map fun i => nv (n - 1 - i) := by
  have e : (Builtin.Range.rangeSize ((n : Int) - 1) (-1) (-1)).toNat = n := by
    unfold Builtin.Range.rangeSize
    split <;> (try split) <;> (try simp only [Int.neg_neg, Int.ediv_one]) <;> omega
  unfold rangeInts
  rw [e, List.map_map]
  apply List.map_congr_left
  intro i hi
  have := List.mem_range.mp hi
  simp [nv]
  omega
theorem range_up_len (n : Nat) : (rangeInts 0 (n : Int) 1).length = n := by have := congrArg List.length (range_up n); simpa using this
theorem range_from_len (m n : Nat) : (rangeInts (m : Int) (n : Int) 1).length = n - m := by have := congrArg List.length (range_from m n); simpa using this
theorem range_down_len (n : Nat) : (rangeInts ((n : Int) - 1) (-1) (-1)).length = n := by have := congrArg List.length (range_down n); simpa using this
theorem map_at {f : Nat → PV} {n j : Nat} {x : PV} (h : ((List.range n).map f)[j]? = some x) : j < n ∧ x = f j := by
  rw [List.getElem?_map] at h
  cases q : (List.range n)[j]? with
  | none => rw [q] at h; cases h
  | some y =>
    obtain ⟨h1, h2⟩ := List.getElem?_eq_some_iff.mp q
    rw [q] at h
    simp at h1 h2 h
    subst h2
    exact ⟨h1, h.symm⟩
theorem ln_at {xs : List Nat} {j : Nat} {x : PV} (h : (xs.map nv)[j]? = some x) : ∃ hj : j < xs.length, x = nv xs[j] := by
  rw [List.getElem?_map] at h
  cases q : xs[j]? with
  | none => rw [q] at h; cases h
  | some y =>
    obtain ⟨h1, h2⟩ := List.getElem?_eq_some_iff.mp q
    rw [q] at h
    exact ⟨h1, by rw [h2]; exact (Option.some.inj h).symm⟩

/-- the loop that walks a row -/
theorem forW_inv {pat : MP} {b : Sg → DS → (Fl → Sg → DS → Prop) → Prop} (J : Nat → Sg → DS → Prop) {Q : Fl → Sg → DS → Prop} : ∀ (xs : List PV) (k : Nat) (σ : Sg) (D : DS), J k σ D →
    (∀ j x σ D (K : Fl → Sg → DS → Prop), k ≤ j → xs[j - k]? = some x → J j σ D → (∀ σ' D', J (j + 1) σ' D' → K .next σ' D') → (∀ v σ' D', Q (.ret v) σ' D' → K (.ret v) σ' D') → bindP pat x σ fun σ₁ => b σ₁ D K) → (∀ σ D, J (k + xs.length) σ D → Q .next σ D) → forW pat b xs σ D Q
  | [], k, σ, D, h, _, hd => hd σ D (by simpa using h)
  | x :: r, k, σ, D, h, hs, hd => by
    show bindP pat x σ fun σ₁ => b σ₁ D fun f σ' D₂ => match f with
      | .next => forW pat b r σ' D₂ Q
      | .ret v => Q (.ret v) σ' D₂
    refine hs k x σ D _ (Nat.le_refl _) (by rw [Nat.sub_self]; rfl) h (fun σ' D' h' => ?_) fun v σ' D' h' => h'
    refine forW_inv J r (k + 1) σ' D' h' (fun j y σ D K hj hy => hs j y σ D K (by omega) (by
      rw [show j - k = (j - (k + 1)) + 1 by omega, List.getElem?_cons_succ]; exact hy)) fun σ D h => hd σ D (by
      rw [List.length_cons, show k + (r.length + 1) = k + 1 + r.length by omega]; exact h)

theorem whileW_inv {t : Sg → DS → (PV → DS → Prop) → Prop} {b : Sg → DS → (Fl → Sg → DS → Prop) → Prop} (J : Nat → Sg → DS → Prop) {Q : Fl → Sg → DS → Prop}
    (step : ∀ n σ D (K : Fl → Sg → DS → Prop), J n σ D → (∀ m σ' D', m < n → J m σ' D' → K .next σ' D') → (∀ v σ' D', Q (.ret v) σ' D' → K (.ret v) σ' D') → t σ D fun v D₁ => asBool v fun c => whichB c (b σ D₁ K) (Q .next σ D₁)) :
    ∀ {n : Nat} {σ : Sg} {D : DS}, J n σ D → ∃ f, whileW t b f σ D Q := by
  have key : ∀ (f n : Nat) (σ : Sg) (D : DS), n < f → J n σ D → whileW t b f σ D Q := by
    intro f
    induction f with
    | zero => intro n σ D h; omega
    | succ f ih =>
      intro n σ D h hJ
      exact step n σ D _ hJ (fun m σ' D' hm hJ' => ih m σ' D' (by omega) hJ') fun v σ' D' h => h
  exact fun {n σ D} hJ => ⟨n + 1, key (n + 1) n σ D (Nat.lt_succ_self n) hJ⟩
end Mine
end

section
open PySem PySem.W PyProof.Rows
namespace Mine

noncomputable def fnAll (k : Nat) : Fn := [fn0, fn1, fn2, fn3, fn4, fn5, fn6, fn7, fn8, fn9, fn10, fn11, fn12, fn13, fn14, fn15, fn16, fn17, fn18, fn19, fn20, fn21, fn22, fn23, fn24, fn25, fn26, fn27, fn28, fn29, fn30, fn31, fn32, fn33, fn34, fn35, fn36, fn37, fn38, fn39][k]?.getD fn39

/-- the text's defs lie in the heap -/
structure Txt (G0 : Frz) (fa : Nat → Addr) : Prop where
  gl : Globs G0 fsN fa
  hall : ∀ k, ∃ o fd, G0 (fa k) = some o ∧ o.data = .func fd
  at_ : ∀ k, k < 40 → FnAt G0 (fa k) (fnAll k)

section
variable {prog : Program} {w : World} {G0 : Frz} {d : Option Addr} {fa : Nat → Addr} {N : Nat}

theorem c_normal (X : Txt G0 fa) (hN : 1 ≤ N) {xs : List Nat} {D : DS} {Q : PV → DS → Prop} (hQ : Q (LN (xs.take (cut xs xs.length))) D) : CallOK prog w G0 d fa N 0 [LN xs] D Q := by
  refine CallOK.mono (fn_sound X.gl X.hall (N := 0) (F := fn0) (X.at_ 0 (by decide)) rfl good0 rfl ?_) hN fun _ _ h => h
  (try dsimp only [fn0, mini0, Wa, Wb, Wc, Wd, We, Wf, Wg, Wh, Wi, Wj, Wk, Wl, Wm, Wn, Wo, Wp, Wq, Wr, Ws, Wt, Wu, Wv, Ww, Wx, Wy, Wz, WA, WB, WC, WD, WE, WF, WG, WH, WI, WJ, WK, WL, WM, WN, WO, WP, WQ, WR, WS, WT, WU, WV, WW, WX, WY, WZ, W0, W1, W2, W3, W4, Zk, Zl, Zm, Zn, Zo, Zp, Zq, Zr, Zs, Zt, Zu, Zv, Zw, Zx, Zy, Zz, ZA, ZB, ZC, ZD, ZE, ZF, ZG, ZH, ZI, ZJ, setAll, gv0, gv1, gl0, gl0o, gl0d, gl1, gf0, gf1, go0, go1, argsOf, W5, W6, W7, W8, W9, Za, Zb, Zc, Zd, Ze, Zf, Zg, Zh, Zi, Zj, Nat.reduceAdd, Nat.reduceSub]); (try simp only [fn0, mini0, Zk, Nat.zero_add, Nat.sub_self, Nat.add_zero, Nat.sub_zero, Int.one_mul, Int.toNat_natCast])
  refine whileW_inv (fun n σ D' => D' = D ∧ n ≤ xs.length ∧ cut xs n = cut xs xs.length ∧ σ = [.v (LN xs), .v (.int n)]) ?_ (n := xs.length) ⟨rfl, Nat.le_refl _, rfl, by simp⟩
  rintro n σ D' K ⟨rfl, hn, hc, rfl⟩ hK _
  (try dsimp only [c0x0, b0x0, Wa, Wb, Wc, Wd, We, Wf, Wg, Wh, Wi, Wj, Wk, Wl, Wm, Wn, Wo, Wp, Wq, Wr, Ws, Wt, Wu, Wv, Ww, Wx, Wy, Wz, WA, WB, WC, WD, WE, WF, WG, WH, WI, WJ, WK, WL, WM, WN, WO, WP, WQ, WR, WS, WT, WU, WV, WW, WX, WY, WZ, W0, W1, W2, W3, W4, Zk, Zl, Zm, Zn, Zo, Zp, Zq, Zr, Zs, Zt, Zu, Zv, Zw, Zx, Zy, Zz, ZA, ZB, ZC, ZD, ZE, ZF, ZG, ZH, ZI, ZJ, setAll, gv0, gv1, gl0, gl0o, gl0d, gl1, gf0, gf1, go0, go1, argsOf, W5, W6, W7, W8, W9, Za, Zb, Zc, Zd, Ze, Zf, Zg, Zh, Zi, Zj, Nat.reduceAdd, Nat.reduceSub]); (try simp only [c0x0, b0x0, Zk, Nat.zero_add, Nat.sub_self, Nat.add_zero, Nat.sub_zero, Int.one_mul, Int.toNat_natCast])
  cases n with
  | zero =>
    rw [show decide (((0 : Nat) : Int) > 0) = false from rfl]
    (try dsimp only [Wa, Wb, Wc, Wd, We, Wf, Wg, Wh, Wi, Wj, Wk, Wl, Wm, Wn, Wo, Wp, Wq, Wr, Ws, Wt, Wu, Wv, Ww, Wx, Wy, Wz, WA, WB, WC, WD, WE, WF, WG, WH, WI, WJ, WK, WL, WM, WN, WO, WP, WQ, WR, WS, WT, WU, WV, WW, WX, WY, WZ, W0, W1, W2, W3, W4, Zk, Zl, Zm, Zn, Zo, Zp, Zq, Zr, Zs, Zt, Zu, Zv, Zw, Zx, Zy, Zz, ZA, ZB, ZC, ZD, ZE, ZF, ZG, ZH, ZI, ZJ, setAll, gv0, gv1, gl0, gl0o, gl0d, gl1, gf0, gf1, go0, go1, argsOf, W5, W6, W7, W8, W9, Za, Zb, Zc, Zd, Ze, Zf, Zg, Zh, Zi, Zj, Nat.reduceAdd, Nat.reduceSub]); (try simp only [Zk, Nat.zero_add, Nat.sub_self, Nat.add_zero, Nat.sub_zero, Int.one_mul, Int.toNat_natCast])
    rw [← hc] at hQ
    exact ⟨by omega, hQ⟩
  | succ k =>
    have hk : k < xs.length := hn
    rw [show decide (((k + 1 : Nat) : Int) > 0) = true by simp]
    (try dsimp only [Wa, Wb, Wc, Wd, We, Wf, Wg, Wh, Wi, Wj, Wk, Wl, Wm, Wn, Wo, Wp, Wq, Wr, Ws, Wt, Wu, Wv, Ww, Wx, Wy, Wz, WA, WB, WC, WD, WE, WF, WG, WH, WI, WJ, WK, WL, WM, WN, WO, WP, WQ, WR, WS, WT, WU, WV, WW, WX, WY, WZ, W0, W1, W2, W3, W4, Zk, Zl, Zm, Zn, Zo, Zp, Zq, Zr, Zs, Zt, Zu, Zv, Zw, Zx, Zy, Zz, ZA, ZB, ZC, ZD, ZE, ZF, ZG, ZH, ZI, ZJ, setAll, gv0, gv1, gl0, gl0o, gl0d, gl1, gf0, gf1, go0, go1, argsOf, W5, W6, W7, W8, W9, Za, Zb, Zc, Zd, Ze, Zf, Zg, Zh, Zi, Zj, Nat.reduceAdd, Nat.reduceSub]); (try simp only [Zk, Nat.zero_add, Nat.sub_self, Nat.add_zero, Nat.sub_zero, Int.one_mul, Int.toNat_natCast])
    refine idx_rule k (by omega) (ln_get (List.getElem?_eq_getElem hk)) ?_
    (try dsimp only [Wa, Wb, Wc, Wd, We, Wf, Wg, Wh, Wi, Wj, Wk, Wl, Wm, Wn, Wo, Wp, Wq, Wr, Ws, Wt, Wu, Wv, Ww, Wx, Wy, Wz, WA, WB, WC, WD, WE, WF, WG, WH, WI, WJ, WK, WL, WM, WN, WO, WP, WQ, WR, WS, WT, WU, WV, WW, WX, WY, WZ, W0, W1, W2, W3, W4, Zk, Zl, Zm, Zn, Zo, Zp, Zq, Zr, Zs, Zt, Zu, Zv, Zw, Zx, Zy, Zz, ZA, ZB, ZC, ZD, ZE, ZF, ZG, ZH, ZI, ZJ, setAll, gv0, gv1, gl0, gl0o, gl0d, gl1, gf0, gf1, go0, go1, argsOf, W5, W6, W7, W8, W9, Za, Zb, Zc, Zd, Ze, Zf, Zg, Zh, Zi, Zj, Nat.reduceAdd, Nat.reduceSub]); (try simp only [Zk, Nat.zero_add, Nat.sub_self, Nat.add_zero, Nat.sub_zero, Int.one_mul, Int.toNat_natCast])
    by_cases h0 : xs[k] = 0
    · rw [show (((xs[k] : Nat) : Int) == 0) = true by simp [h0]]
      (try dsimp only [Wa, Wb, Wc, Wd, We, Wf, Wg, Wh, Wi, Wj, Wk, Wl, Wm, Wn, Wo, Wp, Wq, Wr, Ws, Wt, Wu, Wv, Ww, Wx, Wy, Wz, WA, WB, WC, WD, WE, WF, WG, WH, WI, WJ, WK, WL, WM, WN, WO, WP, WQ, WR, WS, WT, WU, WV, WW, WX, WY, WZ, W0, W1, W2, W3, W4, Zk, Zl, Zm, Zn, Zo, Zp, Zq, Zr, Zs, Zt, Zu, Zv, Zw, Zx, Zy, Zz, ZA, ZB, ZC, ZD, ZE, ZF, ZG, ZH, ZI, ZJ, setAll, gv0, gv1, gl0, gl0o, gl0d, gl1, gf0, gf1, go0, go1, argsOf, W5, W6, W7, W8, W9, Za, Zb, Zc, Zd, Ze, Zf, Zg, Zh, Zi, Zj, Nat.reduceAdd, Nat.reduceSub]); (try simp only [Zk, Nat.zero_add, Nat.sub_self, Nat.add_zero, Nat.sub_zero, Int.one_mul, Int.toNat_natCast])
      refine hK k _ _ (Nat.lt_succ_self k) ⟨rfl, by omega, ?_, by simp⟩
      rw [← hc, cut, if_pos (by rw [List.getElem?_eq_getElem hk, h0])]
    · rw [show (((xs[k] : Nat) : Int) == 0) = false by simp [h0]]
      (try dsimp only [Wa, Wb, Wc, Wd, We, Wf, Wg, Wh, Wi, Wj, Wk, Wl, Wm, Wn, Wo, Wp, Wq, Wr, Ws, Wt, Wu, Wv, Ww, Wx, Wy, Wz, WA, WB, WC, WD, WE, WF, WG, WH, WI, WJ, WK, WL, WM, WN, WO, WP, WQ, WR, WS, WT, WU, WV, WW, WX, WY, WZ, W0, W1, W2, W3, W4, Zk, Zl, Zm, Zn, Zo, Zp, Zq, Zr, Zs, Zt, Zu, Zv, Zw, Zx, Zy, Zz, ZA, ZB, ZC, ZD, ZE, ZF, ZG, ZH, ZI, ZJ, setAll, gv0, gv1, gl0, gl0o, gl0d, gl1, gf0, gf1, go0, go1, argsOf, W5, W6, W7, W8, W9, Za, Zb, Zc, Zd, Ze, Zf, Zg, Zh, Zi, Zj, Nat.reduceAdd, Nat.reduceSub]); (try simp only [Zk, Nat.zero_add, Nat.sub_self, Nat.add_zero, Nat.sub_zero, Int.one_mul, Int.toNat_natCast])
      refine ⟨by omega, ?_⟩
      rw [← hc, cut, if_neg (by rw [List.getElem?_eq_getElem hk]; simp [h0])] at hQ
      rw [← List.map_take]
      exact hQ
end
end Mine
end

section
open PySem PySem.W PyProof.Rows
namespace Mine
theorem two_le_pow {w : Nat} (hw : 1 ≤ w) : 2 ≤ 2 ^ w := by
  have := Nat.pow_le_pow_right (n := 2) (by decide) hw
  simpa using this
theorem lim_eq : lim = 1048576 := by decide

section
variable {prog : Program} {w0 : World} {G0 : Frz} {d : Option Addr} {fa : Nat → Addr} {N : Nat}

theorem c_nat_of (X : Txt G0 fa) (hN : 1 ≤ N) {w v : Nat} (hw : 1 ≤ w ∧ w ≤ 9) (hl : (dig (2 ^ w) v).length < lim) {D : DS} {Q : PV → DS → Prop} (hQ : Q (num (2 ^ w) v) D) : CallOK prog w0 G0 d fa N 1 [.int (v : Int), .int (w : Int)] D Q := by
  refine CallOK.mono (fn_sound X.gl X.hall (N := 0) (F := fn1) (X.at_ 1 (by decide)) rfl good1 rfl ?_) hN fun _ _ h => h
  have hb := two_le_pow hw.1
  (try dsimp only [fn1, mini1, Wa, Wb, Wc, Wd, We, Wf, Wg, Wh, Wi, Wj, Wk, Wl, Wm, Wn, Wo, Wp, Wq, Wr, Ws, Wt, Wu, Wv, Ww, Wx, Wy, Wz, WA, WB, WC, WD, WE, WF, WG, WH, WI, WJ, WK, WL, WM, WN, WO, WP, WQ, WR, WS, WT, WU, WV, WW, WX, WY, WZ, W0, W1, W2, W3, W4, Zk, Zl, Zm, Zn, Zo, Zp, Zq, Zr, Zs, Zt, Zu, Zv, Zw, Zx, Zy, Zz, ZA, ZB, ZC, ZD, ZE, ZF, ZG, ZH, ZI, ZJ, setAll, gv0, gv1, gl0, gl0o, gl0d, gl1, gf0, gf1, go0, go1, argsOf, W5, W6, W7, W8, W9, Za, Zb, Zc, Zd, Ze, Zf, Zg, Zh, Zi, Zj, Nat.reduceAdd, Nat.reduceSub]); (try simp only [fn1, mini1, Zk, Nat.zero_add, Nat.sub_self, Nat.add_zero, Nat.sub_zero, Int.one_mul, Int.toNat_natCast])
  rw [show decide ((v : Int) < 0) = false by simp]
  (try dsimp only [Wa, Wb, Wc, Wd, We, Wf, Wg, Wh, Wi, Wj, Wk, Wl, Wm, Wn, Wo, Wp, Wq, Wr, Ws, Wt, Wu, Wv, Ww, Wx, Wy, Wz, WA, WB, WC, WD, WE, WF, WG, WH, WI, WJ, WK, WL, WM, WN, WO, WP, WQ, WR, WS, WT, WU, WV, WW, WX, WY, WZ, W0, W1, W2, W3, W4, Zk, Zl, Zm, Zn, Zo, Zp, Zq, Zr, Zs, Zt, Zu, Zv, Zw, Zx, Zy, Zz, ZA, ZB, ZC, ZD, ZE, ZF, ZG, ZH, ZI, ZJ, setAll, gv0, gv1, gl0, gl0o, gl0d, gl1, gf0, gf1, go0, go1, argsOf, W5, W6, W7, W8, W9, Za, Zb, Zc, Zd, Ze, Zf, Zg, Zh, Zi, Zj, Nat.reduceAdd, Nat.reduceSub]); (try simp only [Zk, Nat.zero_add, Nat.sub_self, Nat.add_zero, Nat.sub_zero, Int.one_mul, Int.toNat_natCast])
  refine ⟨by rw [lim_eq]; omega, ⟨by exact Int.natCast_nonneg _, by exact q6c (by assumption), by decide⟩, ?_⟩
  refine whileW_inv (fun n σ D' => D' = D ∧ ∃ pre : List Nat, dig (2 ^ w) v = pre ++ dig (2 ^ w) n ∧ σ = [.v (.int (n : Int)), .v (.int (w : Int)), .own (pre.map nv), .v (.int (2 ^ w - 1))]) ?_ (n := v) ⟨rfl, [], rfl, rfl⟩
  rintro n σ D' K ⟨rfl, pre, hp, rfl⟩ hK _
  (try dsimp only [c1x0, b1x0, Wa, Wb, Wc, Wd, We, Wf, Wg, Wh, Wi, Wj, Wk, Wl, Wm, Wn, Wo, Wp, Wq, Wr, Ws, Wt, Wu, Wv, Ww, Wx, Wy, Wz, WA, WB, WC, WD, WE, WF, WG, WH, WI, WJ, WK, WL, WM, WN, WO, WP, WQ, WR, WS, WT, WU, WV, WW, WX, WY, WZ, W0, W1, W2, W3, W4, Zk, Zl, Zm, Zn, Zo, Zp, Zq, Zr, Zs, Zt, Zu, Zv, Zw, Zx, Zy, Zz, ZA, ZB, ZC, ZD, ZE, ZF, ZG, ZH, ZI, ZJ, setAll, gv0, gv1, gl0, gl0o, gl0d, gl1, gf0, gf1, go0, go1, argsOf, W5, W6, W7, W8, W9, Za, Zb, Zc, Zd, Ze, Zf, Zg, Zh, Zi, Zj, Nat.reduceAdd, Nat.reduceSub]); (try simp only [c1x0, b1x0, Zk, Nat.zero_add, Nat.sub_self, Nat.add_zero, Nat.sub_zero, Int.one_mul, Int.toNat_natCast])
  cases n with
  | zero =>
    rw [show decide (((0 : Nat) : Int) > 0) = false from rfl]
    rw [dig_zero, List.append_nil] at hp
    (try dsimp only [Wa, Wb, Wc, Wd, We, Wf, Wg, Wh, Wi, Wj, Wk, Wl, Wm, Wn, Wo, Wp, Wq, Wr, Ws, Wt, Wu, Wv, Ww, Wx, Wy, Wz, WA, WB, WC, WD, WE, WF, WG, WH, WI, WJ, WK, WL, WM, WN, WO, WP, WQ, WR, WS, WT, WU, WV, WW, WX, WY, WZ, W0, W1, W2, W3, W4, Zk, Zl, Zm, Zn, Zo, Zp, Zq, Zr, Zs, Zt, Zu, Zv, Zw, Zx, Zy, Zz, ZA, ZB, ZC, ZD, ZE, ZF, ZG, ZH, ZI, ZJ, setAll, gv0, gv1, gl0, gl0o, gl0d, gl1, gf0, gf1, go0, go1, argsOf, W5, W6, W7, W8, W9, Za, Zb, Zc, Zd, Ze, Zf, Zg, Zh, Zi, Zj, Nat.reduceAdd, Nat.reduceSub]); (try simp only [Zk, Nat.zero_add, Nat.sub_self, Nat.add_zero, Nat.sub_zero, Int.one_mul, Int.toNat_natCast])
    rw [← hp]; exact hQ
  | succ k =>
    rw [show decide (((k + 1 : Nat) : Int) > 0) = true by simp]
    have hp' := hp
    rw [dig_pos hb (by omega : k + 1 ≠ 0)] at hp'
    (try dsimp only [Wa, Wb, Wc, Wd, We, Wf, Wg, Wh, Wi, Wj, Wk, Wl, Wm, Wn, Wo, Wp, Wq, Wr, Ws, Wt, Wu, Wv, Ww, Wx, Wy, Wz, WA, WB, WC, WD, WE, WF, WG, WH, WI, WJ, WK, WL, WM, WN, WO, WP, WQ, WR, WS, WT, WU, WV, WW, WX, WY, WZ, W0, W1, W2, W3, W4, Zk, Zl, Zm, Zn, Zo, Zp, Zq, Zr, Zs, Zt, Zu, Zv, Zw, Zx, Zy, Zz, ZA, ZB, ZC, ZD, ZE, ZF, ZG, ZH, ZI, ZJ, setAll, gv0, gv1, gl0, gl0o, gl0d, gl1, gf0, gf1, go0, go1, argsOf, W5, W6, W7, W8, W9, Za, Zb, Zc, Zd, Ze, Zf, Zg, Zh, Zi, Zj, Nat.reduceAdd, Nat.reduceSub]); (try simp only [Zk, Nat.zero_add, Nat.sub_self, Nat.add_zero, Nat.sub_zero, Int.one_mul, Int.toNat_natCast])
    have hlen : pre.length + 1 < lim := by
      have := congrArg List.length hp'
      rw [List.length_append, List.length_cons] at this
      omega
    refine ⟨by rw [List.length_map]; exact hlen, by exact Int.natCast_nonneg _, ?_⟩
    rw [band_mask, fdiv_pow]
    refine hK ((k + 1) / 2 ^ w) _ _ (Nat.div_lt_self (by omega) (by assumption)) ⟨rfl, pre ++ [(k + 1) % 2 ^ w], ?_, ?_⟩
    · rw [hp', List.append_assoc]; rfl
    · simp [nv]
end
end Mine
end

section
namespace Mine

theorem val_split {b : Nat} (xs : List Nat) (i : Nat) (hi : i < xs.length) : val b xs = val b (xs.take i) + b ^ i * (xs[i] + b * val b (xs.drop (i + 1))) := by
  rw [val_take_drop b xs i (by omega), List.drop_eq_getElem_cons hi]
  rfl
theorem cmp_val {b : Nat} (hb : 2 ≤ b) {xs ys : List Nat} (hl : xs.length = ys.length) (lx : Lim b xs) {i : Nat} (hx : i < xs.length) (hy : i < ys.length) (hd : xs.drop (i + 1) = ys.drop (i + 1)) (h : xs[i] < ys[i]) : val b xs < val b ys := by
  rw [val_split xs i hx, val_split ys i hy, hd]
  have h1 : val b (xs.take i) < b ^ i := by
    have := val_lt hb (xs.take i) fun x hx => lx x (List.mem_of_mem_take hx)
    rwa [List.length_take, Nat.min_eq_left (by omega)] at this
  have h2 : b ^ i * (xs[i] + 1 + b * val b (ys.drop (i + 1))) ≤ b ^ i * (ys[i] + b * val b (ys.drop (i + 1))) := Nat.mul_le_mul_left _ (by omega)
  have h3 : b ^ i * (xs[i] + 1 + b * val b (ys.drop (i + 1))) = b ^ i * (xs[i] + b * val b (ys.drop (i + 1))) + b ^ i := by
    rw [show xs[i] + 1 + b * val b (ys.drop (i + 1)) = xs[i] + b * val b (ys.drop (i + 1)) + 1 by omega, Nat.mul_add, Nat.mul_one]
  omega
theorem len_lt_val {b : Nat} (hb : 2 ≤ b) {u v : Nat} (h : (dig b u).length < (dig b v).length) : u < v := by
  have hv : v ≠ 0 := by rintro rfl; simp [dig_zero] at h
  have h1 := dig_len_ge hb hv
  have h2 := val_lt hb _ (lim_dig hb u)
  rw [val_dig hb] at h2
  have h3 : b ^ (dig b u).length ≤ b ^ ((dig b v).length - 1) := Nat.pow_le_pow_right (by omega) (by omega)
  omega
theorem len_le_of_le {b : Nat} (hb : 2 ≤ b) {u v : Nat} (h : u ≤ v) : (dig b u).length ≤ (dig b v).length := by
  rcases Nat.lt_or_ge (dig b v).length (dig b u).length with h2 | h2
  · have := len_lt_val hb h2; omega
  · exact h2
theorem top_of_ge {b : Nat} (hb : 2 ≤ b) {xs : List Nat} (hl : Lim b xs) (h : xs ≠ [] → b ^ (xs.length - 1) ≤ val b xs) : Top0 xs := by
  intro x hx e
  subst e
  have hne : xs ≠ [] := by rintro rfl; cases hx
  have h1 := h hne
  have e : xs = xs.dropLast ++ [0] := by
    rw [List.getLast?_eq_some_getLast hne] at hx
    have := List.dropLast_concat_getLast hne
    rw [Option.some.inj hx] at this
    exact this.symm
  have h2 : val b xs = val b xs.dropLast := by
    conv => lhs; rw [e]
    rw [val_snoc]; simp
  have h3 := val_lt hb xs.dropLast fun x hx => hl x (List.dropLast_subset _ hx)
  rw [List.length_dropLast] at h3
  omega

theorem take_succ_val {b : Nat} (xs : List Nat) (j : Nat) (hj : j < xs.length) : val b (xs.take (j + 1)) = val b (xs.take j) + b ^ j * xs[j] := by
  rw [List.take_succ_eq_append_getElem hj, val_snoc, List.length_take, Nat.min_eq_left (by omega)]
theorem dig_take_all (b : Nat) (xs : List Nat) (k : Nat) (h : xs.length ≤ k) : xs.take k = xs := List.take_of_length_le h

noncomputable def cmpI (a b : Nat) : Int := if a < b then -1 else if a = b then 0 else 1

/-- one step of the schoolbook sum -/
theorem carry_step {b f c x y p V : Nat} (h : f + p * c = V) : (f + p * ((c + x + y) % b)) + p * b * ((c + x + y) / b) = V + p * x + p * y := by
  have := Nat.mod_add_div (c + x + y) b
  have h2 : p * ((c + x + y) % b) + p * b * ((c + x + y) / b) = p * (c + x + y) := by
    rw [Nat.mul_assoc, ← Nat.mul_add, this]
  rw [Nat.mul_add, Nat.mul_add] at h2
  omega
end Mine
namespace Mine
theorem take_succ_getD {b : Nat} (xs : List Nat) (j : Nat) : val b (xs.take (j + 1)) = val b (xs.take j) + b ^ j * xs.getD j 0 := by
  rcases Nat.lt_or_ge j xs.length with h | h
  · rw [take_succ_val xs j h, List.getD_eq_getElem?_getD, List.getElem?_eq_getElem h]; rfl
  · rw [List.take_of_length_le (by omega), List.take_of_length_le h, List.getD_eq_getElem?_getD, List.getElem?_eq_none h]; simp
theorem val_zeros (b : Nat) : ∀ k, val b (List.replicate k 0) = 0
  | 0 => rfl
  | k + 1 => by rw [List.replicate_succ, val, val_zeros b k]; simp
theorem lim_zeros {b : Nat} (hb : 2 ≤ b) (k : Nat) : Lim b (List.replicate k 0) := fun x hx => by
  rw [List.mem_replicate] at hx; omega
theorem or_low (c x f : Nat) (h : c < 2 ^ f) : c &&& (x * 2 ^ f) = 0 := by
  apply Nat.eq_of_testBit_eq
  intro i
  rw [Nat.testBit_and, Nat.zero_testBit, Nat.mul_comm, Nat.testBit_two_pow_mul]
  by_cases hi : f ≤ i
  · have : c < 2 ^ i := Nat.lt_of_lt_of_le h (Nat.pow_le_pow_right (by omega) hi)
    rw [Nat.testBit_lt_two_pow this]; rfl
  · simp [hi]
end Mine
namespace Mine
/-- one limb of a row shifted to the right -/
theorem shr_digit {w f : Nat} (hf : f < w) (x y r : Nat) (hx : x < 2 ^ w) : ((x + 2 ^ w * (y + 2 ^ w * r)) / 2 ^ f) % 2 ^ w = (x / 2 ^ f + y * 2 ^ (w - f)) % 2 ^ w := by
  have e : 2 ^ w = 2 ^ f * 2 ^ (w - f) := by rw [← Nat.pow_add]; congr 1; omega
  have h1 : (x + 2 ^ w * (y + 2 ^ w * r)) / 2 ^ f = x / 2 ^ f + 2 ^ (w - f) * (y + 2 ^ w * r) := by
    conv => lhs; rw [e, Nat.mul_assoc]
    rw [Nat.add_mul_div_left _ _ (Nat.pow_pos (by omega)), ← e]
  rw [h1, Nat.mul_add, ← Nat.add_assoc, Nat.mul_comm (2 ^ (w - f)) y, show 2 ^ (w - f) * (2 ^ w * r) = 2 ^ w * (2 ^ (w - f) * r) by rw [← Nat.mul_assoc, Nat.mul_comm (2 ^ (w - f)), Nat.mul_assoc], Nat.add_mul_mod_self_left]
theorem mod_pow_succ (v b j : Nat) : v % b ^ (j + 1) = v % b ^ j + b ^ j * (v / b ^ j % b) := by
  rw [Nat.pow_succ, Nat.mod_mul]
end Mine
end

section
open PySem PySem.W PyProof.Rows
namespace Mine
section
variable {prog : Program} {w0 : World} {G0 : Frz} {d : Option Addr} {fa : Nat → Addr} {N : Nat}

theorem c_compare (X : Txt G0 fa) (hN : 1 ≤ N) {w u v : Nat} (hw : 1 ≤ w ∧ w ≤ 9) (lu : (dig (2 ^ w) u).length < 1000) (lv : (dig (2 ^ w) v).length < 1000) {D : DS} {Q : PV → DS → Prop} (hQ : Q (.int (cmpI u v)) D) :
    CallOK prog w0 G0 d fa N 2 [num (2 ^ w) u, num (2 ^ w) v] D Q := by
  show CallOK prog w0 G0 d fa N 2 [LN (dig (2 ^ w) u), LN (dig (2 ^ w) v)] D Q
  refine CallOK.mono (fn_sound X.gl X.hall (N := 0) (F := fn2) (X.at_ 2 (by decide)) rfl good2 rfl ?_) hN fun _ _ h => h
  have hb := two_le_pow hw.1
  have lim' := lim_eq
  have hu := lim_dig hb u
  have hv := lim_dig hb v
  have eu := val_dig hb u
  have ev := val_dig hb v
  have lt1 := @len_lt_val _ hb u v
  have lt2 := @len_lt_val _ hb v u
  generalize dig (2 ^ w) u = xs at *
  generalize dig (2 ^ w) v = ys at *
  (try dsimp only [fn2, mini2, Wa, Wb, Wc, Wd, We, Wf, Wg, Wh, Wi, Wj, Wk, Wl, Wm, Wn, Wo, Wp, Wq, Wr, Ws, Wt, Wu, Wv, Ww, Wx, Wy, Wz, WA, WB, WC, WD, WE, WF, WG, WH, WI, WJ, WK, WL, WM, WN, WO, WP, WQ, WR, WS, WT, WU, WV, WW, WX, WY, WZ, W0, W1, W2, W3, W4, Zk, Zl, Zm, Zn, Zo, Zp, Zq, Zr, Zs, Zt, Zu, Zv, Zw, Zx, Zy, Zz, ZA, ZB, ZC, ZD, ZE, ZF, ZG, ZH, ZI, ZJ, setAll, gv0, gv1, gl0, gl0o, gl0d, gl1, gf0, gf1, go0, go1, argsOf, W5, W6, W7, W8, W9, Za, Zb, Zc, Zd, Ze, Zf, Zg, Zh, Zi, Zj, Nat.reduceAdd, Nat.reduceSub]); (try simp only [fn2, mini2, List.length_map, Zk, Nat.zero_add, Nat.sub_self, Nat.add_zero, Nat.sub_zero, Int.one_mul, Int.toNat_natCast])
  by_cases hlen : xs.length = ys.length
  · rw [show (((xs.length : Nat) : Int) != ((ys.length : Nat) : Int)) = false by simp [hlen]]
    (try dsimp only [Wa, Wb, Wc, Wd, We, Wf, Wg, Wh, Wi, Wj, Wk, Wl, Wm, Wn, Wo, Wp, Wq, Wr, Ws, Wt, Wu, Wv, Ww, Wx, Wy, Wz, WA, WB, WC, WD, WE, WF, WG, WH, WI, WJ, WK, WL, WM, WN, WO, WP, WQ, WR, WS, WT, WU, WV, WW, WX, WY, WZ, W0, W1, W2, W3, W4, Zk, Zl, Zm, Zn, Zo, Zp, Zq, Zr, Zs, Zt, Zu, Zv, Zw, Zx, Zy, Zz, ZA, ZB, ZC, ZD, ZE, ZF, ZG, ZH, ZI, ZJ, setAll, gv0, gv1, gl0, gl0o, gl0d, gl1, gf0, gf1, go0, go1, argsOf, W5, W6, W7, W8, W9, Za, Zb, Zc, Zd, Ze, Zf, Zg, Zh, Zi, Zj, Nat.reduceAdd, Nat.reduceSub]); (try simp only [Zk, Nat.zero_add, Nat.sub_self, Nat.add_zero, Nat.sub_zero, Int.one_mul, Int.toNat_natCast])
    refine ⟨⟨by omega, by decide, by decide, by decide⟩, ?_⟩
    rw [range_down, range_down_len]
    refine ⟨by exact qlb (by assumption), ?_⟩
    refine forW_inv (fun j σ D' => D' = D ∧ xs.drop (xs.length - j) = ys.drop (ys.length - j) ∧ ∃ l, σ = [.v (LN xs), .v (LN ys), l]) _ 0 _ _ ⟨rfl, by simp, _, rfl⟩ ?_ ?_
    · rintro j x σ D' K _ hx ⟨rfl, hd, l, rfl⟩ hK hR
      obtain ⟨hj, rfl⟩ := map_at hx
      rw [Nat.sub_zero] at hj ⊢
      have i1 : xs.length - 1 - j < xs.length := by omega
      have i2 : xs.length - 1 - j < ys.length := by omega
      (try dsimp only [b2x0, nv, Wa, Wb, Wc, Wd, We, Wf, Wg, Wh, Wi, Wj, Wk, Wl, Wm, Wn, Wo, Wp, Wq, Wr, Ws, Wt, Wu, Wv, Ww, Wx, Wy, Wz, WA, WB, WC, WD, WE, WF, WG, WH, WI, WJ, WK, WL, WM, WN, WO, WP, WQ, WR, WS, WT, WU, WV, WW, WX, WY, WZ, W0, W1, W2, W3, W4, Zk, Zl, Zm, Zn, Zo, Zp, Zq, Zr, Zs, Zt, Zu, Zv, Zw, Zx, Zy, Zz, ZA, ZB, ZC, ZD, ZE, ZF, ZG, ZH, ZI, ZJ, setAll, gv0, gv1, gl0, gl0o, gl0d, gl1, gf0, gf1, go0, go1, argsOf, W5, W6, W7, W8, W9, Za, Zb, Zc, Zd, Ze, Zf, Zg, Zh, Zi, Zj, Nat.reduceAdd, Nat.reduceSub]); (try simp only [b2x0, nv, Zk, Nat.zero_add, Nat.sub_self, Nat.add_zero, Nat.sub_zero, Int.one_mul, Int.toNat_natCast])
      refine idx_rule _ rfl (ln_get (List.getElem?_eq_getElem i1)) ?_
      refine idx_rule _ rfl (ln_get (List.getElem?_eq_getElem i2)) ?_
      (try dsimp only [Wa, Wb, Wc, Wd, We, Wf, Wg, Wh, Wi, Wj, Wk, Wl, Wm, Wn, Wo, Wp, Wq, Wr, Ws, Wt, Wu, Wv, Ww, Wx, Wy, Wz, WA, WB, WC, WD, WE, WF, WG, WH, WI, WJ, WK, WL, WM, WN, WO, WP, WQ, WR, WS, WT, WU, WV, WW, WX, WY, WZ, W0, W1, W2, W3, W4, Zk, Zl, Zm, Zn, Zo, Zp, Zq, Zr, Zs, Zt, Zu, Zv, Zw, Zx, Zy, Zz, ZA, ZB, ZC, ZD, ZE, ZF, ZG, ZH, ZI, ZJ, setAll, gv0, gv1, gl0, gl0o, gl0d, gl1, gf0, gf1, go0, go1, argsOf, W5, W6, W7, W8, W9, Za, Zb, Zc, Zd, Ze, Zf, Zg, Zh, Zi, Zj, Nat.reduceAdd, Nat.reduceSub]); (try simp only [Zk, Nat.zero_add, Nat.sub_self, Nat.add_zero, Nat.sub_zero, Int.one_mul, Int.toNat_natCast])
      by_cases he : xs[xs.length - 1 - j] = ys[xs.length - 1 - j]
      · rw [show (((xs[xs.length - 1 - j] : Nat) : Int) != ((ys[xs.length - 1 - j] : Nat) : Int)) = false by simp [he]]
        (try dsimp only [Wa, Wb, Wc, Wd, We, Wf, Wg, Wh, Wi, Wj, Wk, Wl, Wm, Wn, Wo, Wp, Wq, Wr, Ws, Wt, Wu, Wv, Ww, Wx, Wy, Wz, WA, WB, WC, WD, WE, WF, WG, WH, WI, WJ, WK, WL, WM, WN, WO, WP, WQ, WR, WS, WT, WU, WV, WW, WX, WY, WZ, W0, W1, W2, W3, W4, Zk, Zl, Zm, Zn, Zo, Zp, Zq, Zr, Zs, Zt, Zu, Zv, Zw, Zx, Zy, Zz, ZA, ZB, ZC, ZD, ZE, ZF, ZG, ZH, ZI, ZJ, setAll, gv0, gv1, gl0, gl0o, gl0d, gl1, gf0, gf1, go0, go1, argsOf, W5, W6, W7, W8, W9, Za, Zb, Zc, Zd, Ze, Zf, Zg, Zh, Zi, Zj, Nat.reduceAdd, Nat.reduceSub]); (try simp only [Zk, Nat.zero_add, Nat.sub_self, Nat.add_zero, Nat.sub_zero, Int.one_mul, Int.toNat_natCast])
        refine hK _ _ ⟨rfl, ?_, _, rfl⟩
        rw [show xs.length - (j + 1) = xs.length - 1 - j by omega, show ys.length - (j + 1) = xs.length - 1 - j by omega, List.drop_eq_getElem_cons i1, List.drop_eq_getElem_cons i2, he,
          show xs.length - 1 - j + 1 = xs.length - j by omega]
        congr 1
        rw [hd, hlen]
      · rw [show (((xs[xs.length - 1 - j] : Nat) : Int) != ((ys[xs.length - 1 - j] : Nat) : Int)) = true by simp; omega]
        (try dsimp only [Wa, Wb, Wc, Wd, We, Wf, Wg, Wh, Wi, Wj, Wk, Wl, Wm, Wn, Wo, Wp, Wq, Wr, Ws, Wt, Wu, Wv, Ww, Wx, Wy, Wz, WA, WB, WC, WD, WE, WF, WG, WH, WI, WJ, WK, WL, WM, WN, WO, WP, WQ, WR, WS, WT, WU, WV, WW, WX, WY, WZ, W0, W1, W2, W3, W4, Zk, Zl, Zm, Zn, Zo, Zp, Zq, Zr, Zs, Zt, Zu, Zv, Zw, Zx, Zy, Zz, ZA, ZB, ZC, ZD, ZE, ZF, ZG, ZH, ZI, ZJ, setAll, gv0, gv1, gl0, gl0o, gl0d, gl1, gf0, gf1, go0, go1, argsOf, W5, W6, W7, W8, W9, Za, Zb, Zc, Zd, Ze, Zf, Zg, Zh, Zi, Zj, Nat.reduceAdd, Nat.reduceSub]); (try simp only [Zk, Nat.zero_add, Nat.sub_self, Nat.add_zero, Nat.sub_zero, Int.one_mul, Int.toNat_natCast])
        refine idx_rule _ rfl (ln_get (List.getElem?_eq_getElem i1)) ?_
        refine idx_rule _ rfl (ln_get (List.getElem?_eq_getElem i2)) ?_
        (try dsimp only [Wa, Wb, Wc, Wd, We, Wf, Wg, Wh, Wi, Wj, Wk, Wl, Wm, Wn, Wo, Wp, Wq, Wr, Ws, Wt, Wu, Wv, Ww, Wx, Wy, Wz, WA, WB, WC, WD, WE, WF, WG, WH, WI, WJ, WK, WL, WM, WN, WO, WP, WQ, WR, WS, WT, WU, WV, WW, WX, WY, WZ, W0, W1, W2, W3, W4, Zk, Zl, Zm, Zn, Zo, Zp, Zq, Zr, Zs, Zt, Zu, Zv, Zw, Zx, Zy, Zz, ZA, ZB, ZC, ZD, ZE, ZF, ZG, ZH, ZI, ZJ, setAll, gv0, gv1, gl0, gl0o, gl0d, gl1, gf0, gf1, go0, go1, argsOf, W5, W6, W7, W8, W9, Za, Zb, Zc, Zd, Ze, Zf, Zg, Zh, Zi, Zj, Nat.reduceAdd, Nat.reduceSub]); (try simp only [Zk, Nat.zero_add, Nat.sub_self, Nat.add_zero, Nat.sub_zero, Int.one_mul, Int.toNat_natCast])
        have hd' : xs.drop (xs.length - 1 - j + 1) = ys.drop (xs.length - 1 - j + 1) := by
          rw [show xs.length - 1 - j + 1 = xs.length - j by omega, hd, hlen]
        rcases Nat.lt_or_gt_of_ne he with h | h
        · rw [show decide (((xs[xs.length - 1 - j] : Nat) : Int) < ((ys[xs.length - 1 - j] : Nat) : Int)) = true by simp; exact h]
          (try dsimp only [Wa, Wb, Wc, Wd, We, Wf, Wg, Wh, Wi, Wj, Wk, Wl, Wm, Wn, Wo, Wp, Wq, Wr, Ws, Wt, Wu, Wv, Ww, Wx, Wy, Wz, WA, WB, WC, WD, WE, WF, WG, WH, WI, WJ, WK, WL, WM, WN, WO, WP, WQ, WR, WS, WT, WU, WV, WW, WX, WY, WZ, W0, W1, W2, W3, W4, Zk, Zl, Zm, Zn, Zo, Zp, Zq, Zr, Zs, Zt, Zu, Zv, Zw, Zx, Zy, Zz, ZA, ZB, ZC, ZD, ZE, ZF, ZG, ZH, ZI, ZJ, setAll, gv0, gv1, gl0, gl0o, gl0d, gl1, gf0, gf1, go0, go1, argsOf, W5, W6, W7, W8, W9, Za, Zb, Zc, Zd, Ze, Zf, Zg, Zh, Zi, Zj, Nat.reduceAdd, Nat.reduceSub]); (try simp only [Zk, Nat.zero_add, Nat.sub_self, Nat.add_zero, Nat.sub_zero, Int.one_mul, Int.toNat_natCast])
          refine hR _ _ _ ?_
          have := cmp_val hb hlen hu i1 i2 hd' h
          rw [eu, ev] at this
          unfold cmpI at hQ
          rw [if_pos this] at hQ
          exact hQ
        · rw [show decide (((xs[xs.length - 1 - j] : Nat) : Int) < ((ys[xs.length - 1 - j] : Nat) : Int)) = false by simp; omega]
          (try dsimp only [Wa, Wb, Wc, Wd, We, Wf, Wg, Wh, Wi, Wj, Wk, Wl, Wm, Wn, Wo, Wp, Wq, Wr, Ws, Wt, Wu, Wv, Ww, Wx, Wy, Wz, WA, WB, WC, WD, WE, WF, WG, WH, WI, WJ, WK, WL, WM, WN, WO, WP, WQ, WR, WS, WT, WU, WV, WW, WX, WY, WZ, W0, W1, W2, W3, W4, Zk, Zl, Zm, Zn, Zo, Zp, Zq, Zr, Zs, Zt, Zu, Zv, Zw, Zx, Zy, Zz, ZA, ZB, ZC, ZD, ZE, ZF, ZG, ZH, ZI, ZJ, setAll, gv0, gv1, gl0, gl0o, gl0d, gl1, gf0, gf1, go0, go1, argsOf, W5, W6, W7, W8, W9, Za, Zb, Zc, Zd, Ze, Zf, Zg, Zh, Zi, Zj, Nat.reduceAdd, Nat.reduceSub]); (try simp only [Zk, Nat.zero_add, Nat.sub_self, Nat.add_zero, Nat.sub_zero, Int.one_mul, Int.toNat_natCast])
          refine hR _ _ _ ?_
          have := cmp_val hb hlen.symm hv i2 i1 hd'.symm h
          rw [eu, ev] at this
          unfold cmpI at hQ
          rw [if_neg (by omega), if_neg (by omega)] at hQ
          exact hQ
    · rintro σ D' ⟨rfl, hd, l, rfl⟩
      (try dsimp only [Wa, Wb, Wc, Wd, We, Wf, Wg, Wh, Wi, Wj, Wk, Wl, Wm, Wn, Wo, Wp, Wq, Wr, Ws, Wt, Wu, Wv, Ww, Wx, Wy, Wz, WA, WB, WC, WD, WE, WF, WG, WH, WI, WJ, WK, WL, WM, WN, WO, WP, WQ, WR, WS, WT, WU, WV, WW, WX, WY, WZ, W0, W1, W2, W3, W4, Zk, Zl, Zm, Zn, Zo, Zp, Zq, Zr, Zs, Zt, Zu, Zv, Zw, Zx, Zy, Zz, ZA, ZB, ZC, ZD, ZE, ZF, ZG, ZH, ZI, ZJ, setAll, gv0, gv1, gl0, gl0o, gl0d, gl1, gf0, gf1, go0, go1, argsOf, W5, W6, W7, W8, W9, Za, Zb, Zc, Zd, Ze, Zf, Zg, Zh, Zi, Zj, Nat.reduceAdd, Nat.reduceSub]); (try simp only [Zk, Nat.zero_add, Nat.sub_self, Nat.add_zero, Nat.sub_zero, Int.one_mul, Int.toNat_natCast])
      simp only [List.length_map, List.length_range, Nat.zero_add, Nat.sub_self, List.drop_zero, hlen] at hd
      have huv : u = v := by rw [← eu, ← ev, hd]
      unfold cmpI at hQ
      rw [if_neg (by omega), if_pos huv] at hQ
      exact hQ
  · rw [show (((xs.length : Nat) : Int) != ((ys.length : Nat) : Int)) = true by simp; omega]
    (try dsimp only [Wa, Wb, Wc, Wd, We, Wf, Wg, Wh, Wi, Wj, Wk, Wl, Wm, Wn, Wo, Wp, Wq, Wr, Ws, Wt, Wu, Wv, Ww, Wx, Wy, Wz, WA, WB, WC, WD, WE, WF, WG, WH, WI, WJ, WK, WL, WM, WN, WO, WP, WQ, WR, WS, WT, WU, WV, WW, WX, WY, WZ, W0, W1, W2, W3, W4, Zk, Zl, Zm, Zn, Zo, Zp, Zq, Zr, Zs, Zt, Zu, Zv, Zw, Zx, Zy, Zz, ZA, ZB, ZC, ZD, ZE, ZF, ZG, ZH, ZI, ZJ, setAll, gv0, gv1, gl0, gl0o, gl0d, gl1, gf0, gf1, go0, go1, argsOf, W5, W6, W7, W8, W9, Za, Zb, Zc, Zd, Ze, Zf, Zg, Zh, Zi, Zj, Nat.reduceAdd, Nat.reduceSub]); (try simp only [Zk, Nat.zero_add, Nat.sub_self, Nat.add_zero, Nat.sub_zero, Int.one_mul, Int.toNat_natCast])
    rcases Nat.lt_or_gt_of_ne hlen with h | h
    · rw [show decide (((xs.length : Nat) : Int) < ((ys.length : Nat) : Int)) = true by simp; exact h]
      (try dsimp only [Wa, Wb, Wc, Wd, We, Wf, Wg, Wh, Wi, Wj, Wk, Wl, Wm, Wn, Wo, Wp, Wq, Wr, Ws, Wt, Wu, Wv, Ww, Wx, Wy, Wz, WA, WB, WC, WD, WE, WF, WG, WH, WI, WJ, WK, WL, WM, WN, WO, WP, WQ, WR, WS, WT, WU, WV, WW, WX, WY, WZ, W0, W1, W2, W3, W4, Zk, Zl, Zm, Zn, Zo, Zp, Zq, Zr, Zs, Zt, Zu, Zv, Zw, Zx, Zy, Zz, ZA, ZB, ZC, ZD, ZE, ZF, ZG, ZH, ZI, ZJ, setAll, gv0, gv1, gl0, gl0o, gl0d, gl1, gf0, gf1, go0, go1, argsOf, W5, W6, W7, W8, W9, Za, Zb, Zc, Zd, Ze, Zf, Zg, Zh, Zi, Zj, Nat.reduceAdd, Nat.reduceSub]); (try simp only [Zk, Nat.zero_add, Nat.sub_self, Nat.add_zero, Nat.sub_zero, Int.one_mul, Int.toNat_natCast])
      unfold cmpI at hQ
      rw [if_pos (lt1 h)] at hQ
      exact hQ
    · rw [show decide (((xs.length : Nat) : Int) < ((ys.length : Nat) : Int)) = false by simp; omega]
      (try dsimp only [Wa, Wb, Wc, Wd, We, Wf, Wg, Wh, Wi, Wj, Wk, Wl, Wm, Wn, Wo, Wp, Wq, Wr, Ws, Wt, Wu, Wv, Ww, Wx, Wy, Wz, WA, WB, WC, WD, WE, WF, WG, WH, WI, WJ, WK, WL, WM, WN, WO, WP, WQ, WR, WS, WT, WU, WV, WW, WX, WY, WZ, W0, W1, W2, W3, W4, Zk, Zl, Zm, Zn, Zo, Zp, Zq, Zr, Zs, Zt, Zu, Zv, Zw, Zx, Zy, Zz, ZA, ZB, ZC, ZD, ZE, ZF, ZG, ZH, ZI, ZJ, setAll, gv0, gv1, gl0, gl0o, gl0d, gl1, gf0, gf1, go0, go1, argsOf, W5, W6, W7, W8, W9, Za, Zb, Zc, Zd, Ze, Zf, Zg, Zh, Zi, Zj, Nat.reduceAdd, Nat.reduceSub]); (try simp only [Zk, Nat.zero_add, Nat.sub_self, Nat.add_zero, Nat.sub_zero, Int.one_mul, Int.toNat_natCast])
      have := lt2 h
      unfold cmpI at hQ
      rw [if_neg (by omega), if_neg (by omega)] at hQ
      exact hQ
end
end Mine
end

section
open PySem PySem.W PyProof.Rows
namespace Mine
section
variable {prog : Program} {w0 : World} {G0 : Frz} {d : Option Addr} {fa : Nat → Addr} {N : Nat}

noncomputable def addTail : MSs := (.cons (.asgT (.cons 3 (.own (.list .nil)) (.cons 4 (.val (.int 0)) (.cons 5 (.val (.bin .sub (.bin .shl (.int 1) (.var 2)) (.int 1))) .nil)))) (.cons (.forS (.one 6) (.range1 (.lenv 1)) b3x0) (.cons (.forS (.one 6) (.range2 (.lenv 1) (.lenv 0)) b3x1) (.cons (.ifS (.cmp .gt (.var 4) (.int 0)) (.cons (.app 3 (.var 4)) .nil) .nil) (.frz 3 (.cons (.ret (.var 3)) .nil))))))
theorem mini3_eq : mini3 = .cons (.ifS (.cmp .lt (.lenv 0) (.lenv 1)) (.cons (.asgT (.cons 0 (.val (.var 1)) (.cons 1 (.val (.var 0)) .nil))) .nil) .nil) addTail := rfl
/-- the sum's body, the longer row ahead -/
theorem add_core {C : Nat → List PV → DS → (PV → DS → Prop) → Prop} {w : Nat} {xs ys : List Nat} (hw : 1 ≤ w ∧ w ≤ 9) (hx : Lim (2 ^ w) xs) (hy : Lim (2 ^ w) ys) (hl : ys.length ≤ xs.length) (lx : xs.length < 1000) (htop : xs ≠ [] → (2 ^ w) ^ (xs.length - 1) ≤ val (2 ^ w) xs) {D : DS} {Q : PV → DS → Prop}
    (hQ : Q (LN (dig (2 ^ w) (val (2 ^ w) xs + val (2 ^ w) ys))) D) {l1 l2 l3 l4 : Sl} :
    wpSs C addTail
      [.v (LN xs), .v (LN ys), .v (.int (w : Int)), l1, l2, l3, l4] D fun fl _ D' => match fl with | .ret p => Q p D' | .next => False := by
  have hb := two_le_pow hw.1
  have lim' := lim_eq
  generalize hB : 2 ^ w = b at *
  have hBi : (2 : Int) ^ w = (b : Int) := by rw [← hB]; simp
  (try dsimp only [addTail, Wa, Wb, Wc, Wd, We, Wf, Wg, Wh, Wi, Wj, Wk, Wl, Wm, Wn, Wo, Wp, Wq, Wr, Ws, Wt, Wu, Wv, Ww, Wx, Wy, Wz, WA, WB, WC, WD, WE, WF, WG, WH, WI, WJ, WK, WL, WM, WN, WO, WP, WQ, WR, WS, WT, WU, WV, WW, WX, WY, WZ, W0, W1, W2, W3, W4, Zk, Zl, Zm, Zn, Zo, Zp, Zq, Zr, Zs, Zt, Zu, Zv, Zw, Zx, Zy, Zz, ZA, ZB, ZC, ZD, ZE, ZF, ZG, ZH, ZI, ZJ, setAll, gv0, gv1, gl0, gl0o, gl0d, gl1, gf0, gf1, go0, go1, argsOf, W5, W6, W7, W8, W9, Za, Zb, Zc, Zd, Ze, Zf, Zg, Zh, Zi, Zj, Nat.reduceAdd, Nat.reduceSub]); (try simp only [addTail, List.length_map, Zk, Nat.zero_add, Nat.sub_self, Nat.add_zero, Nat.sub_zero, Int.one_mul, Int.toNat_natCast])
  refine ⟨by decide, ⟨by exact Int.natCast_nonneg _, by exact q6c (by assumption), by decide⟩, by simp; omega, ?_⟩
  rw [range_up, range_up_len]
  refine ⟨by omega, ?_⟩
  let J : Nat → Sg → DS → Prop := fun j σ D' => D' = D ∧ j ≤ xs.length ∧ ∃ (f : List Nat) (c : Nat) (l : Sl), f.length = j ∧ Lim b f ∧ c < 2 ∧ val b f + b ^ j * c = val b (xs.take j) + val b (ys.take j) ∧
    σ = [.v (LN xs), .v (LN ys), .v (.int (w : Int)), .own (f.map nv), .v (.int (c : Int)), .v (.int (2 ^ w - 1)), l]
  refine forW_inv J _ 0 _ _ ⟨rfl, by exact Nat.zero_le _, [], 0, l4, rfl, lim_nil b, by decide, by simp [val], rfl⟩ ?_ ?_
  · rintro j x σ D' K _ hxx ⟨rfl, hj', f, c, l, hf, hlf, hc, hv, rfl⟩ hK _
    obtain ⟨hj, rfl⟩ := map_at hxx
    rw [Nat.sub_zero] at hj ⊢
    have jx : j < xs.length := by omega
    (try dsimp only [b3x0, nv, Wa, Wb, Wc, Wd, We, Wf, Wg, Wh, Wi, Wj, Wk, Wl, Wm, Wn, Wo, Wp, Wq, Wr, Ws, Wt, Wu, Wv, Ww, Wx, Wy, Wz, WA, WB, WC, WD, WE, WF, WG, WH, WI, WJ, WK, WL, WM, WN, WO, WP, WQ, WR, WS, WT, WU, WV, WW, WX, WY, WZ, W0, W1, W2, W3, W4, Zk, Zl, Zm, Zn, Zo, Zp, Zq, Zr, Zs, Zt, Zu, Zv, Zw, Zx, Zy, Zz, ZA, ZB, ZC, ZD, ZE, ZF, ZG, ZH, ZI, ZJ, setAll, gv0, gv1, gl0, gl0o, gl0d, gl1, gf0, gf1, go0, go1, argsOf, W5, W6, W7, W8, W9, Za, Zb, Zc, Zd, Ze, Zf, Zg, Zh, Zi, Zj, Nat.reduceAdd, Nat.reduceSub]); (try simp only [b3x0, nv, Zk, Nat.zero_add, Nat.sub_self, Nat.add_zero, Nat.sub_zero, Int.one_mul, Int.toNat_natCast])
    refine idx_rule _ rfl (ln_get (List.getElem?_eq_getElem jx)) ?_
    (try dsimp only [Wa, Wb, Wc, Wd, We, Wf, Wg, Wh, Wi, Wj, Wk, Wl, Wm, Wn, Wo, Wp, Wq, Wr, Ws, Wt, Wu, Wv, Ww, Wx, Wy, Wz, WA, WB, WC, WD, WE, WF, WG, WH, WI, WJ, WK, WL, WM, WN, WO, WP, WQ, WR, WS, WT, WU, WV, WW, WX, WY, WZ, W0, W1, W2, W3, W4, Zk, Zl, Zm, Zn, Zo, Zp, Zq, Zr, Zs, Zt, Zu, Zv, Zw, Zx, Zy, Zz, ZA, ZB, ZC, ZD, ZE, ZF, ZG, ZH, ZI, ZJ, setAll, gv0, gv1, gl0, gl0o, gl0d, gl1, gf0, gf1, go0, go1, argsOf, W5, W6, W7, W8, W9, Za, Zb, Zc, Zd, Ze, Zf, Zg, Zh, Zi, Zj, Nat.reduceAdd, Nat.reduceSub]); (try simp only [Zk, Nat.zero_add, Nat.sub_self, Nat.add_zero, Nat.sub_zero, Int.one_mul, Int.toNat_natCast])
    refine idx_rule _ rfl (ln_get (List.getElem?_eq_getElem hj)) ?_
    (try dsimp only [Wa, Wb, Wc, Wd, We, Wf, Wg, Wh, Wi, Wj, Wk, Wl, Wm, Wn, Wo, Wp, Wq, Wr, Ws, Wt, Wu, Wv, Ww, Wx, Wy, Wz, WA, WB, WC, WD, WE, WF, WG, WH, WI, WJ, WK, WL, WM, WN, WO, WP, WQ, WR, WS, WT, WU, WV, WW, WX, WY, WZ, W0, W1, W2, W3, W4, Zk, Zl, Zm, Zn, Zo, Zp, Zq, Zr, Zs, Zt, Zu, Zv, Zw, Zx, Zy, Zz, ZA, ZB, ZC, ZD, ZE, ZF, ZG, ZH, ZI, ZJ, setAll, gv0, gv1, gl0, gl0o, gl0d, gl1, gf0, gf1, go0, go1, argsOf, W5, W6, W7, W8, W9, Za, Zb, Zc, Zd, Ze, Zf, Zg, Zh, Zi, Zj, Nat.reduceAdd, Nat.reduceSub]); (try simp only [Zk, Nat.zero_add, Nat.sub_self, Nat.add_zero, Nat.sub_zero, Int.one_mul, Int.toNat_natCast])
    refine ⟨by rw [List.length_map]; omega, by exact Int.natCast_nonneg _, ?_⟩
    rw [show ((c : Int) + ((xs[j] : Nat) + (ys[j] : Nat)) : Int) = ((c + xs[j] + ys[j] : Nat) : Int) by omega, band_mask, fdiv_pow, hB]
    have x1 := hx _ (List.getElem_mem jx)
    have y1 := hy _ (List.getElem_mem hj)
    refine hK _ _ ⟨rfl, jx, f ++ [(c + xs[j] + ys[j]) % b], (c + xs[j] + ys[j]) / b, _, by simp [hf], lim_snoc hlf (Nat.mod_lt _ (by exact Nat.le_of_lt (by assumption))), ?_, ?_, by rw [List.map_append]; rfl⟩
    · rw [Nat.div_lt_iff_lt_mul (by exact Nat.le_of_lt (by assumption))]; omega
    · rw [val_snoc, hf, Nat.pow_succ, take_succ_val _ _ jx, take_succ_val _ _ hj, carry_step hv]; omega
  · rintro σ D' ⟨rfl, hj', f, c, l, hf, hlf, hc, hv, rfl⟩
    simp only [List.length_map, List.length_range, Nat.zero_add] at hf hv hj'
    (try dsimp only [Wa, Wb, Wc, Wd, We, Wf, Wg, Wh, Wi, Wj, Wk, Wl, Wm, Wn, Wo, Wp, Wq, Wr, Ws, Wt, Wu, Wv, Ww, Wx, Wy, Wz, WA, WB, WC, WD, WE, WF, WG, WH, WI, WJ, WK, WL, WM, WN, WO, WP, WQ, WR, WS, WT, WU, WV, WW, WX, WY, WZ, W0, W1, W2, W3, W4, Zk, Zl, Zm, Zn, Zo, Zp, Zq, Zr, Zs, Zt, Zu, Zv, Zw, Zx, Zy, Zz, ZA, ZB, ZC, ZD, ZE, ZF, ZG, ZH, ZI, ZJ, setAll, gv0, gv1, gl0, gl0o, gl0d, gl1, gf0, gf1, go0, go1, argsOf, W5, W6, W7, W8, W9, Za, Zb, Zc, Zd, Ze, Zf, Zg, Zh, Zi, Zj, Nat.reduceAdd, Nat.reduceSub]); (try simp only [List.length_map, Zk, Nat.zero_add, Nat.sub_self, Nat.add_zero, Nat.sub_zero, Int.one_mul, Int.toNat_natCast])
    refine ⟨⟨by omega, by exact qlb (by assumption)⟩, ?_⟩
    rw [range_from, range_from_len]
    refine ⟨by omega, ?_⟩
    refine forW_inv J _ ys.length _ _ ⟨rfl, hl, f, c, l, hf, hlf, hc, hv, rfl⟩ ?_ ?_
    · rintro j x σ D'' K hle hxx ⟨rfl, hj', f, c, l, hf, hlf, hc, hv, rfl⟩ hK _
      obtain ⟨hj, rfl⟩ := map_at hxx
      have jx : j < xs.length := by omega
      rw [show ys.length + (j - ys.length) = j by omega]
      (try dsimp only [b3x1, nv, Wa, Wb, Wc, Wd, We, Wf, Wg, Wh, Wi, Wj, Wk, Wl, Wm, Wn, Wo, Wp, Wq, Wr, Ws, Wt, Wu, Wv, Ww, Wx, Wy, Wz, WA, WB, WC, WD, WE, WF, WG, WH, WI, WJ, WK, WL, WM, WN, WO, WP, WQ, WR, WS, WT, WU, WV, WW, WX, WY, WZ, W0, W1, W2, W3, W4, Zk, Zl, Zm, Zn, Zo, Zp, Zq, Zr, Zs, Zt, Zu, Zv, Zw, Zx, Zy, Zz, ZA, ZB, ZC, ZD, ZE, ZF, ZG, ZH, ZI, ZJ, setAll, gv0, gv1, gl0, gl0o, gl0d, gl1, gf0, gf1, go0, go1, argsOf, W5, W6, W7, W8, W9, Za, Zb, Zc, Zd, Ze, Zf, Zg, Zh, Zi, Zj, Nat.reduceAdd, Nat.reduceSub]); (try simp only [b3x1, nv, Zk, Nat.zero_add, Nat.sub_self, Nat.add_zero, Nat.sub_zero, Int.one_mul, Int.toNat_natCast])
      refine idx_rule _ rfl (ln_get (List.getElem?_eq_getElem jx)) ?_
      (try dsimp only [Wa, Wb, Wc, Wd, We, Wf, Wg, Wh, Wi, Wj, Wk, Wl, Wm, Wn, Wo, Wp, Wq, Wr, Ws, Wt, Wu, Wv, Ww, Wx, Wy, Wz, WA, WB, WC, WD, WE, WF, WG, WH, WI, WJ, WK, WL, WM, WN, WO, WP, WQ, WR, WS, WT, WU, WV, WW, WX, WY, WZ, W0, W1, W2, W3, W4, Zk, Zl, Zm, Zn, Zo, Zp, Zq, Zr, Zs, Zt, Zu, Zv, Zw, Zx, Zy, Zz, ZA, ZB, ZC, ZD, ZE, ZF, ZG, ZH, ZI, ZJ, setAll, gv0, gv1, gl0, gl0o, gl0d, gl1, gf0, gf1, go0, go1, argsOf, W5, W6, W7, W8, W9, Za, Zb, Zc, Zd, Ze, Zf, Zg, Zh, Zi, Zj, Nat.reduceAdd, Nat.reduceSub]); (try simp only [Zk, Nat.zero_add, Nat.sub_self, Nat.add_zero, Nat.sub_zero, Int.one_mul, Int.toNat_natCast])
      refine ⟨by rw [List.length_map]; omega, by exact Int.natCast_nonneg _, ?_⟩
      rw [show ((c : Int) + (xs[j] : Nat) : Int) = ((c + xs[j] + 0 : Nat) : Int) by exact (Int.natCast_add _ _).symm, band_mask, fdiv_pow, hB]
      have x1 := hx _ (List.getElem_mem jx)
      refine hK _ _ ⟨rfl, jx, f ++ [(c + xs[j] + 0) % b], (c + xs[j] + 0) / b, _, by simp [hf], lim_snoc hlf (Nat.mod_lt _ (by exact Nat.le_of_lt (by assumption))), ?_, ?_, by rw [List.map_append]; rfl⟩
      · rw [Nat.div_lt_iff_lt_mul (by exact Nat.le_of_lt (by assumption))]; omega
      · rw [val_snoc, hf, Nat.pow_succ, take_succ_val _ _ jx, carry_step hv, List.take_of_length_le (show ys.length ≤ j + 1 by omega), List.take_of_length_le (show ys.length ≤ j by assumption)]; omega
    · rintro σ D'' ⟨rfl, hj', f, c, l, hf, hlf, hc, hv, rfl⟩
      simp only [List.length_map, List.length_range] at hf hv hj'
      rw [show ys.length + (xs.length - ys.length) = xs.length by omega] at hf hv
      rw [List.take_length, List.take_of_length_le hl] at hv
      (try dsimp only [Wa, Wb, Wc, Wd, We, Wf, Wg, Wh, Wi, Wj, Wk, Wl, Wm, Wn, Wo, Wp, Wq, Wr, Ws, Wt, Wu, Wv, Ww, Wx, Wy, Wz, WA, WB, WC, WD, WE, WF, WG, WH, WI, WJ, WK, WL, WM, WN, WO, WP, WQ, WR, WS, WT, WU, WV, WW, WX, WY, WZ, W0, W1, W2, W3, W4, Zk, Zl, Zm, Zn, Zo, Zp, Zq, Zr, Zs, Zt, Zu, Zv, Zw, Zx, Zy, Zz, ZA, ZB, ZC, ZD, ZE, ZF, ZG, ZH, ZI, ZJ, setAll, gv0, gv1, gl0, gl0o, gl0d, gl1, gf0, gf1, go0, go1, argsOf, W5, W6, W7, W8, W9, Za, Zb, Zc, Zd, Ze, Zf, Zg, Zh, Zi, Zj, Nat.reduceAdd, Nat.reduceSub]); (try simp only [Zk, Nat.zero_add, Nat.sub_self, Nat.add_zero, Nat.sub_zero, Int.one_mul, Int.toNat_natCast])
      by_cases h0 : c = 0
      · subst h0
        rw [show decide (((0 : Nat) : Int) > 0) = false from rfl]
        (try dsimp only [Wa, Wb, Wc, Wd, We, Wf, Wg, Wh, Wi, Wj, Wk, Wl, Wm, Wn, Wo, Wp, Wq, Wr, Ws, Wt, Wu, Wv, Ww, Wx, Wy, Wz, WA, WB, WC, WD, WE, WF, WG, WH, WI, WJ, WK, WL, WM, WN, WO, WP, WQ, WR, WS, WT, WU, WV, WW, WX, WY, WZ, W0, W1, W2, W3, W4, Zk, Zl, Zm, Zn, Zo, Zp, Zq, Zr, Zs, Zt, Zu, Zv, Zw, Zx, Zy, Zz, ZA, ZB, ZC, ZD, ZE, ZF, ZG, ZH, ZI, ZJ, setAll, gv0, gv1, gl0, gl0o, gl0d, gl1, gf0, gf1, go0, go1, argsOf, W5, W6, W7, W8, W9, Za, Zb, Zc, Zd, Ze, Zf, Zg, Zh, Zi, Zj, Nat.reduceAdd, Nat.reduceSub]); (try simp only [Zk, Nat.zero_add, Nat.sub_self, Nat.add_zero, Nat.sub_zero, Int.one_mul, Int.toNat_natCast])
        rw [Nat.mul_zero, Nat.add_zero] at hv
        rw [← hv, dig_val hb f hlf (top_of_ge hb hlf fun hne => by
          have := htop (by rintro rfl; rw [List.length_nil] at hf; exact hne (List.length_eq_zero_iff.mp hf))
          rw [hf]; omega)] at hQ
        exact hQ
      · have hc1 : c = 1 := by omega
        subst hc1
        rw [show decide (((1 : Nat) : Int) > 0) = true from rfl]
        (try dsimp only [Wa, Wb, Wc, Wd, We, Wf, Wg, Wh, Wi, Wj, Wk, Wl, Wm, Wn, Wo, Wp, Wq, Wr, Ws, Wt, Wu, Wv, Ww, Wx, Wy, Wz, WA, WB, WC, WD, WE, WF, WG, WH, WI, WJ, WK, WL, WM, WN, WO, WP, WQ, WR, WS, WT, WU, WV, WW, WX, WY, WZ, W0, W1, W2, W3, W4, Zk, Zl, Zm, Zn, Zo, Zp, Zq, Zr, Zs, Zt, Zu, Zv, Zw, Zx, Zy, Zz, ZA, ZB, ZC, ZD, ZE, ZF, ZG, ZH, ZI, ZJ, setAll, gv0, gv1, gl0, gl0o, gl0d, gl1, gf0, gf1, go0, go1, argsOf, W5, W6, W7, W8, W9, Za, Zb, Zc, Zd, Ze, Zf, Zg, Zh, Zi, Zj, Nat.reduceAdd, Nat.reduceSub]); (try simp only [Zk, Nat.zero_add, Nat.sub_self, Nat.add_zero, Nat.sub_zero, Int.one_mul, Int.toNat_natCast])
        refine ⟨by rw [List.length_map]; omega, ?_⟩
        have e : val b (f ++ [1]) = val b xs + val b ys := by rw [val_snoc, hf]; exact hv
        have hl1 : Lim b (f ++ [1]) := lim_snoc hlf (by assumption)
        rw [← e, dig_val hb _ hl1 (top_snoc (by decide))] at hQ
        rw [show (List.map nv f ++ [PV.int ((1 : Nat) : Int)]) = (f ++ [1]).map nv by simp [nv]]
        exact hQ

theorem c_add (X : Txt G0 fa) (hN : 1 ≤ N) {w u v : Nat} (hw : 1 ≤ w ∧ w ≤ 9) (lu : (dig (2 ^ w) u).length < 1000) (lv : (dig (2 ^ w) v).length < 1000) {D : DS} {Q : PV → DS → Prop} (hQ : Q (num (2 ^ w) (u + v)) D) :
    CallOK prog w0 G0 d fa N 3 [num (2 ^ w) u, num (2 ^ w) v, .int (w : Int)] D Q := by
  refine CallOK.mono (fn_sound X.gl X.hall (N := 0) (F := fn3) (X.at_ 3 (by decide)) rfl good3 rfl ?_) hN fun _ _ h => h
  have hb := two_le_pow hw.1
  have tp : ∀ u, dig (2 ^ w) u ≠ [] → (2 ^ w) ^ ((dig (2 ^ w) u).length - 1) ≤ val (2 ^ w) (dig (2 ^ w) u) := fun u h => by
    rw [val_dig hb]; exact dig_len_ge hb (by rintro rfl; exact h rfl)
  simp only [fn3, mini3_eq]
  (try dsimp only [Wa, Wb, Wc, Wd, We, Wf, Wg, Wh, Wi, Wj, Wk, Wl, Wm, Wn, Wo, Wp, Wq, Wr, Ws, Wt, Wu, Wv, Ww, Wx, Wy, Wz, WA, WB, WC, WD, WE, WF, WG, WH, WI, WJ, WK, WL, WM, WN, WO, WP, WQ, WR, WS, WT, WU, WV, WW, WX, WY, WZ, W0, W1, W2, W3, W4, Zk, Zl, Zm, Zn, Zo, Zp, Zq, Zr, Zs, Zt, Zu, Zv, Zw, Zx, Zy, Zz, ZA, ZB, ZC, ZD, ZE, ZF, ZG, ZH, ZI, ZJ, setAll, gv0, gv1, gl0, gl0o, gl0d, gl1, gf0, gf1, go0, go1, argsOf, W5, W6, W7, W8, W9, Za, Zb, Zc, Zd, Ze, Zf, Zg, Zh, Zi, Zj, Nat.reduceAdd, Nat.reduceSub]); (try simp only [List.length_map, Zk, Nat.zero_add, Nat.sub_self, Nat.add_zero, Nat.sub_zero, Int.one_mul, Int.toNat_natCast])
  by_cases h : (dig (2 ^ w) u).length < (dig (2 ^ w) v).length
  · rw [show decide ((((dig (2 ^ w) u).length : Nat) : Int) < (((dig (2 ^ w) v).length : Nat) : Int)) = true by simp; exact h]
    simp only [Zp]
    refine add_core hw (lim_dig hb v) (lim_dig hb u) (by exact Nat.le_of_lt (by assumption)) lv (tp v) ?_
    rw [val_dig hb, val_dig hb, Nat.add_comm]; exact hQ
  · rw [show decide ((((dig (2 ^ w) u).length : Nat) : Int) < (((dig (2 ^ w) v).length : Nat) : Int)) = false by simp; omega]
    simp only [Zq]
    refine add_core hw (lim_dig hb u) (lim_dig hb v) (by omega) lu (tp u) ?_
    rw [val_dig hb, val_dig hb]; exact hQ
end
end Mine
end

section
open PySem PySem.W PyProof.Rows
namespace Mine
theorem bor_low {c x f : Nat} (h : c < 2 ^ f) : Builtin.bitOr (c : Int) ((x : Int) * 2 ^ f) = ((c + x * 2 ^ f : Nat) : Int) := by
  have e : ((x : Int) * 2 ^ f) = ((x * 2 ^ f : Nat) : Int) := by simp
  rw [bitOr_and, e, bitAnd_pp (by exact Int.natCast_nonneg _) (by exact Int.natCast_nonneg _), Int.toNat_natCast, Int.toNat_natCast, or_low c x f h]
  omega
theorem bor_low' {c x f : Nat} (h : c < 2 ^ f) : Builtin.bitOr (c : Int) ((x * 2 ^ f : Nat) : Int) = ((c + x * 2 ^ f : Nat) : Int) := by
  rw [bitOr_and, bitAnd_pp (by exact Int.natCast_nonneg _) (by exact Int.natCast_nonneg _), Int.toNat_natCast, Int.toNat_natCast, or_low c x f h]
  omega
section
variable {prog : Program} {w0 : World} {G0 : Frz} {d : Option Addr} {fa : Nat → Addr} {N : Nat}

theorem c_sub (X : Txt G0 fa) (hN : 2 ≤ N) {w u v : Nat} (hw : 1 ≤ w ∧ w ≤ 9) (lu : (dig (2 ^ w) u).length < 1000) (lv : (dig (2 ^ w) v).length < 1000) (huv : v ≤ u) {D : DS} {Q : PV → DS → Prop} (hQ : Q (num (2 ^ w) (u - v)) D) :
    CallOK prog w0 G0 d fa N 4 [num (2 ^ w) u, num (2 ^ w) v, .int (w : Int)] D Q := by
  refine CallOK.mono (fn_sound X.gl X.hall (N := 1) (F := fn4) (X.at_ 4 (by decide)) rfl good4 rfl ?_) hN fun _ _ h => h
  have hb := two_le_pow hw.1
  (try dsimp only [fn4, mini4, Wa, Wb, Wc, Wd, We, Wf, Wg, Wh, Wi, Wj, Wk, Wl, Wm, Wn, Wo, Wp, Wq, Wr, Ws, Wt, Wu, Wv, Ww, Wx, Wy, Wz, WA, WB, WC, WD, WE, WF, WG, WH, WI, WJ, WK, WL, WM, WN, WO, WP, WQ, WR, WS, WT, WU, WV, WW, WX, WY, WZ, W0, W1, W2, W3, W4, Zk, Zl, Zm, Zn, Zo, Zp, Zq, Zr, Zs, Zt, Zu, Zv, Zw, Zx, Zy, Zz, ZA, ZB, ZC, ZD, ZE, ZF, ZG, ZH, ZI, ZJ, setAll, gv0, gv1, gl0, gl0o, gl0d, gl1, gf0, gf1, go0, go1, argsOf, W5, W6, W7, W8, W9, Za, Zb, Zc, Zd, Ze, Zf, Zg, Zh, Zi, Zj, Nat.reduceAdd, Nat.reduceSub]); (try simp only [fn4, mini4, Zk, Nat.zero_add, Nat.sub_self, Nat.add_zero, Nat.sub_zero, Int.one_mul, Int.toNat_natCast])
  refine c_compare X (by decide) hw lu lv ?_
  have hc : decide (cmpI u v < 0) = false := by
    unfold cmpI
    rw [if_neg (by omega)]
    split <;> decide
  (try dsimp only [Wa, Wb, Wc, Wd, We, Wf, Wg, Wh, Wi, Wj, Wk, Wl, Wm, Wn, Wo, Wp, Wq, Wr, Ws, Wt, Wu, Wv, Ww, Wx, Wy, Wz, WA, WB, WC, WD, WE, WF, WG, WH, WI, WJ, WK, WL, WM, WN, WO, WP, WQ, WR, WS, WT, WU, WV, WW, WX, WY, WZ, W0, W1, W2, W3, W4, Zk, Zl, Zm, Zn, Zo, Zp, Zq, Zr, Zs, Zt, Zu, Zv, Zw, Zx, Zy, Zz, ZA, ZB, ZC, ZD, ZE, ZF, ZG, ZH, ZI, ZJ, setAll, gv0, gv1, gl0, gl0o, gl0d, gl1, gf0, gf1, go0, go1, argsOf, W5, W6, W7, W8, W9, Za, Zb, Zc, Zd, Ze, Zf, Zg, Zh, Zi, Zj, Nat.reduceAdd, Nat.reduceSub]); (try simp only [Zk, Nat.zero_add, Nat.sub_self, Nat.add_zero, Nat.sub_zero, Int.one_mul, Int.toNat_natCast])
  rw [hc]
  replace hQ : Q (LN (dig (2 ^ w) (u - v))) D := hQ
  have hx := lim_dig hb u
  have hy := lim_dig hb v
  have eu := val_dig hb u
  have ev := val_dig hb v
  have lle := len_le_of_le hb huv
  have lim' := lim_eq
  simp only [num]
  generalize dig (2 ^ w) u = xs at *
  generalize dig (2 ^ w) v = ys at *
  generalize hB : 2 ^ w = b at *
  have hBi : (2 : Int) ^ w = (b : Int) := by rw [← hB]; simp
  (try dsimp only [Wa, Wb, Wc, Wd, We, Wf, Wg, Wh, Wi, Wj, Wk, Wl, Wm, Wn, Wo, Wp, Wq, Wr, Ws, Wt, Wu, Wv, Ww, Wx, Wy, Wz, WA, WB, WC, WD, WE, WF, WG, WH, WI, WJ, WK, WL, WM, WN, WO, WP, WQ, WR, WS, WT, WU, WV, WW, WX, WY, WZ, W0, W1, W2, W3, W4, Zk, Zl, Zm, Zn, Zo, Zp, Zq, Zr, Zs, Zt, Zu, Zv, Zw, Zx, Zy, Zz, ZA, ZB, ZC, ZD, ZE, ZF, ZG, ZH, ZI, ZJ, setAll, gv0, gv1, gl0, gl0o, gl0d, gl1, gf0, gf1, go0, go1, argsOf, W5, W6, W7, W8, W9, Za, Zb, Zc, Zd, Ze, Zf, Zg, Zh, Zi, Zj, Nat.reduceAdd, Nat.reduceSub]); (try simp only [List.length_map, Zk, Nat.zero_add, Nat.sub_self, Nat.add_zero, Nat.sub_zero, Int.one_mul, Int.toNat_natCast])
  refine ⟨by decide, ⟨by exact Int.natCast_nonneg _, by exact q6c (by assumption), by decide⟩, by simp; omega, ?_⟩
  rw [range_up, range_up_len]
  refine ⟨by exact qlb (by assumption), ?_⟩
  refine forW_inv (fun j σ D' => D' = D ∧ ∃ (f : List Nat) (c : Nat) (l6 l : Sl), f.length = j ∧ Lim b f ∧ c < 2 ∧ val b f + val b (ys.take j) = val b (xs.take j) + b ^ j * c ∧
    σ = [.v (LN xs), .v (LN ys), .v (.int (w : Int)), .own (f.map nv), .v (.int (c : Int)), .v (.int (2 ^ w)), l6, l]) _ 0 _ _ ⟨rfl, [], 0, _, _, rfl, lim_nil b, by decide, by simp [val], rfl⟩ ?_ ?_
  · rintro j x σ D' K _ hxx ⟨rfl, f, c, l6, l, hf, hlf, hc, hv, rfl⟩ hK _
    obtain ⟨hj, rfl⟩ := map_at hxx
    rw [Nat.sub_zero] at hj ⊢
    have x1 := hx _ (List.getElem_mem hj)
    (try dsimp only [b4x0, nv, Wa, Wb, Wc, Wd, We, Wf, Wg, Wh, Wi, Wj, Wk, Wl, Wm, Wn, Wo, Wp, Wq, Wr, Ws, Wt, Wu, Wv, Ww, Wx, Wy, Wz, WA, WB, WC, WD, WE, WF, WG, WH, WI, WJ, WK, WL, WM, WN, WO, WP, WQ, WR, WS, WT, WU, WV, WW, WX, WY, WZ, W0, W1, W2, W3, W4, Zk, Zl, Zm, Zn, Zo, Zp, Zq, Zr, Zs, Zt, Zu, Zv, Zw, Zx, Zy, Zz, ZA, ZB, ZC, ZD, ZE, ZF, ZG, ZH, ZI, ZJ, setAll, gv0, gv1, gl0, gl0o, gl0d, gl1, gf0, gf1, go0, go1, argsOf, W5, W6, W7, W8, W9, Za, Zb, Zc, Zd, Ze, Zf, Zg, Zh, Zi, Zj, Nat.reduceAdd, Nat.reduceSub]); (try simp only [b4x0, nv, Zk, Nat.zero_add, Nat.sub_self, Nat.add_zero, Nat.sub_zero, Int.one_mul, Int.toNat_natCast])
    refine idx_rule _ rfl (ln_get (List.getElem?_eq_getElem hj)) ?_
    (try dsimp only [Wa, Wb, Wc, Wd, We, Wf, Wg, Wh, Wi, Wj, Wk, Wl, Wm, Wn, Wo, Wp, Wq, Wr, Ws, Wt, Wu, Wv, Ww, Wx, Wy, Wz, WA, WB, WC, WD, WE, WF, WG, WH, WI, WJ, WK, WL, WM, WN, WO, WP, WQ, WR, WS, WT, WU, WV, WW, WX, WY, WZ, W0, W1, W2, W3, W4, Zk, Zl, Zm, Zn, Zo, Zp, Zq, Zr, Zs, Zt, Zu, Zv, Zw, Zx, Zy, Zz, ZA, ZB, ZC, ZD, ZE, ZF, ZG, ZH, ZI, ZJ, setAll, gv0, gv1, gl0, gl0o, gl0d, gl1, gf0, gf1, go0, go1, argsOf, W5, W6, W7, W8, W9, Za, Zb, Zc, Zd, Ze, Zf, Zg, Zh, Zi, Zj, Nat.reduceAdd, Nat.reduceSub]); (try simp only [List.length_map, Zk, Nat.zero_add, Nat.sub_self, Nat.add_zero, Nat.sub_zero, Int.one_mul, Int.toNat_natCast])
    -- the other row's limb, or nought
    have finN : ∀ (y : Nat) (yi : Int), yi = y → y < b → ys.getD j 0 = y → ((xs[j] : Int) - c - yi < 0) → K .next [.v (LN xs), .v (LN ys), .v (.int (w : Int)), .own (f.map nv ++ [.int ((xs[j] : Int) - c - yi + 2 ^ w)]), .v (.int 1), .v (.int (2 ^ w)), .v (.int (j : Int)), .v (.int ((xs[j] : Int) - c - yi))] D' := by
      rintro y yi rfl hyb hyj hneg
      refine hK _ _ ⟨rfl, f ++ [xs[j] + b - c - y], 1, .v (.int (j : Int)), .v (.int ((xs[j] : Int) - c - y)), by simp [hf], lim_snoc hlf (by omega), by decide, ?_, ?_⟩
      · rw [val_snoc, hf, take_succ_val _ _ hj, take_succ_getD, hyj, Nat.pow_succ]
        have e : xs[j] + b - c - y + y + c = xs[j] + b * 1 := by omega
        have e2 : b ^ j * (xs[j] + b - c - y) + b ^ j * y + b ^ j * c = b ^ j * xs[j] + b ^ j * b * 1 := by
          rw [← Nat.mul_add, ← Nat.mul_add, e, Nat.mul_add, Nat.mul_assoc]
        omega
      · rw [hBi, show (xs[j] : Int) - c - y + (b : Int) = ((xs[j] + b - c - y : Nat) : Int) by omega, List.map_append]; rfl
    have finP : ∀ (y : Nat) (yi : Int), yi = y → y < b → ys.getD j 0 = y → ¬ ((xs[j] : Int) - c - yi < 0) → K .next [.v (LN xs), .v (LN ys), .v (.int (w : Int)), .own (f.map nv ++ [.int ((xs[j] : Int) - c - yi)]), .v (.int 0), .v (.int (2 ^ w)), .v (.int (j : Int)), .v (.int ((xs[j] : Int) - c - yi))] D' := by
      rintro y yi rfl hyb hyj hneg
      refine hK _ _ ⟨rfl, f ++ [xs[j] - c - y], 0, .v (.int (j : Int)), .v (.int ((xs[j] : Int) - c - y)), by simp [hf], lim_snoc hlf (by omega), by decide, ?_, ?_⟩
      · rw [val_snoc, hf, take_succ_val _ _ hj, take_succ_getD, hyj]
        have e2 : b ^ j * (xs[j] - c - y) + b ^ j * y + b ^ j * c = b ^ j * xs[j] := by
          rw [← Nat.mul_add, ← Nat.mul_add]
          congr 1; omega
        omega
      · rw [show (xs[j] : Int) - c - y = ((xs[j] - c - y : Nat) : Int) by omega, List.map_append]; rfl
    by_cases hjy : j < ys.length
    · rw [show decide ((j : Int) < (ys.length : Int)) = true by simpa using hjy]
      (try dsimp only [Wa, Wb, Wc, Wd, We, Wf, Wg, Wh, Wi, Wj, Wk, Wl, Wm, Wn, Wo, Wp, Wq, Wr, Ws, Wt, Wu, Wv, Ww, Wx, Wy, Wz, WA, WB, WC, WD, WE, WF, WG, WH, WI, WJ, WK, WL, WM, WN, WO, WP, WQ, WR, WS, WT, WU, WV, WW, WX, WY, WZ, W0, W1, W2, W3, W4, Zk, Zl, Zm, Zn, Zo, Zp, Zq, Zr, Zs, Zt, Zu, Zv, Zw, Zx, Zy, Zz, ZA, ZB, ZC, ZD, ZE, ZF, ZG, ZH, ZI, ZJ, setAll, gv0, gv1, gl0, gl0o, gl0d, gl1, gf0, gf1, go0, go1, argsOf, W5, W6, W7, W8, W9, Za, Zb, Zc, Zd, Ze, Zf, Zg, Zh, Zi, Zj, Nat.reduceAdd, Nat.reduceSub]); (try simp only [Zk, Nat.zero_add, Nat.sub_self, Nat.add_zero, Nat.sub_zero, Int.one_mul, Int.toNat_natCast])
      refine idx_rule _ rfl (ln_get (List.getElem?_eq_getElem hjy)) ?_
      (try dsimp only [Wa, Wb, Wc, Wd, We, Wf, Wg, Wh, Wi, Wj, Wk, Wl, Wm, Wn, Wo, Wp, Wq, Wr, Ws, Wt, Wu, Wv, Ww, Wx, Wy, Wz, WA, WB, WC, WD, WE, WF, WG, WH, WI, WJ, WK, WL, WM, WN, WO, WP, WQ, WR, WS, WT, WU, WV, WW, WX, WY, WZ, W0, W1, W2, W3, W4, Zk, Zl, Zm, Zn, Zo, Zp, Zq, Zr, Zs, Zt, Zu, Zv, Zw, Zx, Zy, Zz, ZA, ZB, ZC, ZD, ZE, ZF, ZG, ZH, ZI, ZJ, setAll, gv0, gv1, gl0, gl0o, gl0d, gl1, gf0, gf1, go0, go1, argsOf, W5, W6, W7, W8, W9, Za, Zb, Zc, Zd, Ze, Zf, Zg, Zh, Zi, Zj, Nat.reduceAdd, Nat.reduceSub]); (try simp only [Zk, Nat.zero_add, Nat.sub_self, Nat.add_zero, Nat.sub_zero, Int.one_mul, Int.toNat_natCast])
      have hyb := hy _ (List.getElem_mem hjy)
      have hyj : ys.getD j 0 = ys[j] := by rw [List.getD_eq_getElem?_getD, List.getElem?_eq_getElem hjy]; rfl
      by_cases hneg : ((xs[j] : Int) - c - ys[j] < 0)
      · rw [show decide ((xs[j] : Int) - c - ys[j] < 0) = true by simpa using hneg]
        (try dsimp only [Wa, Wb, Wc, Wd, We, Wf, Wg, Wh, Wi, Wj, Wk, Wl, Wm, Wn, Wo, Wp, Wq, Wr, Ws, Wt, Wu, Wv, Ww, Wx, Wy, Wz, WA, WB, WC, WD, WE, WF, WG, WH, WI, WJ, WK, WL, WM, WN, WO, WP, WQ, WR, WS, WT, WU, WV, WW, WX, WY, WZ, W0, W1, W2, W3, W4, Zk, Zl, Zm, Zn, Zo, Zp, Zq, Zr, Zs, Zt, Zu, Zv, Zw, Zx, Zy, Zz, ZA, ZB, ZC, ZD, ZE, ZF, ZG, ZH, ZI, ZJ, setAll, gv0, gv1, gl0, gl0o, gl0d, gl1, gf0, gf1, go0, go1, argsOf, W5, W6, W7, W8, W9, Za, Zb, Zc, Zd, Ze, Zf, Zg, Zh, Zi, Zj, Nat.reduceAdd, Nat.reduceSub]); (try simp only [Zk, Nat.zero_add, Nat.sub_self, Nat.add_zero, Nat.sub_zero, Int.one_mul, Int.toNat_natCast])
        exact ⟨by omega, finN _ _ rfl hyb hyj hneg⟩
      · rw [show decide ((xs[j] : Int) - c - ys[j] < 0) = false by simpa using hneg]
        (try dsimp only [Wa, Wb, Wc, Wd, We, Wf, Wg, Wh, Wi, Wj, Wk, Wl, Wm, Wn, Wo, Wp, Wq, Wr, Ws, Wt, Wu, Wv, Ww, Wx, Wy, Wz, WA, WB, WC, WD, WE, WF, WG, WH, WI, WJ, WK, WL, WM, WN, WO, WP, WQ, WR, WS, WT, WU, WV, WW, WX, WY, WZ, W0, W1, W2, W3, W4, Zk, Zl, Zm, Zn, Zo, Zp, Zq, Zr, Zs, Zt, Zu, Zv, Zw, Zx, Zy, Zz, ZA, ZB, ZC, ZD, ZE, ZF, ZG, ZH, ZI, ZJ, setAll, gv0, gv1, gl0, gl0o, gl0d, gl1, gf0, gf1, go0, go1, argsOf, W5, W6, W7, W8, W9, Za, Zb, Zc, Zd, Ze, Zf, Zg, Zh, Zi, Zj, Nat.reduceAdd, Nat.reduceSub]); (try simp only [Zk, Nat.zero_add, Nat.sub_self, Nat.add_zero, Nat.sub_zero, Int.one_mul, Int.toNat_natCast])
        exact ⟨by omega, finP _ _ rfl hyb hyj hneg⟩
    · rw [show decide ((j : Int) < (ys.length : Int)) = false by simpa using hjy]
      (try dsimp only [Wa, Wb, Wc, Wd, We, Wf, Wg, Wh, Wi, Wj, Wk, Wl, Wm, Wn, Wo, Wp, Wq, Wr, Ws, Wt, Wu, Wv, Ww, Wx, Wy, Wz, WA, WB, WC, WD, WE, WF, WG, WH, WI, WJ, WK, WL, WM, WN, WO, WP, WQ, WR, WS, WT, WU, WV, WW, WX, WY, WZ, W0, W1, W2, W3, W4, Zk, Zl, Zm, Zn, Zo, Zp, Zq, Zr, Zs, Zt, Zu, Zv, Zw, Zx, Zy, Zz, ZA, ZB, ZC, ZD, ZE, ZF, ZG, ZH, ZI, ZJ, setAll, gv0, gv1, gl0, gl0o, gl0d, gl1, gf0, gf1, go0, go1, argsOf, W5, W6, W7, W8, W9, Za, Zb, Zc, Zd, Ze, Zf, Zg, Zh, Zi, Zj, Nat.reduceAdd, Nat.reduceSub]); (try simp only [Zk, Nat.zero_add, Nat.sub_self, Nat.add_zero, Nat.sub_zero, Int.one_mul, Int.toNat_natCast])
      have hyj : ys.getD j 0 = 0 := by rw [List.getD_eq_getElem?_getD, List.getElem?_eq_none (by omega)]; rfl
      by_cases hneg : ((xs[j] : Int) - c - 0 < 0)
      · rw [show decide ((xs[j] : Int) - c - 0 < 0) = true by simpa using hneg]
        (try dsimp only [Wa, Wb, Wc, Wd, We, Wf, Wg, Wh, Wi, Wj, Wk, Wl, Wm, Wn, Wo, Wp, Wq, Wr, Ws, Wt, Wu, Wv, Ww, Wx, Wy, Wz, WA, WB, WC, WD, WE, WF, WG, WH, WI, WJ, WK, WL, WM, WN, WO, WP, WQ, WR, WS, WT, WU, WV, WW, WX, WY, WZ, W0, W1, W2, W3, W4, Zk, Zl, Zm, Zn, Zo, Zp, Zq, Zr, Zs, Zt, Zu, Zv, Zw, Zx, Zy, Zz, ZA, ZB, ZC, ZD, ZE, ZF, ZG, ZH, ZI, ZJ, setAll, gv0, gv1, gl0, gl0o, gl0d, gl1, gf0, gf1, go0, go1, argsOf, W5, W6, W7, W8, W9, Za, Zb, Zc, Zd, Ze, Zf, Zg, Zh, Zi, Zj, Nat.reduceAdd, Nat.reduceSub]); (try simp only [Zk, Nat.zero_add, Nat.sub_self, Nat.add_zero, Nat.sub_zero, Int.one_mul, Int.toNat_natCast])
        exact ⟨by omega, finN 0 0 rfl (by exact Nat.le_of_lt (by assumption)) hyj hneg⟩
      · rw [show decide ((xs[j] : Int) - c - 0 < 0) = false by simpa using hneg]
        (try dsimp only [Wa, Wb, Wc, Wd, We, Wf, Wg, Wh, Wi, Wj, Wk, Wl, Wm, Wn, Wo, Wp, Wq, Wr, Ws, Wt, Wu, Wv, Ww, Wx, Wy, Wz, WA, WB, WC, WD, WE, WF, WG, WH, WI, WJ, WK, WL, WM, WN, WO, WP, WQ, WR, WS, WT, WU, WV, WW, WX, WY, WZ, W0, W1, W2, W3, W4, Zk, Zl, Zm, Zn, Zo, Zp, Zq, Zr, Zs, Zt, Zu, Zv, Zw, Zx, Zy, Zz, ZA, ZB, ZC, ZD, ZE, ZF, ZG, ZH, ZI, ZJ, setAll, gv0, gv1, gl0, gl0o, gl0d, gl1, gf0, gf1, go0, go1, argsOf, W5, W6, W7, W8, W9, Za, Zb, Zc, Zd, Ze, Zf, Zg, Zh, Zi, Zj, Nat.reduceAdd, Nat.reduceSub]); (try simp only [Zk, Nat.zero_add, Nat.sub_self, Nat.add_zero, Nat.sub_zero, Int.one_mul, Int.toNat_natCast])
        exact ⟨by omega, finP 0 0 rfl (by exact Nat.le_of_lt (by assumption)) hyj hneg⟩
  · rintro σ D' ⟨rfl, f, c, l6, l, hf, hlf, hc, hv, rfl⟩
    simp only [List.length_map, List.length_range, Nat.zero_add] at hf hv
    rw [List.take_length, List.take_of_length_le lle] at hv
    (try dsimp only [Wa, Wb, Wc, Wd, We, Wf, Wg, Wh, Wi, Wj, Wk, Wl, Wm, Wn, Wo, Wp, Wq, Wr, Ws, Wt, Wu, Wv, Ww, Wx, Wy, Wz, WA, WB, WC, WD, WE, WF, WG, WH, WI, WJ, WK, WL, WM, WN, WO, WP, WQ, WR, WS, WT, WU, WV, WW, WX, WY, WZ, W0, W1, W2, W3, W4, Zk, Zl, Zm, Zn, Zo, Zp, Zq, Zr, Zs, Zt, Zu, Zv, Zw, Zx, Zy, Zz, ZA, ZB, ZC, ZD, ZE, ZF, ZG, ZH, ZI, ZJ, setAll, gv0, gv1, gl0, gl0o, gl0d, gl1, gf0, gf1, go0, go1, argsOf, W5, W6, W7, W8, W9, Za, Zb, Zc, Zd, Ze, Zf, Zg, Zh, Zi, Zj, Nat.reduceAdd, Nat.reduceSub]); (try simp only [Zk, Nat.zero_add, Nat.sub_self, Nat.add_zero, Nat.sub_zero, Int.one_mul, Int.toNat_natCast])
    refine c_normal X (by decide) ?_
    have hvl := val_lt hb f hlf
    have c0 : c = 0 := by
      rcases Nat.lt_or_ge c 1 with h | h
      · omega
      · have : c = 1 := by omega
        subst this
        rw [hf] at hvl
        omega
    subst c0
    rw [take_cut hb hlf, show val b f = u - v by omega]
    exact hQ
end
end Mine
end

section
open PySem PySem.W PyProof.Rows
namespace Mine
theorem ln_take {xs : List Nat} {j : Nat} {x : PV} (h : (xs.map nv)[j]? = some x) : ∃ hj : j < xs.length, x = .int ((xs[j] : Nat) : Int) := ln_at h
theorem map_rep (k : Nat) : (List.replicate k 0).map nv = List.replicate k (.int 0) := by rw [List.map_replicate]; rfl
section
variable {prog : Program} {w0 : World} {G0 : Frz} {d : Option Addr} {fa : Nat → Addr} {N : Nat}

theorem c_shift_left (X : Txt G0 fa) (hN : 1 ≤ N) {w u n : Nat} (hw : 1 ≤ w ∧ w ≤ 9) (lu : (dig (2 ^ w) u).length < 1000) (ln : n < 2000) {D : DS} {Q : PV → DS → Prop} (hQ : Q (num (2 ^ w) (u * 2 ^ n)) D) :
    CallOK prog w0 G0 d fa N 5 [num (2 ^ w) u, .int (n : Int), .int (w : Int)] D Q := by
  refine CallOK.mono (fn_sound X.gl X.hall (N := 0) (F := fn5) (X.at_ 5 (by decide)) rfl good5 rfl ?_) hN fun _ _ h => h
  have hb := two_le_pow hw.1
  replace hQ : Q (LN (dig (2 ^ w) (u * 2 ^ n))) D := hQ
  simp only [num]
  have hx := lim_dig hb u
  have eu := val_dig hb u
  have ez : (dig (2 ^ w) u).length = 0 → u = 0 := fun h => by
    rcases Nat.eq_zero_or_pos u with h0 | h0
    · exact h0
    · rw [dig_pos hb (by omega)] at h; simp at h
  have ez' : u = 0 → (dig (2 ^ w) u).length = 0 := by rintro rfl; rfl
  have hge : u ≠ 0 → (2 ^ w) ^ ((dig (2 ^ w) u).length - 1) ≤ u := dig_len_ge hb
  have lim' := lim_eq
  generalize dig (2 ^ w) u = xs at *
  (try dsimp only [fn5, mini5, Wa, Wb, Wc, Wd, We, Wf, Wg, Wh, Wi, Wj, Wk, Wl, Wm, Wn, Wo, Wp, Wq, Wr, Ws, Wt, Wu, Wv, Ww, Wx, Wy, Wz, WA, WB, WC, WD, WE, WF, WG, WH, WI, WJ, WK, WL, WM, WN, WO, WP, WQ, WR, WS, WT, WU, WV, WW, WX, WY, WZ, W0, W1, W2, W3, W4, Zk, Zl, Zm, Zn, Zo, Zp, Zq, Zr, Zs, Zt, Zu, Zv, Zw, Zx, Zy, Zz, ZA, ZB, ZC, ZD, ZE, ZF, ZG, ZH, ZI, ZJ, setAll, gv0, gv1, gl0, gl0o, gl0d, gl1, gf0, gf1, go0, go1, argsOf, W5, W6, W7, W8, W9, Za, Zb, Zc, Zd, Ze, Zf, Zg, Zh, Zi, Zj, Nat.reduceAdd, Nat.reduceSub]); (try simp only [fn5, mini5, List.length_map, Zk, Nat.zero_add, Nat.sub_self, Nat.add_zero, Nat.sub_zero, Int.one_mul, Int.toNat_natCast])
  by_cases h0 : xs.length = 0
  · rw [show (((xs.length : Nat) : Int) == 0) = true by simp [h0]]
    (try dsimp only [Wa, Wb, Wc, Wd, We, Wf, Wg, Wh, Wi, Wj, Wk, Wl, Wm, Wn, Wo, Wp, Wq, Wr, Ws, Wt, Wu, Wv, Ww, Wx, Wy, Wz, WA, WB, WC, WD, WE, WF, WG, WH, WI, WJ, WK, WL, WM, WN, WO, WP, WQ, WR, WS, WT, WU, WV, WW, WX, WY, WZ, W0, W1, W2, W3, W4, Zk, Zl, Zm, Zn, Zo, Zp, Zq, Zr, Zs, Zt, Zu, Zv, Zw, Zx, Zy, Zz, ZA, ZB, ZC, ZD, ZE, ZF, ZG, ZH, ZI, ZJ, setAll, gv0, gv1, gl0, gl0o, gl0d, gl1, gf0, gf1, go0, go1, argsOf, W5, W6, W7, W8, W9, Za, Zb, Zc, Zd, Ze, Zf, Zg, Zh, Zi, Zj, Nat.reduceAdd, Nat.reduceSub]); (try simp only [Zk, Nat.zero_add, Nat.sub_self, Nat.add_zero, Nat.sub_zero, Int.one_mul, Int.toNat_natCast])
    have : u = 0 := ez h0
    subst this
    rw [Nat.zero_mul, dig_zero] at hQ
    exact ⟨by decide, hQ⟩
  rw [show (((xs.length : Nat) : Int) == 0) = false by simp; exact fun h => h0 (by rw [h]; rfl)]
  (try dsimp only [Wa, Wb, Wc, Wd, We, Wf, Wg, Wh, Wi, Wj, Wk, Wl, Wm, Wn, Wo, Wp, Wq, Wr, Ws, Wt, Wu, Wv, Ww, Wx, Wy, Wz, WA, WB, WC, WD, WE, WF, WG, WH, WI, WJ, WK, WL, WM, WN, WO, WP, WQ, WR, WS, WT, WU, WV, WW, WX, WY, WZ, W0, W1, W2, W3, W4, Zk, Zl, Zm, Zn, Zo, Zp, Zq, Zr, Zs, Zt, Zu, Zv, Zw, Zx, Zy, Zz, ZA, ZB, ZC, ZD, ZE, ZF, ZG, ZH, ZI, ZJ, setAll, gv0, gv1, gl0, gl0o, gl0d, gl1, gf0, gf1, go0, go1, argsOf, W5, W6, W7, W8, W9, Za, Zb, Zc, Zd, Ze, Zf, Zg, Zh, Zi, Zj, Nat.reduceAdd, Nat.reduceSub]); (try simp only [Zk, Nat.zero_add, Nat.sub_self, Nat.add_zero, Nat.sub_zero, Int.one_mul, Int.toNat_natCast])
  have hdm := Nat.div_add_mod n w
  have hml := Nat.mod_lt n (show w > 0 by omega)
  have hdl : n / w ≤ n := Nat.div_le_self _ _
  refine ⟨⟨by exact qn0 (by assumption), by exact q64c (by assumption)⟩, by exact qn0 (by assumption), ?_⟩
  rw [fdiv_nat, fmod_nat]
  generalize n / w = sp at *
  generalize n % w = fw at *
  refine ⟨⟨by exact Int.natCast_nonneg _, by omega⟩, ⟨by exact Int.natCast_nonneg _, by exact q6c (by assumption), by decide⟩, ?_⟩
  simp only [Int.toNat_natCast]
  refine ⟨by exact qlb (by assumption), ?_⟩
  have hp : 2 ^ fw ≤ 2 ^ w := Nat.pow_le_pow_right (by decide) (by exact Nat.le_of_lt (by assumption))
  have ht : (2 ^ w) ^ sp * 2 ^ fw = 2 ^ n := by rw [← Nat.pow_mul, ← Nat.pow_add, hdm]
  have hwp : 2 ^ w ≤ 512 := by
    have := Nat.pow_le_pow_right (n := 2) (by decide) hw.2
    simpa using this
  have hfp := Nat.pow_pos (n := fw) (show 0 < 2 by decide)
  generalize hB : 2 ^ w = b at *
  have hBi : (2 : Int) ^ w = (b : Int) := by rw [← hB]; simp
  rw [← map_rep]
  refine forW_inv (fun j σ D' => D' = D ∧ j ≤ xs.length ∧ ∃ (g : List Nat) (c : Nat) (l : Sl), g.length = j ∧ Lim b g ∧ c < 2 ^ fw ∧ val b g + b ^ j * c = val b (xs.take j) * 2 ^ fw ∧
    σ = [.v (LN xs), .v (.int (n : Int)), .v (.int (w : Int)), .v (.int (sp : Int)), .v (.int (fw : Int)), .own ((List.replicate sp 0 ++ g).map nv), .v (.int (c : Int)), .v (.int (2 ^ w - 1)), l]) _ 0 _ _ ⟨rfl, by exact Nat.zero_le _, [], 0, _, rfl, lim_nil b, hfp, by simp [val], by rw [List.append_nil]; rfl⟩ ?_ ?_
  · rintro j x σ D' K _ hxx ⟨rfl, hj', g, c, l, hg, hlg, hc, hv, rfl⟩ hK _
    obtain ⟨hj, rfl⟩ := ln_take hxx
    simp only [Nat.sub_zero] at hj ⊢
    have x1 := hx _ (List.getElem_mem hj)
    (try dsimp only [b5x0, Wa, Wb, Wc, Wd, We, Wf, Wg, Wh, Wi, Wj, Wk, Wl, Wm, Wn, Wo, Wp, Wq, Wr, Ws, Wt, Wu, Wv, Ww, Wx, Wy, Wz, WA, WB, WC, WD, WE, WF, WG, WH, WI, WJ, WK, WL, WM, WN, WO, WP, WQ, WR, WS, WT, WU, WV, WW, WX, WY, WZ, W0, W1, W2, W3, W4, Zk, Zl, Zm, Zn, Zo, Zp, Zq, Zr, Zs, Zt, Zu, Zv, Zw, Zx, Zy, Zz, ZA, ZB, ZC, ZD, ZE, ZF, ZG, ZH, ZI, ZJ, setAll, gv0, gv1, gl0, gl0o, gl0d, gl1, gf0, gf1, go0, go1, argsOf, W5, W6, W7, W8, W9, Za, Zb, Zc, Zd, Ze, Zf, Zg, Zh, Zi, Zj, Nat.reduceAdd, Nat.reduceSub]); (try simp only [b5x0, Zk, Nat.zero_add, Nat.sub_self, Nat.add_zero, Nat.sub_zero, Int.one_mul, Int.toNat_natCast])
    refine ⟨⟨by exact Int.natCast_nonneg _, by omega, by omega⟩, ?_⟩
    rw [bor_low hc]
    refine ⟨by simp; omega, by exact Int.natCast_nonneg _, ?_⟩
    rw [band_mask, fdiv_pow, hB]
    have hmul : xs[j] * 2 ^ fw ≤ (b - 1) * 2 ^ fw := Nat.mul_le_mul_right _ (by omega)
    have hmul2 : (b - 1) * 2 ^ fw + 2 ^ fw = b * 2 ^ fw := by
      rw [Nat.sub_mul, Nat.one_mul]
      have : 2 ^ fw ≤ b * 2 ^ fw := Nat.le_mul_of_pos_left _ (by exact Nat.le_of_lt (by assumption))
      omega
    refine hK _ _ ⟨rfl, hj, g ++ [(c + xs[j] * 2 ^ fw) % b], (c + xs[j] * 2 ^ fw) / b, _, by simp [hg], lim_snoc hlg (Nat.mod_lt _ (by exact Nat.le_of_lt (by assumption))), ?_, ?_, by simp only [← List.append_assoc, List.map_append]; rfl⟩
    · rw [Nat.div_lt_iff_lt_mul (by exact Nat.le_of_lt (by assumption)), Nat.mul_comm (2 ^ fw)]; omega
    · rw [val_snoc, hg, Nat.pow_succ, take_succ_val _ _ hj, Nat.add_mul]
      have := carry_step (b := b) (x := xs[j] * 2 ^ fw) (y := 0) hv
      rw [Nat.add_zero, Nat.mul_zero, Nat.add_zero] at this
      rw [this, Nat.mul_assoc]
  · rintro σ D' ⟨rfl, hj', g, c, l, hg, hlg, hc, hv, rfl⟩
    simp only [List.length_map, Nat.zero_add] at hg hv
    rw [List.take_length, eu] at hv
    have hu0 : u ≠ 0 := fun e => h0 (ez' e)
    have tot : val b (List.replicate sp 0 ++ g) + b ^ (sp + xs.length) * c = u * 2 ^ n := by
      rw [val_append, val_zeros, List.length_replicate, Nat.zero_add, ← ht, Nat.pow_add, Nat.mul_assoc, ← Nat.mul_add, hv, ← Nat.mul_assoc, ← Nat.mul_assoc, Nat.mul_comm u]
    (try dsimp only [Wa, Wb, Wc, Wd, We, Wf, Wg, Wh, Wi, Wj, Wk, Wl, Wm, Wn, Wo, Wp, Wq, Wr, Ws, Wt, Wu, Wv, Ww, Wx, Wy, Wz, WA, WB, WC, WD, WE, WF, WG, WH, WI, WJ, WK, WL, WM, WN, WO, WP, WQ, WR, WS, WT, WU, WV, WW, WX, WY, WZ, W0, W1, W2, W3, W4, Zk, Zl, Zm, Zn, Zo, Zp, Zq, Zr, Zs, Zt, Zu, Zv, Zw, Zx, Zy, Zz, ZA, ZB, ZC, ZD, ZE, ZF, ZG, ZH, ZI, ZJ, setAll, gv0, gv1, gl0, gl0o, gl0d, gl1, gf0, gf1, go0, go1, argsOf, W5, W6, W7, W8, W9, Za, Zb, Zc, Zd, Ze, Zf, Zg, Zh, Zi, Zj, Nat.reduceAdd, Nat.reduceSub]); (try simp only [Zk, Nat.zero_add, Nat.sub_self, Nat.add_zero, Nat.sub_zero, Int.one_mul, Int.toNat_natCast])
    by_cases hc0 : c = 0
    · subst hc0
      rw [show decide (((0 : Nat) : Int) > 0) = false from rfl]
      (try dsimp only [Wa, Wb, Wc, Wd, We, Wf, Wg, Wh, Wi, Wj, Wk, Wl, Wm, Wn, Wo, Wp, Wq, Wr, Ws, Wt, Wu, Wv, Ww, Wx, Wy, Wz, WA, WB, WC, WD, WE, WF, WG, WH, WI, WJ, WK, WL, WM, WN, WO, WP, WQ, WR, WS, WT, WU, WV, WW, WX, WY, WZ, W0, W1, W2, W3, W4, Zk, Zl, Zm, Zn, Zo, Zp, Zq, Zr, Zs, Zt, Zu, Zv, Zw, Zx, Zy, Zz, ZA, ZB, ZC, ZD, ZE, ZF, ZG, ZH, ZI, ZJ, setAll, gv0, gv1, gl0, gl0o, gl0d, gl1, gf0, gf1, go0, go1, argsOf, W5, W6, W7, W8, W9, Za, Zb, Zc, Zd, Ze, Zf, Zg, Zh, Zi, Zj, Nat.reduceAdd, Nat.reduceSub]); (try simp only [Zk, Nat.zero_add, Nat.sub_self, Nat.add_zero, Nat.sub_zero, Int.one_mul, Int.toNat_natCast])
      rw [Nat.mul_zero, Nat.add_zero] at tot
      rw [← tot, dig_val hb _ (lim_append (lim_zeros hb sp) hlg) (top_of_ge hb (lim_append (lim_zeros hb sp) hlg) fun hne => ?_)] at hQ
      · exact hQ
      · rw [tot, List.length_append, List.length_replicate, hg, ← ht, show sp + xs.length - 1 = sp + (xs.length - 1) by omega, Nat.pow_add]
        have h1 := hge hu0
        have h2 : b ^ (xs.length - 1) * 1 ≤ u * 2 ^ fw := Nat.mul_le_mul h1 hfp
        have h3 := Nat.mul_le_mul_left (b ^ sp) h2
        rw [Nat.mul_one] at h3
        rw [← Nat.mul_assoc, Nat.mul_comm u, Nat.mul_assoc]
        exact h3
    · rw [show decide ((c : Int) > 0) = true by simp; omega]
      (try dsimp only [Wa, Wb, Wc, Wd, We, Wf, Wg, Wh, Wi, Wj, Wk, Wl, Wm, Wn, Wo, Wp, Wq, Wr, Ws, Wt, Wu, Wv, Ww, Wx, Wy, Wz, WA, WB, WC, WD, WE, WF, WG, WH, WI, WJ, WK, WL, WM, WN, WO, WP, WQ, WR, WS, WT, WU, WV, WW, WX, WY, WZ, W0, W1, W2, W3, W4, Zk, Zl, Zm, Zn, Zo, Zp, Zq, Zr, Zs, Zt, Zu, Zv, Zw, Zx, Zy, Zz, ZA, ZB, ZC, ZD, ZE, ZF, ZG, ZH, ZI, ZJ, setAll, gv0, gv1, gl0, gl0o, gl0d, gl1, gf0, gf1, go0, go1, argsOf, W5, W6, W7, W8, W9, Za, Zb, Zc, Zd, Ze, Zf, Zg, Zh, Zi, Zj, Nat.reduceAdd, Nat.reduceSub]); (try simp only [Zk, Nat.zero_add, Nat.sub_self, Nat.add_zero, Nat.sub_zero, Int.one_mul, Int.toNat_natCast])
      have hl1 : Lim b ((List.replicate sp 0 ++ g) ++ [c]) := lim_snoc (lim_append (lim_zeros hb sp) hlg) (by omega)
      have e : val b ((List.replicate sp 0 ++ g) ++ [c]) = u * 2 ^ n := by rw [val_snoc, List.length_append, List.length_replicate, hg]; exact tot
      refine ⟨by simp; omega, ?_⟩
      rw [← e, dig_val hb _ hl1 (top_snoc hc0)] at hQ
      rw [show (List.map nv (List.replicate sp 0 ++ g) ++ [PV.int (c : Int)]) = ((List.replicate sp 0 ++ g) ++ [c]).map nv by simp only [List.map_append]; rfl]
      exact hQ
end
end Mine
end

section
open PySem PySem.W PyProof.Rows
namespace Mine
theorem seq_last {n : Nat} (h : 0 < n) : seqIndex? (-1) n = some (n - 1) := by
  unfold seqIndex?
  simp
  omega
theorem pow_le_512 {w : Nat} (hw : w ≤ 9) : 2 ^ w ≤ 512 := by
  have := Nat.pow_le_pow_right (n := 2) (by decide) hw
  simpa using this
noncomputable def bl (v : Nat) : Nat := if v = 0 then 0 else v.log2 + 1
section
variable {prog : Program} {w0 : World} {G0 : Frz} {d : Option Addr} {fa : Nat → Addr} {N : Nat}

theorem c_shift_right (X : Txt G0 fa) (hN : 2 ≤ N) {w u n : Nat} (hw : 1 ≤ w ∧ w ≤ 9) (lu : (dig (2 ^ w) u).length < 1000) (ln : n < 2000) {D : DS} {Q : PV → DS → Prop} (hQ : Q (num (2 ^ w) (u / 2 ^ n)) D) :
    CallOK prog w0 G0 d fa N 6 [num (2 ^ w) u, .int (n : Int), .int (w : Int)] D Q := by
  refine CallOK.mono (fn_sound X.gl X.hall (N := 1) (F := fn6) (X.at_ 6 (by decide)) rfl good6 rfl ?_) hN fun _ _ h => h
  have hb := two_le_pow hw.1
  replace hQ : Q (LN (dig (2 ^ w) (u / 2 ^ n))) D := hQ
  simp only [num]
  have hx := lim_dig hb u
  have eu := val_dig hb u
  have lim' := lim_eq
  generalize dig (2 ^ w) u = xs at *
  have hdm := Nat.div_add_mod n w
  have hml := Nat.mod_lt n (show w > 0 by omega)
  have hdl : n / w ≤ n := Nat.div_le_self _ _
  (try dsimp only [fn6, mini6, Wa, Wb, Wc, Wd, We, Wf, Wg, Wh, Wi, Wj, Wk, Wl, Wm, Wn, Wo, Wp, Wq, Wr, Ws, Wt, Wu, Wv, Ww, Wx, Wy, Wz, WA, WB, WC, WD, WE, WF, WG, WH, WI, WJ, WK, WL, WM, WN, WO, WP, WQ, WR, WS, WT, WU, WV, WW, WX, WY, WZ, W0, W1, W2, W3, W4, Zk, Zl, Zm, Zn, Zo, Zp, Zq, Zr, Zs, Zt, Zu, Zv, Zw, Zx, Zy, Zz, ZA, ZB, ZC, ZD, ZE, ZF, ZG, ZH, ZI, ZJ, setAll, gv0, gv1, gl0, gl0o, gl0d, gl1, gf0, gf1, go0, go1, argsOf, W5, W6, W7, W8, W9, Za, Zb, Zc, Zd, Ze, Zf, Zg, Zh, Zi, Zj, Nat.reduceAdd, Nat.reduceSub]); (try simp only [fn6, mini6, List.length_map, Zk, Nat.zero_add, Nat.sub_self, Nat.add_zero, Nat.sub_zero, Int.one_mul, Int.toNat_natCast])
  rw [fdiv_nat, fmod_nat]
  generalize n / w = sp at *
  generalize n % w = fw at *
  refine ⟨⟨by exact qn0 (by assumption), by exact q64c (by assumption)⟩, by exact qn0 (by assumption), by decide, ⟨by exact Int.natCast_nonneg _, by exact q6c (by assumption), by decide⟩, ⟨by omega, by exact qlb (by assumption)⟩, ?_⟩
  rw [range_from, range_from_len]
  refine ⟨by omega, ?_⟩
  have ht : (2 ^ w) ^ sp * 2 ^ fw = 2 ^ n := by rw [← Nat.pow_mul, ← Nat.pow_add, hdm]
  have hwp := pow_le_512 hw.2
  have hfp := Nat.pow_pos (n := fw) (show 0 < 2 by decide)
  have e3 : u / 2 ^ n = u / (2 ^ w) ^ sp / 2 ^ fw := by rw [Nat.div_div_eq_div_mul, ht]
  have hlt := val_lt hb xs hx
  rw [eu] at hlt
  refine forW_inv (fun j σ D' => D' = D ∧ j ≤ xs.length - sp ∧ ∃ (f : List Nat) (l7 l : Sl), f.length = j ∧ Lim (2 ^ w) f ∧ val (2 ^ w) f = (u / 2 ^ n) % (2 ^ w) ^ j ∧
    σ = [.v (LN xs), .v (.int (n : Int)), .v (.int (w : Int)), .v (.int (sp : Int)), .v (.int (fw : Int)), .own (f.map nv), .v (.int (2 ^ w - 1)), l7, l]) _ 0 _ _ ⟨rfl, by exact Nat.zero_le _, [], _, _, rfl, lim_nil _, by simp [val, Nat.mod_one], rfl⟩ ?_ ?_
  · rintro j x σ D' K _ hxx ⟨rfl, hj', f, l7, l, hf, hlf, hv, rfl⟩ hK _
    obtain ⟨hj, rfl⟩ := map_at hxx
    simp only [Nat.sub_zero] at hj ⊢
    have ij : sp + j < xs.length := by omega
    have x1 := hx _ (List.getElem_mem ij)
    -- the next limb up, or nought
    have fin : ∀ (y : Nat) (yi : Int), yi = y → y < 2 ^ w → xs.getD (sp + j + 1) 0 = y → K .next [.v (LN xs), .v (.int (n : Int)), .v (.int (w : Int)), .v (.int (sp : Int)), .v (.int (fw : Int)),
        .own (f.map nv ++ [.int (Builtin.bitAnd (Builtin.bitOr (((xs[sp + j] : Nat) : Int).fdiv (2 ^ fw)) (yi * 2 ^ ((w : Int) - (fw : Int)).toNat)) (2 ^ w - 1))]), .v (.int (2 ^ w - 1)), .v (.int ((sp + j : Nat) : Int)), .v (.int yi)] D' := by
      rintro y yi rfl hy hyj
      have hs : xs[sp + j] / 2 ^ fw < 2 ^ (w - fw) := by
        rw [Nat.div_lt_iff_lt_mul hfp, ← Nat.pow_add, show w - fw + fw = w by omega]; exact x1
      rw [fdiv_pow, show ((w : Int) - (fw : Int)).toNat = w - fw by omega, bor_low hs, band_mask]
      refine hK _ _ ⟨rfl, by assumption, f ++ [(xs[sp + j] / 2 ^ fw + y * 2 ^ (w - fw)) % 2 ^ w], _, _, by simp [hf], lim_snoc hlf (Nat.mod_lt _ (by exact Nat.pow_pos (by decide))), ?_, by rw [List.map_append]; rfl⟩
      rw [val_snoc, hf, hv, mod_pow_succ]
      congr 2
      have e4 : u / 2 ^ n / (2 ^ w) ^ j = val (2 ^ w) (xs.drop (sp + j)) / 2 ^ fw := by
        rw [drop_val hb hx, eu, Nat.pow_add, ← Nat.div_div_eq_div_mul, Nat.div_div_eq_div_mul (u / (2 ^ w) ^ sp), Nat.mul_comm ((2 ^ w) ^ j), ← Nat.div_div_eq_div_mul (u / (2 ^ w) ^ sp), e3]
      have e5 : val (2 ^ w) (xs.drop (sp + j)) = xs[sp + j] + 2 ^ w * (y + 2 ^ w * val (2 ^ w) (xs.drop (sp + j + 2))) := by
        rw [List.drop_eq_getElem_cons ij, val]
        congr 2
        rcases Nat.lt_or_ge (sp + j + 1) xs.length with h | h
        · rw [List.drop_eq_getElem_cons h, val]
          congr 1
          rw [← hyj, List.getD_eq_getElem?_getD, List.getElem?_eq_getElem h]; rfl
        · rw [List.drop_eq_nil_iff.mpr h, List.drop_eq_nil_iff.mpr (by omega), ← hyj, List.getD_eq_getElem?_getD, List.getElem?_eq_none h]; simp [val]
      rw [e4, e5, shr_digit hml _ _ _ x1]
    (try dsimp only [b6x0, nv, Wa, Wb, Wc, Wd, We, Wf, Wg, Wh, Wi, Wj, Wk, Wl, Wm, Wn, Wo, Wp, Wq, Wr, Ws, Wt, Wu, Wv, Ww, Wx, Wy, Wz, WA, WB, WC, WD, WE, WF, WG, WH, WI, WJ, WK, WL, WM, WN, WO, WP, WQ, WR, WS, WT, WU, WV, WW, WX, WY, WZ, W0, W1, W2, W3, W4, Zk, Zl, Zm, Zn, Zo, Zp, Zq, Zr, Zs, Zt, Zu, Zv, Zw, Zx, Zy, Zz, ZA, ZB, ZC, ZD, ZE, ZF, ZG, ZH, ZI, ZJ, setAll, gv0, gv1, gl0, gl0o, gl0d, gl1, gf0, gf1, go0, go1, argsOf, W5, W6, W7, W8, W9, Za, Zb, Zc, Zd, Ze, Zf, Zg, Zh, Zi, Zj, Nat.reduceAdd, Nat.reduceSub]); (try simp only [b6x0, nv, List.length_map, Zk, Nat.zero_add, Nat.sub_self, Nat.add_zero, Nat.sub_zero, Int.one_mul, Int.toNat_natCast])
    have c1 : ((sp + j : Nat) : Int) + 1 = ((sp + j + 1 : Nat) : Int) := by exact (Int.natCast_add _ _).symm
    have tail : ∀ (y : Nat) (yi : Int), yi = y → y < 2 ^ w → xs.getD (sp + j + 1) 0 = y → (asSome (seqIndex? ((sp + j : Nat) : Int) xs.length) fun j_1 => asSome (xs.map nv)[j_1]? fun p => bin2 .shr p (.int (fw : Int)) fun r => bin2 .shl (.int yi) (.int ((w : Int) - (fw : Int))) fun r_1 => bin2 .bor r r_1 fun r => bin2 .band r (.int (2 ^ w - 1)) fun r =>
        f.length + 1 < lim ∧ K .next [.v (LN xs), .v (.int (n : Int)), .v (.int (w : Int)), .v (.int (sp : Int)), .v (.int (fw : Int)), .own (f.map nv ++ [r]), .v (.int (2 ^ w - 1)), .v (.int ((sp + j : Nat) : Int)), .v (.int yi)] D') := by
      rintro y yi hyi hy hyj
      refine idx_rule (sp + j) rfl (ln_get (List.getElem?_eq_getElem ij)) ?_
      (try dsimp only [Wa, Wb, Wc, Wd, We, Wf, Wg, Wh, Wi, Wj, Wk, Wl, Wm, Wn, Wo, Wp, Wq, Wr, Ws, Wt, Wu, Wv, Ww, Wx, Wy, Wz, WA, WB, WC, WD, WE, WF, WG, WH, WI, WJ, WK, WL, WM, WN, WO, WP, WQ, WR, WS, WT, WU, WV, WW, WX, WY, WZ, W0, W1, W2, W3, W4, Zk, Zl, Zm, Zn, Zo, Zp, Zq, Zr, Zs, Zt, Zu, Zv, Zw, Zx, Zy, Zz, ZA, ZB, ZC, ZD, ZE, ZF, ZG, ZH, ZI, ZJ, setAll, gv0, gv1, gl0, gl0o, gl0d, gl1, gf0, gf1, go0, go1, argsOf, W5, W6, W7, W8, W9, Za, Zb, Zc, Zd, Ze, Zf, Zg, Zh, Zi, Zj, Nat.reduceAdd, Nat.reduceSub]); (try simp only [Zk, Nat.zero_add, Nat.sub_self, Nat.add_zero, Nat.sub_zero, Int.one_mul, Int.toNat_natCast])
      exact ⟨by exact Int.natCast_nonneg _, ⟨by omega, by omega, by omega⟩, by omega, fin y yi hyi hy hyj⟩
    rw [c1]
    by_cases hn : sp + j + 1 < xs.length
    · rw [show decide (((sp + j + 1 : Nat) : Int) < (xs.length : Int)) = true by simp only [decide_eq_true_eq]; omega]
      (try dsimp only [Wa, Wb, Wc, Wd, We, Wf, Wg, Wh, Wi, Wj, Wk, Wl, Wm, Wn, Wo, Wp, Wq, Wr, Ws, Wt, Wu, Wv, Ww, Wx, Wy, Wz, WA, WB, WC, WD, WE, WF, WG, WH, WI, WJ, WK, WL, WM, WN, WO, WP, WQ, WR, WS, WT, WU, WV, WW, WX, WY, WZ, W0, W1, W2, W3, W4, Zk, Zl, Zm, Zn, Zo, Zp, Zq, Zr, Zs, Zt, Zu, Zv, Zw, Zx, Zy, Zz, ZA, ZB, ZC, ZD, ZE, ZF, ZG, ZH, ZI, ZJ, setAll, gv0, gv1, gl0, gl0o, gl0d, gl1, gf0, gf1, go0, go1, argsOf, W5, W6, W7, W8, W9, Za, Zb, Zc, Zd, Ze, Zf, Zg, Zh, Zi, Zj, Nat.reduceAdd, Nat.reduceSub]); (try simp only [Zk, Nat.zero_add, Nat.sub_self, Nat.add_zero, Nat.sub_zero, Int.one_mul, Int.toNat_natCast])
      refine idx_rule (sp + j + 1) (by assumption) (ln_get (List.getElem?_eq_getElem hn)) ?_
      exact tail _ _ rfl (hx _ (List.getElem_mem hn)) (by rw [List.getD_eq_getElem?_getD, List.getElem?_eq_getElem hn]; rfl)
    · rw [show decide (((sp + j + 1 : Nat) : Int) < (xs.length : Int)) = false by simp only [decide_eq_false_iff_not]; omega]
      (try dsimp only [Wa, Wb, Wc, Wd, We, Wf, Wg, Wh, Wi, Wj, Wk, Wl, Wm, Wn, Wo, Wp, Wq, Wr, Ws, Wt, Wu, Wv, Ww, Wx, Wy, Wz, WA, WB, WC, WD, WE, WF, WG, WH, WI, WJ, WK, WL, WM, WN, WO, WP, WQ, WR, WS, WT, WU, WV, WW, WX, WY, WZ, W0, W1, W2, W3, W4, Zk, Zl, Zm, Zn, Zo, Zp, Zq, Zr, Zs, Zt, Zu, Zv, Zw, Zx, Zy, Zz, ZA, ZB, ZC, ZD, ZE, ZF, ZG, ZH, ZI, ZJ, setAll, gv0, gv1, gl0, gl0o, gl0d, gl1, gf0, gf1, go0, go1, argsOf, W5, W6, W7, W8, W9, Za, Zb, Zc, Zd, Ze, Zf, Zg, Zh, Zi, Zj, Nat.reduceAdd, Nat.reduceSub]); (try simp only [Zk, Nat.zero_add, Nat.sub_self, Nat.add_zero, Nat.sub_zero, Int.one_mul, Int.toNat_natCast])
      exact tail 0 0 rfl (by exact Nat.pow_pos (by decide)) (by rw [List.getD_eq_getElem?_getD, List.getElem?_eq_none (by omega)]; rfl)
  · rintro σ D' ⟨rfl, hj', f, l7, l, hf, hlf, hv, rfl⟩
    simp only [List.length_map, List.length_range, Nat.zero_add] at hf hv
    (try dsimp only [Wa, Wb, Wc, Wd, We, Wf, Wg, Wh, Wi, Wj, Wk, Wl, Wm, Wn, Wo, Wp, Wq, Wr, Ws, Wt, Wu, Wv, Ww, Wx, Wy, Wz, WA, WB, WC, WD, WE, WF, WG, WH, WI, WJ, WK, WL, WM, WN, WO, WP, WQ, WR, WS, WT, WU, WV, WW, WX, WY, WZ, W0, W1, W2, W3, W4, Zk, Zl, Zm, Zn, Zo, Zp, Zq, Zr, Zs, Zt, Zu, Zv, Zw, Zx, Zy, Zz, ZA, ZB, ZC, ZD, ZE, ZF, ZG, ZH, ZI, ZJ, setAll, gv0, gv1, gl0, gl0o, gl0d, gl1, gf0, gf1, go0, go1, argsOf, W5, W6, W7, W8, W9, Za, Zb, Zc, Zd, Ze, Zf, Zg, Zh, Zi, Zj, Nat.reduceAdd, Nat.reduceSub]); (try simp only [Zk, Nat.zero_add, Nat.sub_self, Nat.add_zero, Nat.sub_zero, Int.one_mul, Int.toNat_natCast])
    refine c_normal X (by decide) ?_
    rw [take_cut hb hlf, hv, Nat.mod_eq_of_lt]
    · exact hQ
    · rw [e3]
      refine Nat.lt_of_le_of_lt (Nat.div_le_self _ _) ?_
      rw [Nat.div_lt_iff_lt_mul (Nat.pow_pos (by exact Nat.pow_pos (by decide))), ← Nat.pow_add]
      exact Nat.lt_of_lt_of_le hlt (Nat.pow_le_pow_right (by exact Nat.pow_pos (by decide)) (by omega))

theorem c_bits (X : Txt G0 fa) (hN : 1 ≤ N) {w v : Nat} (hw : 1 ≤ w ∧ w ≤ 9) (lu : (dig (2 ^ w) v).length < 1000) {D : DS} {Q : PV → DS → Prop} (hQ : Q (.int (bl v : Int)) D) :
    CallOK prog w0 G0 d fa N 7 [num (2 ^ w) v, .int (w : Int)] D Q := by
  refine CallOK.mono (fn_sound X.gl X.hall (N := 0) (F := fn7) (X.at_ 7 (by decide)) rfl good7 rfl ?_) hN fun _ _ h => h
  have hb := two_le_pow hw.1
  simp only [num]
  by_cases h0 : v = 0
  · subst h0
    rw [dig_zero]
    (try dsimp only [fn7, mini7, Wa, Wb, Wc, Wd, We, Wf, Wg, Wh, Wi, Wj, Wk, Wl, Wm, Wn, Wo, Wp, Wq, Wr, Ws, Wt, Wu, Wv, Ww, Wx, Wy, Wz, WA, WB, WC, WD, WE, WF, WG, WH, WI, WJ, WK, WL, WM, WN, WO, WP, WQ, WR, WS, WT, WU, WV, WW, WX, WY, WZ, W0, W1, W2, W3, W4, Zk, Zl, Zm, Zn, Zo, Zp, Zq, Zr, Zs, Zt, Zu, Zv, Zw, Zx, Zy, Zz, ZA, ZB, ZC, ZD, ZE, ZF, ZG, ZH, ZI, ZJ, setAll, gv0, gv1, gl0, gl0o, gl0d, gl1, gf0, gf1, go0, go1, argsOf, W5, W6, W7, W8, W9, Za, Zb, Zc, Zd, Ze, Zf, Zg, Zh, Zi, Zj, Nat.reduceAdd, Nat.reduceSub]); (try simp only [fn7, mini7, Zk, Nat.zero_add, Nat.sub_self, Nat.add_zero, Nat.sub_zero, Int.one_mul, Int.toNat_natCast])
    exact hQ
  · have hx := lim_dig hb v
    have eu := val_dig hb v
    have htop := top_dig hb v
    have hne : dig (2 ^ w) v ≠ [] := by rw [dig_pos hb h0]; simp
    generalize dig (2 ^ w) v = xs at *
    have hl0 : 0 < xs.length := List.length_pos_iff.mpr hne
    have il : xs.length - 1 < xs.length := by omega
    have t0 : xs[xs.length - 1] ≠ 0 := htop _ (by rw [List.getLast?_eq_getElem?, List.getElem?_eq_getElem il])
    have x1 := hx _ (List.getElem_mem il)
    (try dsimp only [fn7, mini7, Wa, Wb, Wc, Wd, We, Wf, Wg, Wh, Wi, Wj, Wk, Wl, Wm, Wn, Wo, Wp, Wq, Wr, Ws, Wt, Wu, Wv, Ww, Wx, Wy, Wz, WA, WB, WC, WD, WE, WF, WG, WH, WI, WJ, WK, WL, WM, WN, WO, WP, WQ, WR, WS, WT, WU, WV, WW, WX, WY, WZ, W0, W1, W2, W3, W4, Zk, Zl, Zm, Zn, Zo, Zp, Zq, Zr, Zs, Zt, Zu, Zv, Zw, Zx, Zy, Zz, ZA, ZB, ZC, ZD, ZE, ZF, ZG, ZH, ZI, ZJ, setAll, gv0, gv1, gl0, gl0o, gl0d, gl1, gf0, gf1, go0, go1, argsOf, W5, W6, W7, W8, W9, Za, Zb, Zc, Zd, Ze, Zf, Zg, Zh, Zi, Zj, Nat.reduceAdd, Nat.reduceSub]); (try simp only [fn7, mini7, List.length_map, Zk, Nat.zero_add, Nat.sub_self, Nat.add_zero, Nat.sub_zero, Int.one_mul, Int.toNat_natCast])
    rw [show decide (((xs.length : Nat) : Int) > 0) = true by simp only [decide_eq_true_eq]; omega]
    (try dsimp only [Wa, Wb, Wc, Wd, We, Wf, Wg, Wh, Wi, Wj, Wk, Wl, Wm, Wn, Wo, Wp, Wq, Wr, Ws, Wt, Wu, Wv, Ww, Wx, Wy, Wz, WA, WB, WC, WD, WE, WF, WG, WH, WI, WJ, WK, WL, WM, WN, WO, WP, WQ, WR, WS, WT, WU, WV, WW, WX, WY, WZ, W0, W1, W2, W3, W4, Zk, Zl, Zm, Zn, Zo, Zp, Zq, Zr, Zs, Zt, Zu, Zv, Zw, Zx, Zy, Zz, ZA, ZB, ZC, ZD, ZE, ZF, ZG, ZH, ZI, ZJ, setAll, gv0, gv1, gl0, gl0o, gl0d, gl1, gf0, gf1, go0, go1, argsOf, W5, W6, W7, W8, W9, Za, Zb, Zc, Zd, Ze, Zf, Zg, Zh, Zi, Zj, Nat.reduceAdd, Nat.reduceSub]); (try simp only [Zk, Nat.zero_add, Nat.sub_self, Nat.add_zero, Nat.sub_zero, Int.one_mul, Int.toNat_natCast])
    refine ⟨⟨by omega, by exact q64c (by assumption)⟩, ?_⟩
    rw [seq_last hl0, Zk, List.getElem?_map, List.getElem?_eq_getElem il]
    (try dsimp only [nv, Option.map_some, Wa, Wb, Wc, Wd, We, Wf, Wg, Wh, Wi, Wj, Wk, Wl, Wm, Wn, Wo, Wp, Wq, Wr, Ws, Wt, Wu, Wv, Ww, Wx, Wy, Wz, WA, WB, WC, WD, WE, WF, WG, WH, WI, WJ, WK, WL, WM, WN, WO, WP, WQ, WR, WS, WT, WU, WV, WW, WX, WY, WZ, W0, W1, W2, W3, W4, Zk, Zl, Zm, Zn, Zo, Zp, Zq, Zr, Zs, Zt, Zu, Zv, Zw, Zx, Zy, Zz, ZA, ZB, ZC, ZD, ZE, ZF, ZG, ZH, ZI, ZJ, setAll, gv0, gv1, gl0, gl0o, gl0d, gl1, gf0, gf1, go0, go1, argsOf, W5, W6, W7, W8, W9, Za, Zb, Zc, Zd, Ze, Zf, Zg, Zh, Zi, Zj, Nat.reduceAdd, Nat.reduceSub]); (try simp only [nv, Option.map_some, Zk, Nat.zero_add, Nat.sub_self, Nat.add_zero, Nat.sub_zero, Int.one_mul, Int.toNat_natCast])
    have e : (((xs.length : Nat) : Int) - 1) * (w : Int) + ((Builtin.Int.intBits ((xs[xs.length - 1] : Nat) : Int) : Nat) : Int) = (bl v : Int) := by
      unfold bl Builtin.Int.intBits
      rw [if_neg h0, if_neg (by simp; exact t0), show (((xs.length : Nat) : Int) - 1) = ((xs.length - 1 : Nat) : Int) by omega]
      rw [Int.natAbs_natCast]
      have : v.log2 = (xs.length - 1) * w + (xs[xs.length - 1]).log2 := by
        have l1 := Nat.log2_self_le t0
        have l2 := @Nat.lt_log2_self (xs[xs.length - 1])
        have sp := val_split (b := 2 ^ w) xs (xs.length - 1) il
        rw [eu, List.drop_eq_nil_iff.mpr (by omega), val, Nat.mul_zero, Nat.add_zero] at sp
        have tl : val (2 ^ w) (xs.take (xs.length - 1)) < (2 ^ w) ^ (xs.length - 1) := by
          have := val_lt hb (xs.take (xs.length - 1)) fun y hy => hx y (List.mem_of_mem_take hy)
          rwa [List.length_take, Nat.min_eq_left (by exact Nat.le_of_lt (by assumption))] at this
        rw [Nat.log2_eq_iff h0, Nat.mul_comm (xs.length - 1) w]
        rw [← Nat.pow_mul] at sp tl
        constructor
        · rw [Nat.pow_add]
          have := Nat.mul_le_mul_left (2 ^ (w * (xs.length - 1))) l1
          omega
        · rw [Nat.add_assoc, Nat.pow_add]
          have : 2 ^ (w * (xs.length - 1)) * (xs[xs.length - 1] + 1) ≤ 2 ^ (w * (xs.length - 1)) * 2 ^ ((xs[xs.length - 1]).log2 + 1) := Nat.mul_le_mul_left _ l2
          rw [Nat.mul_add, Nat.mul_one] at this
          omega
      rw [this]
      push_cast
      omega
    rw [e]
    exact hQ

theorem c_low (X : Txt G0 fa) (hN : 2 ≤ N) {w u n : Nat} (hw : 1 ≤ w ∧ w ≤ 9) (lu : (dig (2 ^ w) u).length < 1000) (ln : n < 2000) {D : DS} {Q : PV → DS → Prop} (hQ : Q (num (2 ^ w) (u % 2 ^ n)) D) :
    CallOK prog w0 G0 d fa N 8 [num (2 ^ w) u, .int (n : Int), .int (w : Int)] D Q := by
  refine CallOK.mono (fn_sound X.gl X.hall (N := 1) (F := fn8) (X.at_ 8 (by decide)) rfl good8 rfl ?_) hN fun _ _ h => h
  have hb := two_le_pow hw.1
  replace hQ : Q (LN (dig (2 ^ w) (u % 2 ^ n))) D := hQ
  simp only [num]
  have hx := lim_dig hb u
  have eu := val_dig hb u
  have lim' := lim_eq
  have eself : dig (2 ^ w) u = dig (2 ^ w) u := rfl
  generalize hxs : dig (2 ^ w) u = xs at *
  have hdm := Nat.div_add_mod n w
  have hml := Nat.mod_lt n (show w > 0 by omega)
  have hdl : n / w ≤ n := Nat.div_le_self _ _
  (try dsimp only [fn8, mini8, Wa, Wb, Wc, Wd, We, Wf, Wg, Wh, Wi, Wj, Wk, Wl, Wm, Wn, Wo, Wp, Wq, Wr, Ws, Wt, Wu, Wv, Ww, Wx, Wy, Wz, WA, WB, WC, WD, WE, WF, WG, WH, WI, WJ, WK, WL, WM, WN, WO, WP, WQ, WR, WS, WT, WU, WV, WW, WX, WY, WZ, W0, W1, W2, W3, W4, Zk, Zl, Zm, Zn, Zo, Zp, Zq, Zr, Zs, Zt, Zu, Zv, Zw, Zx, Zy, Zz, ZA, ZB, ZC, ZD, ZE, ZF, ZG, ZH, ZI, ZJ, setAll, gv0, gv1, gl0, gl0o, gl0d, gl1, gf0, gf1, go0, go1, argsOf, W5, W6, W7, W8, W9, Za, Zb, Zc, Zd, Ze, Zf, Zg, Zh, Zi, Zj, Nat.reduceAdd, Nat.reduceSub]); (try simp only [fn8, mini8, List.length_map, Zk, Nat.zero_add, Nat.sub_self, Nat.add_zero, Nat.sub_zero, Int.one_mul, Int.toNat_natCast])
  rw [fdiv_nat, fmod_nat]
  generalize n / w = sp at *
  generalize n % w = fw at *
  refine ⟨⟨by exact qn0 (by assumption), by exact q64c (by assumption)⟩, by exact qn0 (by assumption), ?_⟩
  have ht : (2 ^ w) ^ sp * 2 ^ fw = 2 ^ n := by rw [← Nat.pow_mul, ← Nat.pow_add, hdm]
  have hfp := Nat.pow_pos (n := fw) (show 0 < 2 by decide)
  have hwp := pow_le_512 hw.2
  have hlt := val_lt hb xs hx
  rw [eu] at hlt
  by_cases hs : xs.length ≤ sp
  · rw [show decide ((sp : Int) ≥ (xs.length : Int)) = true by simp only [decide_eq_true_eq]; omega]
    (try dsimp only [Wa, Wb, Wc, Wd, We, Wf, Wg, Wh, Wi, Wj, Wk, Wl, Wm, Wn, Wo, Wp, Wq, Wr, Ws, Wt, Wu, Wv, Ww, Wx, Wy, Wz, WA, WB, WC, WD, WE, WF, WG, WH, WI, WJ, WK, WL, WM, WN, WO, WP, WQ, WR, WS, WT, WU, WV, WW, WX, WY, WZ, W0, W1, W2, W3, W4, Zk, Zl, Zm, Zn, Zo, Zp, Zq, Zr, Zs, Zt, Zu, Zv, Zw, Zx, Zy, Zz, ZA, ZB, ZC, ZD, ZE, ZF, ZG, ZH, ZI, ZJ, setAll, gv0, gv1, gl0, gl0o, gl0d, gl1, gf0, gf1, go0, go1, argsOf, W5, W6, W7, W8, W9, Za, Zb, Zc, Zd, Ze, Zf, Zg, Zh, Zi, Zj, Nat.reduceAdd, Nat.reduceSub]); (try simp only [Zk, Nat.zero_add, Nat.sub_self, Nat.add_zero, Nat.sub_zero, Int.one_mul, Int.toNat_natCast])
    rw [Nat.mod_eq_of_lt, hxs] at hQ
    · exact hQ
    · have := Nat.pow_le_pow_right (n := 2 ^ w) (by exact Nat.pow_pos (by decide)) hs
      have := Nat.le_mul_of_pos_right ((2 ^ w) ^ sp) hfp
      omega
  · have is : sp < xs.length := by omega
    rw [show decide ((sp : Int) ≥ (xs.length : Int)) = false by simp only [decide_eq_false_iff_not]; omega]
    (try dsimp only [Wa, Wb, Wc, Wd, We, Wf, Wg, Wh, Wi, Wj, Wk, Wl, Wm, Wn, Wo, Wp, Wq, Wr, Ws, Wt, Wu, Wv, Ww, Wx, Wy, Wz, WA, WB, WC, WD, WE, WF, WG, WH, WI, WJ, WK, WL, WM, WN, WO, WP, WQ, WR, WS, WT, WU, WV, WW, WX, WY, WZ, W0, W1, W2, W3, W4, Zk, Zl, Zm, Zn, Zo, Zp, Zq, Zr, Zs, Zt, Zu, Zv, Zw, Zx, Zy, Zz, ZA, ZB, ZC, ZD, ZE, ZF, ZG, ZH, ZI, ZJ, setAll, gv0, gv1, gl0, gl0o, gl0d, gl1, gf0, gf1, go0, go1, argsOf, W5, W6, W7, W8, W9, Za, Zb, Zc, Zd, Ze, Zf, Zg, Zh, Zi, Zj, Nat.reduceAdd, Nat.reduceSub]); (try simp only [Zk, Nat.zero_add, Nat.sub_self, Nat.add_zero, Nat.sub_zero, Int.one_mul, Int.toNat_natCast])
    refine ⟨by exact Int.natCast_nonneg _, ?_⟩
    refine idx_rule sp rfl (ln_get (List.getElem?_eq_getElem is)) ?_
    have x1 := hx _ (List.getElem_mem is)
    (try dsimp only [Wa, Wb, Wc, Wd, We, Wf, Wg, Wh, Wi, Wj, Wk, Wl, Wm, Wn, Wo, Wp, Wq, Wr, Ws, Wt, Wu, Wv, Ww, Wx, Wy, Wz, WA, WB, WC, WD, WE, WF, WG, WH, WI, WJ, WK, WL, WM, WN, WO, WP, WQ, WR, WS, WT, WU, WV, WW, WX, WY, WZ, W0, W1, W2, W3, W4, Zk, Zl, Zm, Zn, Zo, Zp, Zq, Zr, Zs, Zt, Zu, Zv, Zw, Zx, Zy, Zz, ZA, ZB, ZC, ZD, ZE, ZF, ZG, ZH, ZI, ZJ, setAll, gv0, gv1, gl0, gl0o, gl0d, gl1, gf0, gf1, go0, go1, argsOf, W5, W6, W7, W8, W9, Za, Zb, Zc, Zd, Ze, Zf, Zg, Zh, Zi, Zj, Nat.reduceAdd, Nat.reduceSub]); (try simp only [Zk, Nat.zero_add, Nat.sub_self, Nat.add_zero, Nat.sub_zero, Int.one_mul, Int.toNat_natCast])
    refine ⟨⟨by exact Int.natCast_nonneg _, by omega, by decide⟩, by decide, ?_⟩
    refine ⟨by simp only [List.length_take, List.length_map]; omega, ?_⟩
    rw [band_mask, show (List.take sp (xs.map nv) ++ [PV.int ((xs[sp] % 2 ^ fw : Nat) : Int)]) = (xs.take sp ++ [xs[sp] % 2 ^ fw]).map nv by rw [List.map_append, List.map_take]; rfl]
    refine c_normal X (by decide) ?_
    have hl1 : Lim (2 ^ w) (xs.take sp ++ [xs[sp] % 2 ^ fw]) := lim_snoc (fun y hy => hx y (List.mem_of_mem_take hy)) (Nat.lt_of_le_of_lt (Nat.mod_le _ _) x1)
    rw [take_cut hb hl1, val_snoc, take_val hb hx, eu, List.length_take, Nat.min_eq_left (by exact Nat.le_of_lt (by assumption))]
    have e6 : xs[sp] % 2 ^ fw = u / (2 ^ w) ^ sp % 2 ^ fw := by
      rw [← eu, ← drop_val hb hx, List.drop_eq_getElem_cons is, val]
      have e : 2 ^ w = 2 ^ fw * 2 ^ (w - fw) := by rw [← Nat.pow_add]; congr 1; omega
      conv => rhs; rw [e, Nat.mul_assoc, Nat.add_mul_mod_self_left]
    rw [e6, ← Nat.mod_mul, ht]
    exact hQ
end
end Mine
end

section
namespace Mine

/-- the ring mod 2 ^ n + 1 -/
noncomputable abbrev Fr2 (n : Nat) := Fin (2 ^ n + 1)
noncomputable abbrev on (n v : Nat) : Fr2 n := Fin.ofNat (2 ^ n + 1) v

section
variable {n : Nat}
theorem on_val (v : Nat) : (on n v).val = v % (2 ^ n + 1) := rfl
theorem on_add (a b : Nat) : on n (a + b) = on n a + on n b := by
  apply Fin.ext
  rw [Fin.val_add]
  show (a + b) % (2 ^ n + 1) = (a % (2 ^ n + 1) + b % (2 ^ n + 1)) % (2 ^ n + 1)
  rw [Nat.add_mod]
theorem on_mul (a b : Nat) : on n (a * b) = on n a * on n b := by
  apply Fin.ext
  rw [Fin.val_mul]
  show (a * b) % (2 ^ n + 1) = (a % (2 ^ n + 1) * (b % (2 ^ n + 1))) % (2 ^ n + 1)
  rw [Nat.mul_mod]
theorem on_of_val (x : Fr2 n) : on n x.val = x := by
  apply Fin.ext
  rw [on_val, Nat.mod_eq_of_lt x.isLt]
theorem on_zero : on n 0 = 0 := rfl
theorem on_one : on n 1 = 1 := rfl
theorem on_mod (v : Nat) : on n (v % (2 ^ n + 1)) = on n v := by
  apply Fin.ext
  rw [on_val, on_val, Nat.mod_mod]
theorem on_self : on n (2 ^ n + 1) = 0 := by
  apply Fin.ext
  rw [on_val, Nat.mod_self]; rfl
theorem on_top : on n (2 ^ n) = -1 := by
  have h := @on_self n
  rw [on_add, on_one] at h
  grind
theorem on_pow (a k : Nat) : on n (a ^ k) = on n a ^ k := by
  induction k with
  | zero => rw [Nat.pow_zero]; exact (Lean.Grind.Semiring.pow_zero _).symm
  | succ k ih => rw [Nat.pow_succ, on_mul, ih, Lean.Grind.Semiring.pow_succ]
theorem on_sub {a b : Nat} (h : b ≤ a) : on n (a - b) = on n a - on n b := by
  have : on n ((a - b) + b) = on n (a - b) + on n b := on_add _ _
  rw [Nat.sub_add_cancel h] at this
  grind

/-- two to the k, k taken mod 2 n -/
noncomputable def U (n : Nat) (k : Int) : Fr2 n := on n (2 ^ (k % (2 * (n : Int))).toNat)

theorem two_pow_2n : on n (2 ^ (2 * n)) = 1 := by
  rw [Nat.two_mul, Nat.pow_add, on_mul, on_top]
  grind
theorem two_pow_mul (k : Nat) : on n (2 ^ (2 * n * k)) = 1 := by
  rw [Nat.pow_mul, on_pow, two_pow_2n]
  induction k with
  | zero => exact Lean.Grind.Semiring.pow_zero _
  | succ k ih => rw [Lean.Grind.Semiring.pow_succ, ih]; grind
theorem U_nat (hn : 1 ≤ n) (k : Nat) : U n k = on n (2 ^ k) := by
  unfold U
  have e : ((k : Int) % (2 * (n : Int))).toNat = k % (2 * n) := by
    rw [show (2 * (n : Int)) = ((2 * n : Nat) : Int) by omega, ← Int.natCast_emod, Int.toNat_natCast]
  rw [e]
  conv => rhs; rw [← Nat.div_add_mod k (2 * n), Nat.pow_add, on_mul, two_pow_mul]
  grind
theorem U_add (hn : 1 ≤ n) (a b : Int) : U n (a + b) = U n a * U n b := by
  have key : ∀ k : Int, ∃ m : Nat, k % (2 * (n : Int)) = (m : Int) % (2 * (n : Int)) ∧ (m : Int) = k % (2 * (n : Int)) := fun k => by
    have h := Int.emod_nonneg k (b := 2 * (n : Int)) (by omega)
    refine ⟨(k % (2 * (n : Int))).toNat, ?_, ?_⟩
    · rw [Int.toNat_of_nonneg h, Int.emod_emod]
    · rw [Int.toNat_of_nonneg h]
  obtain ⟨x, hx, hx2⟩ := key a
  obtain ⟨y, hy, hy2⟩ := key b
  have e1 : U n a = U n x := by unfold U; rw [hx]
  have e2 : U n b = U n y := by unfold U; rw [hy]
  have e3 : U n (a + b) = U n ((x + y : Nat) : Int) := by
    unfold U
    rw [Int.add_emod, hx, hy, ← Int.add_emod]
    rfl
  rw [e1, e2, e3, U_nat hn, U_nat hn, U_nat hn, Nat.pow_add, on_mul]
theorem U_zero : U n 0 = 1 := by
  unfold U; simp [on_one]
theorem U_n (hn : 1 ≤ n) : U n n = -1 := by rw [U_nat hn, on_top]
end
end Mine
end

section
open PySem PySem.W PyProof.Rows
namespace Mine
/-- the row of a residue -/
noncomputable abbrev rg (w n : Nat) (x : Fr2 n) : PV := num (2 ^ w) x.val

theorem num_one {b : Nat} (hb : 2 ≤ b) : num b 1 = .list [.int 1] := by
  show LN (dig b 1) = _
  rw [dig_pos hb (by decide), Nat.mod_eq_of_lt (by assumption), Nat.div_eq_of_lt (by assumption), dig_zero]; rfl
theorem num_zero (b : Nat) : num b 0 = .list [] := rfl
theorem num_len {w v k : Nat} (hw : 1 ≤ w ∧ w ≤ 9) (hk : k ≤ 999) (h : v < 2 ^ k) : (dig (2 ^ w) v).length < 1000 := by
  have hb := two_le_pow hw.1
  have := dig_len_le hb k v (Nat.lt_of_lt_of_le h (Nat.pow_le_pow_left hb k))
  omega
theorem num_pos {b v : Nat} (hb : 2 ≤ b) : 0 < (dig b v).length ↔ v ≠ 0 := by
  constructor
  · rintro h rfl; simp [dig_zero] at h
  · intro h; rw [dig_pos hb h]; simp
theorem bl_gt {v n : Nat} : n < bl v ↔ 2 ^ n ≤ v := by
  unfold bl
  by_cases h : v = 0
  · subst h
    simp
  · rw [if_neg h]
    constructor
    · intro h1
      rcases Nat.lt_or_ge v (2 ^ n) with h2 | h2
      · have := (Nat.log2_lt h).mpr h2; omega
      · exact h2
    · intro h1
      rcases Nat.lt_or_ge v.log2 n with h2 | h2
      · have := (Nat.log2_lt h).mp h2; omega
      · omega
theorem pow_lt_succ (n : Nat) : 2 ^ n + 1 ≤ 2 ^ (n + 1) := by
  have := Nat.pow_pos (n := n) (show 0 < 2 by decide)
  rw [Nat.pow_succ]; omega
theorem fin_lt {n : Nat} (x : Fr2 n) : x.val < 2 ^ (n + 1) := Nat.lt_of_lt_of_le x.isLt (pow_lt_succ n)

section
variable {prog : Program} {w0 : World} {G0 : Frz} {d : Option Addr} {fa : Nat → Addr} {N : Nat} {w n : Nat} {D : DS} {Q : PV → DS → Prop}

theorem c_ring_one (X : Txt G0 fa) (hN : 2 ≤ N) (hw : 1 ≤ w ∧ w ≤ 9) (hn : n ≤ 100) (hQ : Q (num (2 ^ w) (2 ^ n + 1)) D) : CallOK prog w0 G0 d fa N 9 [.int (n : Int), .int (w : Int)] D Q := by
  refine CallOK.mono (fn_sound X.gl X.hall (N := 1) (F := fn9) (X.at_ 9 (by decide)) rfl good9 rfl ?_) hN fun _ _ h => h
  have hb := two_le_pow hw.1
  (try dsimp only [fn9, mini9, Wa, Wb, Wc, Wd, We, Wf, Wg, Wh, Wi, Wj, Wk, Wl, Wm, Wn, Wo, Wp, Wq, Wr, Ws, Wt, Wu, Wv, Ww, Wx, Wy, Wz, WA, WB, WC, WD, WE, WF, WG, WH, WI, WJ, WK, WL, WM, WN, WO, WP, WQ, WR, WS, WT, WU, WV, WW, WX, WY, WZ, W0, W1, W2, W3, W4, Zk, Zl, Zm, Zn, Zo, Zp, Zq, Zr, Zs, Zt, Zu, Zv, Zw, Zx, Zy, Zz, ZA, ZB, ZC, ZD, ZE, ZF, ZG, ZH, ZI, ZJ, setAll, gv0, gv1, gl0, gl0o, gl0d, gl1, gf0, gf1, go0, go1, argsOf, W5, W6, W7, W8, W9, Za, Zb, Zc, Zd, Ze, Zf, Zg, Zh, Zi, Zj, Nat.reduceAdd, Nat.reduceSub]); (try simp only [fn9, mini9, Zk, Nat.zero_add, Nat.sub_self, Nat.add_zero, Nat.sub_zero, Int.one_mul, Int.toNat_natCast])
  rw [← num_one hb]
  refine ⟨by rw [lim_eq]; omega, c_shift_left X (by decide) hw (num_len hw (k := 1) (by decide) (by decide)) (by exact qda (by assumption)) ?_⟩
  refine ⟨by rw [lim_eq]; omega, c_add X (by decide) hw (num_len hw (k := n + 1) (by exact qda (by assumption)) ?_) (num_len hw (k := 1) (by decide) (by decide)) ?_⟩
  · rw [Nat.one_mul]; exact Nat.pow_lt_pow_right (by decide) (by omega)
  · rw [Nat.one_mul]; exact hQ

theorem len_fin (hw : 1 ≤ w ∧ w ≤ 9) (hn : n ≤ 100) {v : Nat} (h : v < 2 * (2 ^ n + 1)) : (dig (2 ^ w) v).length < 1000 := by
  refine num_len hw (k := n + 2) (by omega) ?_
  have := pow_lt_succ n
  rw [show n + 2 = n + 1 + 1 by omega, Nat.pow_succ]; omega

theorem c_radd (X : Txt G0 fa) (hN : 3 ≤ N) (hw : 1 ≤ w ∧ w ≤ 9) (hn : n ≤ 100) {x y : Fr2 n} (hQ : Q (rg w n (x + y)) D) : CallOK prog w0 G0 d fa N 10 [rg w n x, rg w n y, .int (n : Int), .int (w : Int)] D Q := by
  refine CallOK.mono (fn_sound X.gl X.hall (N := 2) (F := fn10) (X.at_ 10 (by decide)) rfl good10 rfl ?_) hN fun _ _ h => h
  have hx := x.isLt
  have hy := y.isLt
  have e : (x + y).val = (x.val + y.val) % (2 ^ n + 1) := Fin.val_add x y
  (try dsimp only [fn10, mini10, Wa, Wb, Wc, Wd, We, Wf, Wg, Wh, Wi, Wj, Wk, Wl, Wm, Wn, Wo, Wp, Wq, Wr, Ws, Wt, Wu, Wv, Ww, Wx, Wy, Wz, WA, WB, WC, WD, WE, WF, WG, WH, WI, WJ, WK, WL, WM, WN, WO, WP, WQ, WR, WS, WT, WU, WV, WW, WX, WY, WZ, W0, W1, W2, W3, W4, Zk, Zl, Zm, Zn, Zo, Zp, Zq, Zr, Zs, Zt, Zu, Zv, Zw, Zx, Zy, Zz, ZA, ZB, ZC, ZD, ZE, ZF, ZG, ZH, ZI, ZJ, setAll, gv0, gv1, gl0, gl0o, gl0d, gl1, gf0, gf1, go0, go1, argsOf, W5, W6, W7, W8, W9, Za, Zb, Zc, Zd, Ze, Zf, Zg, Zh, Zi, Zj, Nat.reduceAdd, Nat.reduceSub]); (try simp only [fn10, mini10, Zk, Nat.zero_add, Nat.sub_self, Nat.add_zero, Nat.sub_zero, Int.one_mul, Int.toNat_natCast])
  refine c_add X (by decide) hw (len_fin hw hn (by omega)) (len_fin hw hn (by omega)) ?_
  (try dsimp only [Wa, Wb, Wc, Wd, We, Wf, Wg, Wh, Wi, Wj, Wk, Wl, Wm, Wn, Wo, Wp, Wq, Wr, Ws, Wt, Wu, Wv, Ww, Wx, Wy, Wz, WA, WB, WC, WD, WE, WF, WG, WH, WI, WJ, WK, WL, WM, WN, WO, WP, WQ, WR, WS, WT, WU, WV, WW, WX, WY, WZ, W0, W1, W2, W3, W4, Zk, Zl, Zm, Zn, Zo, Zp, Zq, Zr, Zs, Zt, Zu, Zv, Zw, Zx, Zy, Zz, ZA, ZB, ZC, ZD, ZE, ZF, ZG, ZH, ZI, ZJ, setAll, gv0, gv1, gl0, gl0o, gl0d, gl1, gf0, gf1, go0, go1, argsOf, W5, W6, W7, W8, W9, Za, Zb, Zc, Zd, Ze, Zf, Zg, Zh, Zi, Zj, Nat.reduceAdd, Nat.reduceSub]); (try simp only [Zk, Nat.zero_add, Nat.sub_self, Nat.add_zero, Nat.sub_zero, Int.one_mul, Int.toNat_natCast])
  refine c_bits X (by decide) hw (len_fin hw hn (by omega)) ?_
  (try dsimp only [Wa, Wb, Wc, Wd, We, Wf, Wg, Wh, Wi, Wj, Wk, Wl, Wm, Wn, Wo, Wp, Wq, Wr, Ws, Wt, Wu, Wv, Ww, Wx, Wy, Wz, WA, WB, WC, WD, WE, WF, WG, WH, WI, WJ, WK, WL, WM, WN, WO, WP, WQ, WR, WS, WT, WU, WV, WW, WX, WY, WZ, W0, W1, W2, W3, W4, Zk, Zl, Zm, Zn, Zo, Zp, Zq, Zr, Zs, Zt, Zu, Zv, Zw, Zx, Zy, Zz, ZA, ZB, ZC, ZD, ZE, ZF, ZG, ZH, ZI, ZJ, setAll, gv0, gv1, gl0, gl0o, gl0d, gl1, gf0, gf1, go0, go1, argsOf, W5, W6, W7, W8, W9, Za, Zb, Zc, Zd, Ze, Zf, Zg, Zh, Zi, Zj, Nat.reduceAdd, Nat.reduceSub]); (try simp only [Zk, Nat.zero_add, Nat.sub_self, Nat.add_zero, Nat.sub_zero, Int.one_mul, Int.toNat_natCast])
  by_cases h : 2 ^ n ≤ x.val + y.val
  · rw [show decide ((bl (x.val + y.val) : Int) > (n : Int)) = true by simp only [decide_eq_true_eq]; have := bl_gt.mpr h; omega]
    (try dsimp only [Wa, Wb, Wc, Wd, We, Wf, Wg, Wh, Wi, Wj, Wk, Wl, Wm, Wn, Wo, Wp, Wq, Wr, Ws, Wt, Wu, Wv, Ww, Wx, Wy, Wz, WA, WB, WC, WD, WE, WF, WG, WH, WI, WJ, WK, WL, WM, WN, WO, WP, WQ, WR, WS, WT, WU, WV, WW, WX, WY, WZ, W0, W1, W2, W3, W4, Zk, Zl, Zm, Zn, Zo, Zp, Zq, Zr, Zs, Zt, Zu, Zv, Zw, Zx, Zy, Zz, ZA, ZB, ZC, ZD, ZE, ZF, ZG, ZH, ZI, ZJ, setAll, gv0, gv1, gl0, gl0o, gl0d, gl1, gf0, gf1, go0, go1, argsOf, W5, W6, W7, W8, W9, Za, Zb, Zc, Zd, Ze, Zf, Zg, Zh, Zi, Zj, Nat.reduceAdd, Nat.reduceSub]); (try simp only [Zk, Nat.zero_add, Nat.sub_self, Nat.add_zero, Nat.sub_zero, Int.one_mul, Int.toNat_natCast])
    refine c_ring_one X (by decide) hw hn ?_
    refine c_compare X (by decide) hw (len_fin hw hn (by omega)) (len_fin hw hn (by omega)) ?_
    (try dsimp only [Wa, Wb, Wc, Wd, We, Wf, Wg, Wh, Wi, Wj, Wk, Wl, Wm, Wn, Wo, Wp, Wq, Wr, Ws, Wt, Wu, Wv, Ww, Wx, Wy, Wz, WA, WB, WC, WD, WE, WF, WG, WH, WI, WJ, WK, WL, WM, WN, WO, WP, WQ, WR, WS, WT, WU, WV, WW, WX, WY, WZ, W0, W1, W2, W3, W4, Zk, Zl, Zm, Zn, Zo, Zp, Zq, Zr, Zs, Zt, Zu, Zv, Zw, Zx, Zy, Zz, ZA, ZB, ZC, ZD, ZE, ZF, ZG, ZH, ZI, ZJ, setAll, gv0, gv1, gl0, gl0o, gl0d, gl1, gf0, gf1, go0, go1, argsOf, W5, W6, W7, W8, W9, Za, Zb, Zc, Zd, Ze, Zf, Zg, Zh, Zi, Zj, Nat.reduceAdd, Nat.reduceSub]); (try simp only [Zk, Nat.zero_add, Nat.sub_self, Nat.add_zero, Nat.sub_zero, Int.one_mul, Int.toNat_natCast])
    unfold cmpI
    by_cases h2 : x.val + y.val < 2 ^ n + 1
    · rw [if_pos h2]
      rw [Nat.mod_eq_of_lt h2] at e
      show Q _ _
      rw [← e]; exact hQ
    · have e2 : (x + y).val = x.val + y.val - (2 ^ n + 1) := by
        rw [e, Nat.mod_eq_sub_mod (by omega), Nat.mod_eq_of_lt (by omega)]
      have hc : decide ((if x.val + y.val < 2 ^ n + 1 then (-1 : Int) else if x.val + y.val = 2 ^ n + 1 then 0 else 1) ≥ 0) = true := by
        rw [if_neg h2]; split <;> decide
      rw [hc]
      (try dsimp only [Wa, Wb, Wc, Wd, We, Wf, Wg, Wh, Wi, Wj, Wk, Wl, Wm, Wn, Wo, Wp, Wq, Wr, Ws, Wt, Wu, Wv, Ww, Wx, Wy, Wz, WA, WB, WC, WD, WE, WF, WG, WH, WI, WJ, WK, WL, WM, WN, WO, WP, WQ, WR, WS, WT, WU, WV, WW, WX, WY, WZ, W0, W1, W2, W3, W4, Zk, Zl, Zm, Zn, Zo, Zp, Zq, Zr, Zs, Zt, Zu, Zv, Zw, Zx, Zy, Zz, ZA, ZB, ZC, ZD, ZE, ZF, ZG, ZH, ZI, ZJ, setAll, gv0, gv1, gl0, gl0o, gl0d, gl1, gf0, gf1, go0, go1, argsOf, W5, W6, W7, W8, W9, Za, Zb, Zc, Zd, Ze, Zf, Zg, Zh, Zi, Zj, Nat.reduceAdd, Nat.reduceSub]); (try simp only [Zk, Nat.zero_add, Nat.sub_self, Nat.add_zero, Nat.sub_zero, Int.one_mul, Int.toNat_natCast])
      refine c_ring_one X (by decide) hw hn ?_
      refine c_sub X (by decide) hw (len_fin hw hn (by omega)) (len_fin hw hn (by omega)) (by omega) ?_
      rw [← e2]; exact hQ
  · rw [show decide ((bl (x.val + y.val) : Int) > (n : Int)) = false by simp only [decide_eq_false_iff_not]; intro h2; exact h (bl_gt.mp (by omega))]
    (try dsimp only [Wa, Wb, Wc, Wd, We, Wf, Wg, Wh, Wi, Wj, Wk, Wl, Wm, Wn, Wo, Wp, Wq, Wr, Ws, Wt, Wu, Wv, Ww, Wx, Wy, Wz, WA, WB, WC, WD, WE, WF, WG, WH, WI, WJ, WK, WL, WM, WN, WO, WP, WQ, WR, WS, WT, WU, WV, WW, WX, WY, WZ, W0, W1, W2, W3, W4, Zk, Zl, Zm, Zn, Zo, Zp, Zq, Zr, Zs, Zt, Zu, Zv, Zw, Zx, Zy, Zz, ZA, ZB, ZC, ZD, ZE, ZF, ZG, ZH, ZI, ZJ, setAll, gv0, gv1, gl0, gl0o, gl0d, gl1, gf0, gf1, go0, go1, argsOf, W5, W6, W7, W8, W9, Za, Zb, Zc, Zd, Ze, Zf, Zg, Zh, Zi, Zj, Nat.reduceAdd, Nat.reduceSub]); (try simp only [Zk, Nat.zero_add, Nat.sub_self, Nat.add_zero, Nat.sub_zero, Int.one_mul, Int.toNat_natCast])
    rw [Nat.mod_eq_of_lt (by omega)] at e
    rw [← e]; exact hQ

theorem c_rsub (X : Txt G0 fa) (hN : 3 ≤ N) (hw : 1 ≤ w ∧ w ≤ 9) (hn : n ≤ 100) {x y : Fr2 n} (hQ : Q (rg w n (x - y)) D) : CallOK prog w0 G0 d fa N 11 [rg w n x, rg w n y, .int (n : Int), .int (w : Int)] D Q := by
  refine CallOK.mono (fn_sound X.gl X.hall (N := 2) (F := fn11) (X.at_ 11 (by decide)) rfl good11 rfl ?_) hN fun _ _ h => h
  have hx := x.isLt
  have hy := y.isLt
  have e : (x - y).val = (2 ^ n + 1 - y.val + x.val) % (2 ^ n + 1) := Fin.val_sub x y
  (try dsimp only [fn11, mini11, Wa, Wb, Wc, Wd, We, Wf, Wg, Wh, Wi, Wj, Wk, Wl, Wm, Wn, Wo, Wp, Wq, Wr, Ws, Wt, Wu, Wv, Ww, Wx, Wy, Wz, WA, WB, WC, WD, WE, WF, WG, WH, WI, WJ, WK, WL, WM, WN, WO, WP, WQ, WR, WS, WT, WU, WV, WW, WX, WY, WZ, W0, W1, W2, W3, W4, Zk, Zl, Zm, Zn, Zo, Zp, Zq, Zr, Zs, Zt, Zu, Zv, Zw, Zx, Zy, Zz, ZA, ZB, ZC, ZD, ZE, ZF, ZG, ZH, ZI, ZJ, setAll, gv0, gv1, gl0, gl0o, gl0d, gl1, gf0, gf1, go0, go1, argsOf, W5, W6, W7, W8, W9, Za, Zb, Zc, Zd, Ze, Zf, Zg, Zh, Zi, Zj, Nat.reduceAdd, Nat.reduceSub]); (try simp only [fn11, mini11, Zk, Nat.zero_add, Nat.sub_self, Nat.add_zero, Nat.sub_zero, Int.one_mul, Int.toNat_natCast])
  refine c_compare X (by decide) hw (len_fin hw hn (by omega)) (len_fin hw hn (by omega)) ?_
  (try dsimp only [Wa, Wb, Wc, Wd, We, Wf, Wg, Wh, Wi, Wj, Wk, Wl, Wm, Wn, Wo, Wp, Wq, Wr, Ws, Wt, Wu, Wv, Ww, Wx, Wy, Wz, WA, WB, WC, WD, WE, WF, WG, WH, WI, WJ, WK, WL, WM, WN, WO, WP, WQ, WR, WS, WT, WU, WV, WW, WX, WY, WZ, W0, W1, W2, W3, W4, Zk, Zl, Zm, Zn, Zo, Zp, Zq, Zr, Zs, Zt, Zu, Zv, Zw, Zx, Zy, Zz, ZA, ZB, ZC, ZD, ZE, ZF, ZG, ZH, ZI, ZJ, setAll, gv0, gv1, gl0, gl0o, gl0d, gl1, gf0, gf1, go0, go1, argsOf, W5, W6, W7, W8, W9, Za, Zb, Zc, Zd, Ze, Zf, Zg, Zh, Zi, Zj, Nat.reduceAdd, Nat.reduceSub]); (try simp only [Zk, Nat.zero_add, Nat.sub_self, Nat.add_zero, Nat.sub_zero, Int.one_mul, Int.toNat_natCast])
  unfold cmpI
  by_cases h : x.val < y.val
  · rw [if_pos h, show decide ((-1 : Int) ≥ 0) = false from rfl]
    (try dsimp only [Wa, Wb, Wc, Wd, We, Wf, Wg, Wh, Wi, Wj, Wk, Wl, Wm, Wn, Wo, Wp, Wq, Wr, Ws, Wt, Wu, Wv, Ww, Wx, Wy, Wz, WA, WB, WC, WD, WE, WF, WG, WH, WI, WJ, WK, WL, WM, WN, WO, WP, WQ, WR, WS, WT, WU, WV, WW, WX, WY, WZ, W0, W1, W2, W3, W4, Zk, Zl, Zm, Zn, Zo, Zp, Zq, Zr, Zs, Zt, Zu, Zv, Zw, Zx, Zy, Zz, ZA, ZB, ZC, ZD, ZE, ZF, ZG, ZH, ZI, ZJ, setAll, gv0, gv1, gl0, gl0o, gl0d, gl1, gf0, gf1, go0, go1, argsOf, W5, W6, W7, W8, W9, Za, Zb, Zc, Zd, Ze, Zf, Zg, Zh, Zi, Zj, Nat.reduceAdd, Nat.reduceSub]); (try simp only [Zk, Nat.zero_add, Nat.sub_self, Nat.add_zero, Nat.sub_zero, Int.one_mul, Int.toNat_natCast])
    refine c_ring_one X (by decide) hw hn ?_
    refine c_add X (by decide) hw (len_fin hw hn (by omega)) (len_fin hw hn (by omega)) ?_
    refine c_sub X (by decide) hw (len_fin hw hn (by omega)) (len_fin hw hn (by omega)) (by omega) ?_
    rw [Nat.mod_eq_of_lt (by omega)] at e
    rw [show x.val + (2 ^ n + 1) - y.val = (x - y).val by omega]; exact hQ
  · have hc : decide ((if x.val < y.val then (-1 : Int) else if x.val = y.val then 0 else 1) ≥ 0) = true := by
      rw [if_neg h]; split <;> decide
    rw [hc]
    (try dsimp only [Wa, Wb, Wc, Wd, We, Wf, Wg, Wh, Wi, Wj, Wk, Wl, Wm, Wn, Wo, Wp, Wq, Wr, Ws, Wt, Wu, Wv, Ww, Wx, Wy, Wz, WA, WB, WC, WD, WE, WF, WG, WH, WI, WJ, WK, WL, WM, WN, WO, WP, WQ, WR, WS, WT, WU, WV, WW, WX, WY, WZ, W0, W1, W2, W3, W4, Zk, Zl, Zm, Zn, Zo, Zp, Zq, Zr, Zs, Zt, Zu, Zv, Zw, Zx, Zy, Zz, ZA, ZB, ZC, ZD, ZE, ZF, ZG, ZH, ZI, ZJ, setAll, gv0, gv1, gl0, gl0o, gl0d, gl1, gf0, gf1, go0, go1, argsOf, W5, W6, W7, W8, W9, Za, Zb, Zc, Zd, Ze, Zf, Zg, Zh, Zi, Zj, Nat.reduceAdd, Nat.reduceSub]); (try simp only [Zk, Nat.zero_add, Nat.sub_self, Nat.add_zero, Nat.sub_zero, Int.one_mul, Int.toNat_natCast])
    refine c_sub X (by decide) hw (len_fin hw hn (by omega)) (len_fin hw hn (by omega)) (by omega) ?_
    rw [show 2 ^ n + 1 - y.val + x.val = x.val - y.val + (2 ^ n + 1) by omega, Nat.add_mod_right, Nat.mod_eq_of_lt (by omega)] at e
    rw [← e]; exact hQ

theorem c_rneg (X : Txt G0 fa) (hN : 3 ≤ N) (hw : 1 ≤ w ∧ w ≤ 9) (hn : n ≤ 100) {x : Fr2 n} (hQ : Q (rg w n (-x)) D) : CallOK prog w0 G0 d fa N 12 [rg w n x, .int (n : Int), .int (w : Int)] D Q := by
  refine CallOK.mono (fn_sound X.gl X.hall (N := 2) (F := fn12) (X.at_ 12 (by decide)) rfl good12 rfl ?_) hN fun _ _ h => h
  have hb := two_le_pow hw.1
  have hx := x.isLt
  have e : (-x).val = (2 ^ n + 1 - x.val) % (2 ^ n + 1) := Fin.val_neg' x
  (try dsimp only [fn12, mini12, Wa, Wb, Wc, Wd, We, Wf, Wg, Wh, Wi, Wj, Wk, Wl, Wm, Wn, Wo, Wp, Wq, Wr, Ws, Wt, Wu, Wv, Ww, Wx, Wy, Wz, WA, WB, WC, WD, WE, WF, WG, WH, WI, WJ, WK, WL, WM, WN, WO, WP, WQ, WR, WS, WT, WU, WV, WW, WX, WY, WZ, W0, W1, W2, W3, W4, Zk, Zl, Zm, Zn, Zo, Zp, Zq, Zr, Zs, Zt, Zu, Zv, Zw, Zx, Zy, Zz, ZA, ZB, ZC, ZD, ZE, ZF, ZG, ZH, ZI, ZJ, setAll, gv0, gv1, gl0, gl0o, gl0d, gl1, gf0, gf1, go0, go1, argsOf, W5, W6, W7, W8, W9, Za, Zb, Zc, Zd, Ze, Zf, Zg, Zh, Zi, Zj, Nat.reduceAdd, Nat.reduceSub]); (try simp only [fn12, mini12, List.length_map, Zk, Nat.zero_add, Nat.sub_self, Nat.add_zero, Nat.sub_zero, Int.one_mul, Int.toNat_natCast])
  by_cases h : x.val = 0
  · rw [show decide (((dig (2 ^ w) x.val).length : Int) > 0) = false by rw [h]; rfl]
    (try dsimp only [Wa, Wb, Wc, Wd, We, Wf, Wg, Wh, Wi, Wj, Wk, Wl, Wm, Wn, Wo, Wp, Wq, Wr, Ws, Wt, Wu, Wv, Ww, Wx, Wy, Wz, WA, WB, WC, WD, WE, WF, WG, WH, WI, WJ, WK, WL, WM, WN, WO, WP, WQ, WR, WS, WT, WU, WV, WW, WX, WY, WZ, W0, W1, W2, W3, W4, Zk, Zl, Zm, Zn, Zo, Zp, Zq, Zr, Zs, Zt, Zu, Zv, Zw, Zx, Zy, Zz, ZA, ZB, ZC, ZD, ZE, ZF, ZG, ZH, ZI, ZJ, setAll, gv0, gv1, gl0, gl0o, gl0d, gl1, gf0, gf1, go0, go1, argsOf, W5, W6, W7, W8, W9, Za, Zb, Zc, Zd, Ze, Zf, Zg, Zh, Zi, Zj, Nat.reduceAdd, Nat.reduceSub]); (try simp only [Zk, Nat.zero_add, Nat.sub_self, Nat.add_zero, Nat.sub_zero, Int.one_mul, Int.toNat_natCast])
    rw [h, Nat.sub_zero, Nat.mod_self] at e
    refine ⟨by rw [lim_eq]; omega, ?_⟩
    have hQ' : Q (num (2 ^ w) (-x).val) D := hQ
    rw [e] at hQ'
    exact hQ'
  · rw [show decide (((dig (2 ^ w) x.val).length : Int) > 0) = true by simp only [decide_eq_true_eq]; have := (num_pos (b := 2 ^ w) hb).mpr h; omega]
    (try dsimp only [Wa, Wb, Wc, Wd, We, Wf, Wg, Wh, Wi, Wj, Wk, Wl, Wm, Wn, Wo, Wp, Wq, Wr, Ws, Wt, Wu, Wv, Ww, Wx, Wy, Wz, WA, WB, WC, WD, WE, WF, WG, WH, WI, WJ, WK, WL, WM, WN, WO, WP, WQ, WR, WS, WT, WU, WV, WW, WX, WY, WZ, W0, W1, W2, W3, W4, Zk, Zl, Zm, Zn, Zo, Zp, Zq, Zr, Zs, Zt, Zu, Zv, Zw, Zx, Zy, Zz, ZA, ZB, ZC, ZD, ZE, ZF, ZG, ZH, ZI, ZJ, setAll, gv0, gv1, gl0, gl0o, gl0d, gl1, gf0, gf1, go0, go1, argsOf, W5, W6, W7, W8, W9, Za, Zb, Zc, Zd, Ze, Zf, Zg, Zh, Zi, Zj, Nat.reduceAdd, Nat.reduceSub]); (try simp only [Zk, Nat.zero_add, Nat.sub_self, Nat.add_zero, Nat.sub_zero, Int.one_mul, Int.toNat_natCast])
    refine c_ring_one X (by decide) hw hn ?_
    refine c_sub X (by decide) hw (len_fin hw hn (by omega)) (len_fin hw hn (by omega)) (by exact Nat.le_of_lt (by assumption)) ?_
    rw [Nat.mod_eq_of_lt (by omega)] at e
    rw [← e]; exact hQ

theorem c_fold (X : Txt G0 fa) (hN : 4 ≤ N) (hw : 1 ≤ w ∧ w ≤ 9) (hn : 1 ≤ n ∧ n ≤ 100) {u : Nat} (hu : u < 2 ^ 900) (hQ : Q (rg w n (on n u)) D) : CallOK prog w0 G0 d fa N 13 [num (2 ^ w) u, .int (n : Int), .int (w : Int)] D Q := by
  refine CallOK.mono (fn_sound X.gl X.hall (N := 3) (F := fn13) (X.at_ 13 (by decide)) rfl good13 rfl ?_) hN fun _ _ h => h
  have hb := two_le_pow hw.1
  (try dsimp only [fn13, mini13, Wa, Wb, Wc, Wd, We, Wf, Wg, Wh, Wi, Wj, Wk, Wl, Wm, Wn, Wo, Wp, Wq, Wr, Ws, Wt, Wu, Wv, Ww, Wx, Wy, Wz, WA, WB, WC, WD, WE, WF, WG, WH, WI, WJ, WK, WL, WM, WN, WO, WP, WQ, WR, WS, WT, WU, WV, WW, WX, WY, WZ, W0, W1, W2, W3, W4, Zk, Zl, Zm, Zn, Zo, Zp, Zq, Zr, Zs, Zt, Zu, Zv, Zw, Zx, Zy, Zz, ZA, ZB, ZC, ZD, ZE, ZF, ZG, ZH, ZI, ZJ, setAll, gv0, gv1, gl0, gl0o, gl0d, gl1, gf0, gf1, go0, go1, argsOf, W5, W6, W7, W8, W9, Za, Zb, Zc, Zd, Ze, Zf, Zg, Zh, Zi, Zj, Nat.reduceAdd, Nat.reduceSub]); (try simp only [fn13, mini13, Zk, Nat.zero_add, Nat.sub_self, Nat.add_zero, Nat.sub_zero, Int.one_mul, Int.toNat_natCast])
  refine ⟨by rw [lim_eq]; omega, ?_⟩
  refine whileW_inv (fun k σ D' => D' = D ∧ k ≤ u ∧ ∃ (f : Fr2 n) (s : Bool) (l : Sl), on n u = f + (if s then -on n k else on n k) ∧
    σ = [.v (num (2 ^ w) k), .v (.int (n : Int)), .v (.int (w : Int)), .v (rg w n f), .v (.bool s), l]) ?_ (n := u) ⟨rfl, Nat.le_refl _, 0, false, _, by simp, rfl⟩
  rintro k σ D' K ⟨rfl, hk, f, s, l, hf, rfl⟩ hK _
  (try dsimp only [c13x0, Wa, Wb, Wc, Wd, We, Wf, Wg, Wh, Wi, Wj, Wk, Wl, Wm, Wn, Wo, Wp, Wq, Wr, Ws, Wt, Wu, Wv, Ww, Wx, Wy, Wz, WA, WB, WC, WD, WE, WF, WG, WH, WI, WJ, WK, WL, WM, WN, WO, WP, WQ, WR, WS, WT, WU, WV, WW, WX, WY, WZ, W0, W1, W2, W3, W4, Zk, Zl, Zm, Zn, Zo, Zp, Zq, Zr, Zs, Zt, Zu, Zv, Zw, Zx, Zy, Zz, ZA, ZB, ZC, ZD, ZE, ZF, ZG, ZH, ZI, ZJ, setAll, gv0, gv1, gl0, gl0o, gl0d, gl1, gf0, gf1, go0, go1, argsOf, W5, W6, W7, W8, W9, Za, Zb, Zc, Zd, Ze, Zf, Zg, Zh, Zi, Zj, Nat.reduceAdd, Nat.reduceSub]); (try simp only [c13x0, List.length_map, Zk, Nat.zero_add, Nat.sub_self, Nat.add_zero, Nat.sub_zero, Int.one_mul, Int.toNat_natCast])
  by_cases h : k = 0
  · subst h
    rw [show decide (((dig (2 ^ w) 0).length : Int) > 0) = false from rfl]
    (try dsimp only [Wa, Wb, Wc, Wd, We, Wf, Wg, Wh, Wi, Wj, Wk, Wl, Wm, Wn, Wo, Wp, Wq, Wr, Ws, Wt, Wu, Wv, Ww, Wx, Wy, Wz, WA, WB, WC, WD, WE, WF, WG, WH, WI, WJ, WK, WL, WM, WN, WO, WP, WQ, WR, WS, WT, WU, WV, WW, WX, WY, WZ, W0, W1, W2, W3, W4, Zk, Zl, Zm, Zn, Zo, Zp, Zq, Zr, Zs, Zt, Zu, Zv, Zw, Zx, Zy, Zz, ZA, ZB, ZC, ZD, ZE, ZF, ZG, ZH, ZI, ZJ, setAll, gv0, gv1, gl0, gl0o, gl0d, gl1, gf0, gf1, go0, go1, argsOf, W5, W6, W7, W8, W9, Za, Zb, Zc, Zd, Ze, Zf, Zg, Zh, Zi, Zj, Nat.reduceAdd, Nat.reduceSub]); (try simp only [Zk, Nat.zero_add, Nat.sub_self, Nat.add_zero, Nat.sub_zero, Int.one_mul, Int.toNat_natCast])
    have : on n u = f := by
      rw [hf, on_zero]
      cases s <;> simp <;> grind
    rw [← this]; exact hQ
  · rw [show decide (((dig (2 ^ w) k).length : Int) > 0) = true by simp only [decide_eq_true_eq]; have := (num_pos (b := 2 ^ w) hb).mpr h; omega]
    have lk : (dig (2 ^ w) k).length < 1000 := num_len hw (k := 900) (by decide) (Nat.lt_of_le_of_lt hk hu)
    have hp := Nat.pow_pos (n := n) (show 0 < 2 by decide)
    have hlt := Nat.mod_lt k hp
    have ep : num (2 ^ w) (k % 2 ^ n) = rg w n (on n (k % 2 ^ n)) := by
      show _ = num (2 ^ w) ((k % 2 ^ n) % (2 ^ n + 1))
      rw [Nat.mod_eq_of_lt (show k % 2 ^ n < 2 ^ n + 1 by omega)]
    have ek : on n k = on n (k % 2 ^ n) - on n (k / 2 ^ n) := by
      have h1 : on n (k % 2 ^ n + 2 ^ n * (k / 2 ^ n)) = on n k := by rw [Nat.mod_add_div]
      rw [on_add, on_mul, on_top] at h1
      grind
    have hkd : k / 2 ^ n < k := Nat.div_lt_self (by omega) (by
      have := Nat.pow_le_pow_right (n := 2) (by decide) hn.1
      omega)
    (try dsimp only [b13x0, Wa, Wb, Wc, Wd, We, Wf, Wg, Wh, Wi, Wj, Wk, Wl, Wm, Wn, Wo, Wp, Wq, Wr, Ws, Wt, Wu, Wv, Ww, Wx, Wy, Wz, WA, WB, WC, WD, WE, WF, WG, WH, WI, WJ, WK, WL, WM, WN, WO, WP, WQ, WR, WS, WT, WU, WV, WW, WX, WY, WZ, W0, W1, W2, W3, W4, Zk, Zl, Zm, Zn, Zo, Zp, Zq, Zr, Zs, Zt, Zu, Zv, Zw, Zx, Zy, Zz, ZA, ZB, ZC, ZD, ZE, ZF, ZG, ZH, ZI, ZJ, setAll, gv0, gv1, gl0, gl0o, gl0d, gl1, gf0, gf1, go0, go1, argsOf, W5, W6, W7, W8, W9, Za, Zb, Zc, Zd, Ze, Zf, Zg, Zh, Zi, Zj, Nat.reduceAdd, Nat.reduceSub]); (try simp only [b13x0, Zk, Nat.zero_add, Nat.sub_self, Nat.add_zero, Nat.sub_zero, Int.one_mul, Int.toNat_natCast])
    refine c_low X (by decide) hw lk (by exact qdc (by assumption)) ?_
    rw [ep]
    cases s with
    | true =>
      (try dsimp only [Wa, Wb, Wc, Wd, We, Wf, Wg, Wh, Wi, Wj, Wk, Wl, Wm, Wn, Wo, Wp, Wq, Wr, Ws, Wt, Wu, Wv, Ww, Wx, Wy, Wz, WA, WB, WC, WD, WE, WF, WG, WH, WI, WJ, WK, WL, WM, WN, WO, WP, WQ, WR, WS, WT, WU, WV, WW, WX, WY, WZ, W0, W1, W2, W3, W4, Zk, Zl, Zm, Zn, Zo, Zp, Zq, Zr, Zs, Zt, Zu, Zv, Zw, Zx, Zy, Zz, ZA, ZB, ZC, ZD, ZE, ZF, ZG, ZH, ZI, ZJ, setAll, gv0, gv1, gl0, gl0o, gl0d, gl1, gf0, gf1, go0, go1, argsOf, W5, W6, W7, W8, W9, Za, Zb, Zc, Zd, Ze, Zf, Zg, Zh, Zi, Zj, Nat.reduceAdd, Nat.reduceSub]); (try simp only [Zk, Nat.zero_add, Nat.sub_self, Nat.add_zero, Nat.sub_zero, Int.one_mul, Int.toNat_natCast])
      refine c_rsub X (by decide) hw hn.2 ?_
      refine c_shift_right X (by decide) hw lk (by exact qdc (by assumption)) ?_
      (try dsimp only [Wa, Wb, Wc, Wd, We, Wf, Wg, Wh, Wi, Wj, Wk, Wl, Wm, Wn, Wo, Wp, Wq, Wr, Ws, Wt, Wu, Wv, Ww, Wx, Wy, Wz, WA, WB, WC, WD, WE, WF, WG, WH, WI, WJ, WK, WL, WM, WN, WO, WP, WQ, WR, WS, WT, WU, WV, WW, WX, WY, WZ, W0, W1, W2, W3, W4, Zk, Zl, Zm, Zn, Zo, Zp, Zq, Zr, Zs, Zt, Zu, Zv, Zw, Zx, Zy, Zz, ZA, ZB, ZC, ZD, ZE, ZF, ZG, ZH, ZI, ZJ, setAll, gv0, gv1, gl0, gl0o, gl0d, gl1, gf0, gf1, go0, go1, argsOf, W5, W6, W7, W8, W9, Za, Zb, Zc, Zd, Ze, Zf, Zg, Zh, Zi, Zj, Nat.reduceAdd, Nat.reduceSub]); (try simp only [Zk, Nat.zero_add, Nat.sub_self, Nat.add_zero, Nat.sub_zero, Int.one_mul, Int.toNat_natCast])
      refine hK (k / 2 ^ n) _ _ hkd ⟨rfl, by omega, f - on n (k % 2 ^ n), false, _, ?_, rfl⟩
      rw [hf]
      simp only [if_true, Bool.false_eq_true, if_false]
      grind
    | false =>
      (try dsimp only [Wa, Wb, Wc, Wd, We, Wf, Wg, Wh, Wi, Wj, Wk, Wl, Wm, Wn, Wo, Wp, Wq, Wr, Ws, Wt, Wu, Wv, Ww, Wx, Wy, Wz, WA, WB, WC, WD, WE, WF, WG, WH, WI, WJ, WK, WL, WM, WN, WO, WP, WQ, WR, WS, WT, WU, WV, WW, WX, WY, WZ, W0, W1, W2, W3, W4, Zk, Zl, Zm, Zn, Zo, Zp, Zq, Zr, Zs, Zt, Zu, Zv, Zw, Zx, Zy, Zz, ZA, ZB, ZC, ZD, ZE, ZF, ZG, ZH, ZI, ZJ, setAll, gv0, gv1, gl0, gl0o, gl0d, gl1, gf0, gf1, go0, go1, argsOf, W5, W6, W7, W8, W9, Za, Zb, Zc, Zd, Ze, Zf, Zg, Zh, Zi, Zj, Nat.reduceAdd, Nat.reduceSub]); (try simp only [Zk, Nat.zero_add, Nat.sub_self, Nat.add_zero, Nat.sub_zero, Int.one_mul, Int.toNat_natCast])
      refine c_radd X (by decide) hw hn.2 ?_
      refine c_shift_right X (by decide) hw lk (by exact qdc (by assumption)) ?_
      (try dsimp only [Wa, Wb, Wc, Wd, We, Wf, Wg, Wh, Wi, Wj, Wk, Wl, Wm, Wn, Wo, Wp, Wq, Wr, Ws, Wt, Wu, Wv, Ww, Wx, Wy, Wz, WA, WB, WC, WD, WE, WF, WG, WH, WI, WJ, WK, WL, WM, WN, WO, WP, WQ, WR, WS, WT, WU, WV, WW, WX, WY, WZ, W0, W1, W2, W3, W4, Zk, Zl, Zm, Zn, Zo, Zp, Zq, Zr, Zs, Zt, Zu, Zv, Zw, Zx, Zy, Zz, ZA, ZB, ZC, ZD, ZE, ZF, ZG, ZH, ZI, ZJ, setAll, gv0, gv1, gl0, gl0o, gl0d, gl1, gf0, gf1, go0, go1, argsOf, W5, W6, W7, W8, W9, Za, Zb, Zc, Zd, Ze, Zf, Zg, Zh, Zi, Zj, Nat.reduceAdd, Nat.reduceSub]); (try simp only [Zk, Nat.zero_add, Nat.sub_self, Nat.add_zero, Nat.sub_zero, Int.one_mul, Int.toNat_natCast])
      refine hK (k / 2 ^ n) _ _ hkd ⟨rfl, by omega, f + on n (k % 2 ^ n), true, _, ?_, rfl⟩
      rw [hf]
      simp only [if_true, Bool.false_eq_true, if_false]
      grind
end
end Mine
end

section
open PySem PySem.W PyProof.Rows
namespace Mine
theorem enum_at {ys : List PV} {j : Nat} {p : PV} (h : (ys.zipIdx.map fun x => PV.tup [.int x.2, x.1])[j]? = some p) : ∃ hj : j < ys.length, p = .tup [.int (j : Int), ys[j]] := by
  rw [List.getElem?_map, List.getElem?_zipIdx] at h
  cases q : ys[j]? with
  | none => rw [q] at h; cases h
  | some y =>
    obtain ⟨h1, h2⟩ := List.getElem?_eq_some_iff.mp q
    rw [q] at h
    refine ⟨h1, ?_⟩
    subst h2
    simpa using h.symm
theorem val_set {b : Nat} : ∀ (g : List Nat) (k v : Nat) (h : k < g.length), val b (g.set k v) + b ^ k * g[k] = val b g + b ^ k * v
  | [], k, v, h => by simp at h
  | x :: r, 0, v, h => by simp [val]; omega
  | x :: r, k + 1, v, h => by
    simp only [List.set_cons_succ, List.getElem_cons_succ, val]
    have := val_set (b := b) r k v (by simpa using h)
    have h2 := congrArg (fun t => b * t) this
    simp only [Nat.mul_add] at h2
    rw [Nat.pow_succ, Nat.mul_comm (b ^ k) b, Nat.mul_assoc, Nat.mul_assoc]
    omega
theorem lim_set {b : Nat} {g : List Nat} {k v : Nat} (h : Lim b g) (hv : v < b) : Lim b (g.set k v) := fun x hx => by
  rcases List.mem_or_eq_of_mem_set hx with h1 | h1
  · exact h x h1
  · omega
section
variable {prog : Program} {w0 : World} {G0 : Frz} {d : Option Addr} {fa : Nat → Addr} {N : Nat} {w n : Nat} {D : DS} {Q : PV → DS → Prop}

theorem U_mod {n : Nat} (k : Int) : U n (k % (2 * (n : Int))) = U n k := by unfold U; rw [Int.emod_emod]

theorem c_rshift0 (X : Txt G0 fa) (hN : 5 ≤ N) (hw : 1 ≤ w ∧ w ≤ 9) (hn : 1 ≤ n ∧ n ≤ 100) {x : Fr2 n} {k : Nat} (hk : k < n) (hQ : Q (rg w n (x * U n (k : Int))) D) : CallOK prog w0 G0 d fa N 14 [rg w n x, .int (k : Int), .int (n : Int), .int (w : Int)] D Q := by
  refine CallOK.mono (fn_sound X.gl X.hall (N := 4) (F := fn14) (X.at_ 14 (by decide)) rfl good14 rfl ?_) hN fun _ _ h => h
  have hb := two_le_pow hw.1
  have hx := fin_lt x
  (try dsimp only [fn14, mini14, Wa, Wb, Wc, Wd, We, Wf, Wg, Wh, Wi, Wj, Wk, Wl, Wm, Wn, Wo, Wp, Wq, Wr, Ws, Wt, Wu, Wv, Ww, Wx, Wy, Wz, WA, WB, WC, WD, WE, WF, WG, WH, WI, WJ, WK, WL, WM, WN, WO, WP, WQ, WR, WS, WT, WU, WV, WW, WX, WY, WZ, W0, W1, W2, W3, W4, Zk, Zl, Zm, Zn, Zo, Zp, Zq, Zr, Zs, Zt, Zu, Zv, Zw, Zx, Zy, Zz, ZA, ZB, ZC, ZD, ZE, ZF, ZG, ZH, ZI, ZJ, setAll, gv0, gv1, gl0, gl0o, gl0d, gl1, gf0, gf1, go0, go1, argsOf, W5, W6, W7, W8, W9, Za, Zb, Zc, Zd, Ze, Zf, Zg, Zh, Zi, Zj, Nat.reduceAdd, Nat.reduceSub]); (try simp only [fn14, mini14, Zk, Nat.zero_add, Nat.sub_self, Nat.add_zero, Nat.sub_zero, Int.one_mul, Int.toNat_natCast])
  refine ⟨⟨by decide, by exact q64c (by assumption)⟩, by exact q2n (by assumption), ?_⟩
  rw [Int.fmod_eq_emod_of_nonneg _ (by exact Int.natCast_nonneg _), Int.emod_eq_of_lt (by exact Int.natCast_nonneg _) (by omega)]
  rw [show decide ((k : Int) ≥ (n : Int)) = false by simp only [decide_eq_false_iff_not]; omega]
  (try dsimp only [Wa, Wb, Wc, Wd, We, Wf, Wg, Wh, Wi, Wj, Wk, Wl, Wm, Wn, Wo, Wp, Wq, Wr, Ws, Wt, Wu, Wv, Ww, Wx, Wy, Wz, WA, WB, WC, WD, WE, WF, WG, WH, WI, WJ, WK, WL, WM, WN, WO, WP, WQ, WR, WS, WT, WU, WV, WW, WX, WY, WZ, W0, W1, W2, W3, W4, Zk, Zl, Zm, Zn, Zo, Zp, Zq, Zr, Zs, Zt, Zu, Zv, Zw, Zx, Zy, Zz, ZA, ZB, ZC, ZD, ZE, ZF, ZG, ZH, ZI, ZJ, setAll, gv0, gv1, gl0, gl0o, gl0d, gl1, gf0, gf1, go0, go1, argsOf, W5, W6, W7, W8, W9, Za, Zb, Zc, Zd, Ze, Zf, Zg, Zh, Zi, Zj, Nat.reduceAdd, Nat.reduceSub]); (try simp only [Zk, Nat.zero_add, Nat.sub_self, Nat.add_zero, Nat.sub_zero, Int.one_mul, Int.toNat_natCast])
  refine c_shift_left X (by decide) hw (num_len hw (k := n + 1) (by exact qdc (by assumption)) hx) (by omega) ?_
  refine c_fold X (by decide) hw hn ?_ ?_
  · have h1 : x.val * 2 ^ k < 2 ^ (n + 1) * 2 ^ k := Nat.mul_lt_mul_of_pos_right hx (Nat.pow_pos (by decide))
    rw [← Nat.pow_add] at h1
    exact Nat.lt_of_lt_of_le h1 (Nat.pow_le_pow_right (by decide) (by omega))
  · rw [on_mul, on_of_val, ← U_nat hn.1]; exact hQ

theorem c_rshift (X : Txt G0 fa) (hN : 6 ≤ N) (hw : 1 ≤ w ∧ w ≤ 9) (hn : 1 ≤ n ∧ n ≤ 100) {x : Fr2 n} {k : Int} (hQ : Q (rg w n (x * U n k)) D) : CallOK prog w0 G0 d fa N 14 [rg w n x, .int k, .int (n : Int), .int (w : Int)] D Q := by
  refine CallOK.mono (fn_sound X.gl X.hall (N := 5) (F := fn14) (X.at_ 14 (by decide)) rfl good14 rfl ?_) hN fun _ _ h => h
  have hb := two_le_pow hw.1
  have hx := fin_lt x
  rw [← U_mod k] at hQ
  have h0 := Int.emod_nonneg k (b := 2 * (n : Int)) (by exact q2n (by assumption))
  have h1 := Int.emod_lt_of_pos k (b := 2 * (n : Int)) (by omega)
  (try dsimp only [fn14, mini14, Wa, Wb, Wc, Wd, We, Wf, Wg, Wh, Wi, Wj, Wk, Wl, Wm, Wn, Wo, Wp, Wq, Wr, Ws, Wt, Wu, Wv, Ww, Wx, Wy, Wz, WA, WB, WC, WD, WE, WF, WG, WH, WI, WJ, WK, WL, WM, WN, WO, WP, WQ, WR, WS, WT, WU, WV, WW, WX, WY, WZ, W0, W1, W2, W3, W4, Zk, Zl, Zm, Zn, Zo, Zp, Zq, Zr, Zs, Zt, Zu, Zv, Zw, Zx, Zy, Zz, ZA, ZB, ZC, ZD, ZE, ZF, ZG, ZH, ZI, ZJ, setAll, gv0, gv1, gl0, gl0o, gl0d, gl1, gf0, gf1, go0, go1, argsOf, W5, W6, W7, W8, W9, Za, Zb, Zc, Zd, Ze, Zf, Zg, Zh, Zi, Zj, Nat.reduceAdd, Nat.reduceSub]); (try simp only [fn14, mini14, Zk, Nat.zero_add, Nat.sub_self, Nat.add_zero, Nat.sub_zero, Int.one_mul, Int.toNat_natCast])
  refine ⟨⟨by decide, by exact q64c (by assumption)⟩, by exact q2n (by assumption), ?_⟩
  rw [Int.fmod_eq_emod_of_nonneg _ (by exact Int.natCast_nonneg _)]
  generalize hm : k % (2 * (n : Int)) = m at *
  obtain ⟨j, rfl⟩ := Int.eq_ofNat_of_zero_le h0
  by_cases hj : n ≤ j
  · rw [show decide ((j : Int) ≥ (n : Int)) = true by simp only [decide_eq_true_eq]; omega]
    (try dsimp only [Wa, Wb, Wc, Wd, We, Wf, Wg, Wh, Wi, Wj, Wk, Wl, Wm, Wn, Wo, Wp, Wq, Wr, Ws, Wt, Wu, Wv, Ww, Wx, Wy, Wz, WA, WB, WC, WD, WE, WF, WG, WH, WI, WJ, WK, WL, WM, WN, WO, WP, WQ, WR, WS, WT, WU, WV, WW, WX, WY, WZ, W0, W1, W2, W3, W4, Zk, Zl, Zm, Zn, Zo, Zp, Zq, Zr, Zs, Zt, Zu, Zv, Zw, Zx, Zy, Zz, ZA, ZB, ZC, ZD, ZE, ZF, ZG, ZH, ZI, ZJ, setAll, gv0, gv1, gl0, gl0o, gl0d, gl1, gf0, gf1, go0, go1, argsOf, W5, W6, W7, W8, W9, Za, Zb, Zc, Zd, Ze, Zf, Zg, Zh, Zi, Zj, Nat.reduceAdd, Nat.reduceSub]); (try simp only [Zk, Nat.zero_add, Nat.sub_self, Nat.add_zero, Nat.sub_zero, Int.one_mul, Int.toNat_natCast])
    rw [show (j : Int) - (n : Int) = ((j - n : Nat) : Int) by omega]
    refine c_rshift0 X (by decide) hw hn (by omega) ?_
    refine c_rneg X (by decide) hw hn.2 ?_
    have e : U n (j : Int) = -U n ((j - n : Nat) : Int) := by
      rw [show (j : Int) = ((j - n : Nat) : Int) + (n : Int) by omega, U_add hn.1, U_n hn.1]
      grind
    rw [e] at hQ
    rw [show -(x * U n ((j - n : Nat) : Int)) = x * -U n ((j - n : Nat) : Int) by grind]
    exact hQ
  · rw [show decide ((j : Int) ≥ (n : Int)) = false by simp only [decide_eq_false_iff_not]; omega]
    (try dsimp only [Wa, Wb, Wc, Wd, We, Wf, Wg, Wh, Wi, Wj, Wk, Wl, Wm, Wn, Wo, Wp, Wq, Wr, Ws, Wt, Wu, Wv, Ww, Wx, Wy, Wz, WA, WB, WC, WD, WE, WF, WG, WH, WI, WJ, WK, WL, WM, WN, WO, WP, WQ, WR, WS, WT, WU, WV, WW, WX, WY, WZ, W0, W1, W2, W3, W4, Zk, Zl, Zm, Zn, Zo, Zp, Zq, Zr, Zs, Zt, Zu, Zv, Zw, Zx, Zy, Zz, ZA, ZB, ZC, ZD, ZE, ZF, ZG, ZH, ZI, ZJ, setAll, gv0, gv1, gl0, gl0o, gl0d, gl1, gf0, gf1, go0, go1, argsOf, W5, W6, W7, W8, W9, Za, Zb, Zc, Zd, Ze, Zf, Zg, Zh, Zi, Zj, Nat.reduceAdd, Nat.reduceSub]); (try simp only [Zk, Nat.zero_add, Nat.sub_self, Nat.add_zero, Nat.sub_zero, Int.one_mul, Int.toNat_natCast])
    refine c_shift_left X (by decide) hw (num_len hw (k := n + 1) (by exact qdc (by assumption)) hx) (by omega) ?_
    refine c_fold X (by decide) hw hn ?_ ?_
    · have h1 : x.val * 2 ^ j < 2 ^ (n + 1) * 2 ^ j := Nat.mul_lt_mul_of_pos_right hx (Nat.pow_pos (by decide))
      rw [← Nat.pow_add] at h1
      exact Nat.lt_of_lt_of_le h1 (Nat.pow_le_pow_right (by decide) (by omega))
    · rw [on_mul, on_of_val, ← U_nat hn.1]; exact hQ

theorem c_mul (X : Txt G0 fa) (hN : 2 ≤ N) {u v : Nat} (hw : 1 ≤ w ∧ w ≤ 9) (lu : (dig (2 ^ w) u).length < 1000) (lv : (dig (2 ^ w) v).length < 1000) (hQ : Q (num (2 ^ w) (u * v)) D) :
    CallOK prog w0 G0 d fa N 26 [num (2 ^ w) u, num (2 ^ w) v, .int (w : Int)] D Q := by
  refine CallOK.mono (fn_sound X.gl X.hall (N := 1) (F := fn26) (X.at_ 26 (by decide)) rfl good26 rfl ?_) hN fun _ _ h => h
  have hb := two_le_pow hw.1
  replace hQ : Q (LN (dig (2 ^ w) (u * v))) D := hQ
  simp only [num]
  have hx := lim_dig hb u
  have hy := lim_dig hb v
  have eu := val_dig hb u
  have ev := val_dig hb v
  have lim' := lim_eq
  generalize dig (2 ^ w) u = xs at *
  generalize dig (2 ^ w) v = ys at *
  have hwp := pow_le_512 hw.2
  (try dsimp only [fn26, mini26, Wa, Wb, Wc, Wd, We, Wf, Wg, Wh, Wi, Wj, Wk, Wl, Wm, Wn, Wo, Wp, Wq, Wr, Ws, Wt, Wu, Wv, Ww, Wx, Wy, Wz, WA, WB, WC, WD, WE, WF, WG, WH, WI, WJ, WK, WL, WM, WN, WO, WP, WQ, WR, WS, WT, WU, WV, WW, WX, WY, WZ, W0, W1, W2, W3, W4, Zk, Zl, Zm, Zn, Zo, Zp, Zq, Zr, Zs, Zt, Zu, Zv, Zw, Zx, Zy, Zz, ZA, ZB, ZC, ZD, ZE, ZF, ZG, ZH, ZI, ZJ, setAll, gv0, gv1, gl0, gl0o, gl0d, gl1, gf0, gf1, go0, go1, argsOf, W5, W6, W7, W8, W9, Za, Zb, Zc, Zd, Ze, Zf, Zg, Zh, Zi, Zj, Nat.reduceAdd, Nat.reduceSub]); (try simp only [fn26, mini26, List.length_map, Zk, Nat.zero_add, Nat.sub_self, Nat.add_zero, Nat.sub_zero, Int.one_mul, Int.toNat_natCast])
  refine ⟨⟨by exact Int.natCast_nonneg _, by omega⟩, ⟨by exact Int.natCast_nonneg _, by exact q6c (by assumption), by decide⟩, ?_⟩
  rw [List.length_zipIdx, List.length_map]
  refine ⟨by exact qlb (by assumption), ?_⟩
  rw [show ((xs.length : Int) + (ys.length : Int)).toNat = xs.length + ys.length by omega, ← map_rep]
  refine forW_inv (fun i σ D' => D' = D ∧ i ≤ xs.length ∧ ∃ (f : List Nat) (l5 l6 l7 l8 l9 : Sl), f.length = xs.length + ys.length ∧ Lim (2 ^ w) f ∧ val (2 ^ w) f = val (2 ^ w) (xs.take i) * val (2 ^ w) ys ∧ (∀ k, i + ys.length ≤ k → f.getD k 0 = 0) ∧
    σ = [.v (LN xs), .v (LN ys), .v (.int (w : Int)), .own (f.map nv), .v (.int (2 ^ w - 1)), l5, l6, l7, l8, l9]) _ 0 _ _ ⟨rfl, by exact Nat.zero_le _, List.replicate (xs.length + ys.length) 0, _, _, _, _, _, by simp, lim_zeros hb _, by rw [val_zeros]; simp [val], fun k _ => by
      rw [List.getD_eq_getElem?_getD, List.getElem?_replicate]; split <;> rfl, rfl⟩ ?_ ?_
  · rintro i x σ D' K _ hxx ⟨rfl, hi', f, l5, l6, l7, l8, l9, hf, hlf, hv, hz, rfl⟩ hK _
    obtain ⟨hi, rfl⟩ := enum_at hxx
    simp only [Nat.sub_zero, List.length_map] at hi ⊢
    have x1 := hx _ (List.getElem_mem hi)
    (try dsimp only [b26x1, List.getElem_map, nv, Wa, Wb, Wc, Wd, We, Wf, Wg, Wh, Wi, Wj, Wk, Wl, Wm, Wn, Wo, Wp, Wq, Wr, Ws, Wt, Wu, Wv, Ww, Wx, Wy, Wz, WA, WB, WC, WD, WE, WF, WG, WH, WI, WJ, WK, WL, WM, WN, WO, WP, WQ, WR, WS, WT, WU, WV, WW, WX, WY, WZ, W0, W1, W2, W3, W4, Zk, Zl, Zm, Zn, Zo, Zp, Zq, Zr, Zs, Zt, Zu, Zv, Zw, Zx, Zy, Zz, ZA, ZB, ZC, ZD, ZE, ZF, ZG, ZH, ZI, ZJ, setAll, gv0, gv1, gl0, gl0o, gl0d, gl1, gf0, gf1, go0, go1, argsOf, W5, W6, W7, W8, W9, Za, Zb, Zc, Zd, Ze, Zf, Zg, Zh, Zi, Zj, Nat.reduceAdd, Nat.reduceSub]); (try simp only [b26x1, List.getElem_map, nv, List.length_map, List.length_zipIdx, Zk, Nat.zero_add, Nat.sub_self, Nat.add_zero, Nat.sub_zero, Int.one_mul, Int.toNat_natCast])
    refine ⟨by exact qlb (by assumption), ?_⟩
    refine forW_inv (fun j σ D'' => D'' = D' ∧ j ≤ ys.length ∧ ∃ (g : List Nat) (c : Nat) (l8 l9 : Sl), g.length = xs.length + ys.length ∧ Lim (2 ^ w) g ∧ c < 2 ^ w ∧ val (2 ^ w) g + (2 ^ w) ^ (i + j) * c = val (2 ^ w) f + (2 ^ w) ^ i * xs[i] * val (2 ^ w) (ys.take j) ∧ (∀ k, i + ys.length ≤ k → g.getD k 0 = 0) ∧
      σ = [.v (LN xs), .v (LN ys), .v (.int (w : Int)), .own (g.map nv), .v (.int (2 ^ w - 1)), .v (.int (i : Int)), .v (.int (xs[i] : Int)), .v (.int (c : Int)), l8, l9]) _ 0 _ _ ⟨rfl, by exact Nat.zero_le _, f, 0, _, _, hf, hlf, by exact Nat.pow_pos (by decide), by simp [val], hz, rfl⟩ ?_ ?_
    · rintro j y σ D'' K' _ hyy ⟨rfl, hj', g, c, l8, l9, hg, hlg, hc, hvg, hzg, rfl⟩ hK' _
      obtain ⟨hj, rfl⟩ := enum_at hyy
      simp only [Nat.sub_zero, List.length_map] at hj ⊢
      have y1 := hy _ (List.getElem_mem hj)
      have ij : i + j < g.length := by omega
      have g1 := hlg _ (List.getElem_mem ij)
      (try dsimp only [b26x0, List.getElem_map, nv, Wa, Wb, Wc, Wd, We, Wf, Wg, Wh, Wi, Wj, Wk, Wl, Wm, Wn, Wo, Wp, Wq, Wr, Ws, Wt, Wu, Wv, Ww, Wx, Wy, Wz, WA, WB, WC, WD, WE, WF, WG, WH, WI, WJ, WK, WL, WM, WN, WO, WP, WQ, WR, WS, WT, WU, WV, WW, WX, WY, WZ, W0, W1, W2, W3, W4, Zk, Zl, Zm, Zn, Zo, Zp, Zq, Zr, Zs, Zt, Zu, Zv, Zw, Zx, Zy, Zz, ZA, ZB, ZC, ZD, ZE, ZF, ZG, ZH, ZI, ZJ, setAll, gv0, gv1, gl0, gl0o, gl0d, gl1, gf0, gf1, go0, go1, argsOf, W5, W6, W7, W8, W9, Za, Zb, Zc, Zd, Ze, Zf, Zg, Zh, Zi, Zj, Nat.reduceAdd, Nat.reduceSub]); (try simp only [b26x0, List.getElem_map, nv, Zk, Nat.zero_add, Nat.sub_self, Nat.add_zero, Nat.sub_zero, Int.one_mul, Int.toNat_natCast])
      refine idx_rule (i + j) (by exact (Int.natCast_add _ _).symm) (ln_get (List.getElem?_eq_getElem ij)) ?_
      (try dsimp only [Wa, Wb, Wc, Wd, We, Wf, Wg, Wh, Wi, Wj, Wk, Wl, Wm, Wn, Wo, Wp, Wq, Wr, Ws, Wt, Wu, Wv, Ww, Wx, Wy, Wz, WA, WB, WC, WD, WE, WF, WG, WH, WI, WJ, WK, WL, WM, WN, WO, WP, WQ, WR, WS, WT, WU, WV, WW, WX, WY, WZ, W0, W1, W2, W3, W4, Zk, Zl, Zm, Zn, Zo, Zp, Zq, Zr, Zs, Zt, Zu, Zv, Zw, Zx, Zy, Zz, ZA, ZB, ZC, ZD, ZE, ZF, ZG, ZH, ZI, ZJ, setAll, gv0, gv1, gl0, gl0o, gl0d, gl1, gf0, gf1, go0, go1, argsOf, W5, W6, W7, W8, W9, Za, Zb, Zc, Zd, Ze, Zf, Zg, Zh, Zi, Zj, Nat.reduceAdd, Nat.reduceSub]); (try simp only [List.length_map, Zk, Nat.zero_add, Nat.sub_self, Nat.add_zero, Nat.sub_zero, Int.one_mul, Int.toNat_natCast])
      refine ⟨⟨by omega, by omega⟩, ⟨by exact Int.natCast_nonneg _, by omega⟩, by exact Int.natCast_nonneg _, ?_⟩
      have e : ((c : Int) + ((g[i + j] : Nat) + (xs[i] : Nat) * (ys[j] : Nat)) : Int) = ((c + g[i + j] + xs[i] * ys[j] : Nat) : Int) := by push_cast; omega
      rw [e, band_mask, fdiv_pow, show ((i : Int) + (j : Int)).toNat = i + j by omega]
      have hmul : xs[i] * ys[j] ≤ (2 ^ w - 1) * (2 ^ w - 1) := Nat.mul_le_mul (by omega) (by omega)
      have hsq : (2 ^ w - 1) * (2 ^ w - 1) + 2 * (2 ^ w - 1) + 1 = 2 ^ w * 2 ^ w := by
        obtain ⟨m, hm⟩ : ∃ m, 2 ^ w = m + 1 := ⟨2 ^ w - 1, by omega⟩
        rw [hm, Nat.add_sub_cancel]
        grind
      refine hK' _ _ ⟨rfl, hj, g.set (i + j) ((c + g[i + j] + xs[i] * ys[j]) % 2 ^ w), (c + g[i + j] + xs[i] * ys[j]) / 2 ^ w, _, _, by simp [hg], lim_set hlg (Nat.mod_lt _ (by exact Nat.pow_pos (by decide))), ?_, ?_, fun k hk => ?_, by rw [List.map_set]; rfl⟩
      · rw [Nat.div_lt_iff_lt_mul (by exact Nat.pow_pos (by decide))]; omega
      · have h1 := val_set (b := 2 ^ w) g (i + j) ((c + g[i + j] + xs[i] * ys[j]) % 2 ^ w) ij
        have h2 := Nat.mod_add_div (c + g[i + j] + xs[i] * ys[j]) (2 ^ w)
        have h3 := congrArg (fun t => (2 ^ w) ^ (i + j) * t) h2
        simp only [Nat.mul_add] at h3
        rw [take_succ_val _ _ hj, ← Nat.add_assoc i j 1, Nat.pow_succ, Nat.mul_assoc ((2 ^ w) ^ (i + j)) (2 ^ w)]
        have h4 : (2 ^ w) ^ (i + j) * (xs[i] * ys[j]) = (2 ^ w) ^ i * xs[i] * ((2 ^ w) ^ j * ys[j]) := by rw [Nat.pow_add]; grind
        rw [Nat.mul_add, ← h4]
        omega
      · rw [List.getD_eq_getElem?_getD, List.getElem?_set_ne (by omega), ← List.getD_eq_getElem?_getD]; exact hzg k hk
    · rintro σ D'' ⟨rfl, hj', g, c, l8, l9, hg, hlg, hc, hvg, hzg, rfl⟩
      rw [List.length_map, List.length_zipIdx, List.length_map, Nat.zero_add] at hvg
      rw [List.take_length] at hvg
      have ik : i + ys.length < g.length := by omega
      have g0 : g[i + ys.length] = 0 := by
        have := hzg (i + ys.length) (Nat.le_refl _)
        rwa [List.getD_eq_getElem?_getD, List.getElem?_eq_getElem ik] at this
      (try dsimp only [Wa, Wb, Wc, Wd, We, Wf, Wg, Wh, Wi, Wj, Wk, Wl, Wm, Wn, Wo, Wp, Wq, Wr, Ws, Wt, Wu, Wv, Ww, Wx, Wy, Wz, WA, WB, WC, WD, WE, WF, WG, WH, WI, WJ, WK, WL, WM, WN, WO, WP, WQ, WR, WS, WT, WU, WV, WW, WX, WY, WZ, W0, W1, W2, W3, W4, Zk, Zl, Zm, Zn, Zo, Zp, Zq, Zr, Zs, Zt, Zu, Zv, Zw, Zx, Zy, Zz, ZA, ZB, ZC, ZD, ZE, ZF, ZG, ZH, ZI, ZJ, setAll, gv0, gv1, gl0, gl0o, gl0d, gl1, gf0, gf1, go0, go1, argsOf, W5, W6, W7, W8, W9, Za, Zb, Zc, Zd, Ze, Zf, Zg, Zh, Zi, Zj, Nat.reduceAdd, Nat.reduceSub]); (try simp only [List.length_map, Zk, Nat.zero_add, Nat.sub_self, Nat.add_zero, Nat.sub_zero, Int.one_mul, Int.toNat_natCast])
      refine ⟨⟨by exact Int.natCast_nonneg _, by omega⟩, ?_⟩
      rw [show ((i : Int) + (ys.length : Int)).toNat = i + ys.length by omega]
      refine hK _ _ ⟨rfl, hi, g.set (i + ys.length) c, _, _, _, _, _, by simp [hg], lim_set hlg hc, ?_, fun k hk => ?_, by rw [List.map_set]; rfl⟩
      · have h1 := val_set (b := 2 ^ w) g (i + ys.length) c ik
        rw [g0, Nat.mul_zero, Nat.add_zero] at h1
        rw [h1, hvg, hv, take_succ_val _ _ hi, Nat.add_mul]
      · rw [List.getD_eq_getElem?_getD, List.getElem?_set_ne (by omega), ← List.getD_eq_getElem?_getD]; exact hzg k (by omega)
  · rintro σ D' ⟨rfl, hi', f, l5, l6, l7, l8, l9, hf, hlf, hv, hz, rfl⟩
    rw [List.length_map, List.length_zipIdx, List.length_map, Nat.zero_add] at hv
    rw [List.take_length] at hv
    (try dsimp only [Wa, Wb, Wc, Wd, We, Wf, Wg, Wh, Wi, Wj, Wk, Wl, Wm, Wn, Wo, Wp, Wq, Wr, Ws, Wt, Wu, Wv, Ww, Wx, Wy, Wz, WA, WB, WC, WD, WE, WF, WG, WH, WI, WJ, WK, WL, WM, WN, WO, WP, WQ, WR, WS, WT, WU, WV, WW, WX, WY, WZ, W0, W1, W2, W3, W4, Zk, Zl, Zm, Zn, Zo, Zp, Zq, Zr, Zs, Zt, Zu, Zv, Zw, Zx, Zy, Zz, ZA, ZB, ZC, ZD, ZE, ZF, ZG, ZH, ZI, ZJ, setAll, gv0, gv1, gl0, gl0o, gl0d, gl1, gf0, gf1, go0, go1, argsOf, W5, W6, W7, W8, W9, Za, Zb, Zc, Zd, Ze, Zf, Zg, Zh, Zi, Zj, Nat.reduceAdd, Nat.reduceSub]); (try simp only [Zk, Nat.zero_add, Nat.sub_self, Nat.add_zero, Nat.sub_zero, Int.one_mul, Int.toNat_natCast])
    refine c_normal X (by decide) ?_
    rw [take_cut hb hlf, hv, eu, ev]
    exact hQ

theorem c_rmul (X : Txt G0 fa) (hN : 5 ≤ N) (hw : 1 ≤ w ∧ w ≤ 9) (hn : 1 ≤ n ∧ n ≤ 100) {x y : Fr2 n} (hQ : Q (rg w n (x * y)) D) : CallOK prog w0 G0 d fa N 15 [rg w n x, rg w n y, .int (n : Int), .int (w : Int), .fn 26] D Q := by
  refine CallOK.mono (fn_sound X.gl X.hall (N := 4) (F := fn15) (X.at_ 15 (by decide)) rfl good15 rfl ?_) hN fun _ _ h => h
  have hx := fin_lt x
  have hy := fin_lt y
  (try dsimp only [fn15, mini15, Wa, Wb, Wc, Wd, We, Wf, Wg, Wh, Wi, Wj, Wk, Wl, Wm, Wn, Wo, Wp, Wq, Wr, Ws, Wt, Wu, Wv, Ww, Wx, Wy, Wz, WA, WB, WC, WD, WE, WF, WG, WH, WI, WJ, WK, WL, WM, WN, WO, WP, WQ, WR, WS, WT, WU, WV, WW, WX, WY, WZ, W0, W1, W2, W3, W4, Zk, Zl, Zm, Zn, Zo, Zp, Zq, Zr, Zs, Zt, Zu, Zv, Zw, Zx, Zy, Zz, ZA, ZB, ZC, ZD, ZE, ZF, ZG, ZH, ZI, ZJ, setAll, gv0, gv1, gl0, gl0o, gl0d, gl1, gf0, gf1, go0, go1, argsOf, W5, W6, W7, W8, W9, Za, Zb, Zc, Zd, Ze, Zf, Zg, Zh, Zi, Zj, Nat.reduceAdd, Nat.reduceSub]); (try simp only [fn15, mini15, Zk, Nat.zero_add, Nat.sub_self, Nat.add_zero, Nat.sub_zero, Int.one_mul, Int.toNat_natCast])
  refine c_mul X (by decide) hw (num_len hw (k := n + 1) (by exact qdc (by assumption)) hx) (num_len hw (k := n + 1) (by exact qdc (by assumption)) hy) ?_
  refine c_fold X (by decide) hw hn ?_ ?_
  · have h1 : x.val * y.val ≤ 2 ^ (n + 1) * 2 ^ (n + 1) := Nat.mul_le_mul (Nat.le_of_lt hx) (Nat.le_of_lt hy)
    rw [← Nat.pow_add] at h1
    exact Nat.lt_of_le_of_lt h1 (Nat.pow_lt_pow_right (by decide) (by omega))
  · rw [on_mul, on_of_val, on_of_val]; exact hQ
end
end Mine
end

section
open PySem PySem.W PyProof.Rows
namespace Mine
theorem ipow_nat (w : Nat) : (2 : Int) ^ w = ((2 ^ w : Nat) : Int) := by push_cast; rfl
theorem compW_map {f : PV → DS → (Option PV → DS → Prop) → Prop} {D : DS} (g : PV → PV) : ∀ (xs acc : List PV) {Q : List PV → DS → Prop},
    (∀ x ∈ xs, ∀ K : Option PV → DS → Prop, K (some (g x)) D → f x D K) → Q (acc ++ xs.map g) D → compW f xs D acc Q
  | [], acc, Q, _, h => by simpa [compW] using h
  | x :: r, acc, Q, hf, h => by
    unfold compW
    refine hf x List.mem_cons_self _ ?_
    show compW f r D (acc ++ [g x]) Q
    refine compW_map g r _ (fun y hy => hf y (List.mem_cons_of_mem _ hy)) ?_
    rw [List.map_cons] at h
    rw [List.append_assoc]; exact h
theorem compW_none {f : PV → DS → (Option PV → DS → Prop) → Prop} {D : DS} : ∀ (xs acc : List PV) {Q : List PV → DS → Prop},
    (∀ x ∈ xs, ∀ K : Option PV → DS → Prop, K none D → f x D K) → Q acc D → compW f xs D acc Q
  | [], acc, Q, _, h => by simpa [compW] using h
  | x :: r, acc, Q, hf, h => by
    unfold compW
    refine hf x List.mem_cons_self _ ?_
    exact compW_none r _ (fun y hy => hf y (List.mem_cons_of_mem _ hy)) h
/-- a comprehension whose items change the deal -/
theorem compW_deal {f : PV → DS → (Option PV → DS → Prop) → Prop} (I : DS → Prop) (P : PV → Prop) : ∀ (xs acc : List PV) {D : DS} {Q : List PV → DS → Prop},
    I D → (∀ x ∈ xs, ∀ D, I D → ∀ K : Option PV → DS → Prop, (∀ v D', P v → I D' → K (some v) D') → f x D K) → (∀ ys D', ys.length = xs.length → (∀ y ∈ ys, P y) → I D' → Q (acc ++ ys) D') → compW f xs D acc Q
  | [], acc, D, Q, hI, _, h => by
    have := h [] D rfl (fun y hy => by cases hy) hI
    simpa [compW] using this
  | x :: r, acc, D, Q, hI, hf, h => by
    unfold compW
    refine hf x List.mem_cons_self D hI _ fun v D' hv hI' => ?_
    show compW f r D' (acc ++ [v]) Q
    refine compW_deal I P r _ hI' (fun y hy => hf y (List.mem_cons_of_mem _ hy)) fun ys D'' hl hP hI'' => ?_
    rw [List.append_assoc]
    exact h (v :: ys) D'' (by simp [hl]) (fun y hy => by
      rcases List.mem_cons.mp hy with rfl | hy
      · exact hv
      · exact hP y hy) hI''

noncomputable def DealOk (D : DS) : Prop := ∃ (ns : List Int) (i s : Nat), (ns.length < 1000 ∧ s < 2147483647) ∧ D = [.list (ns.map PV.int), .int (i : Int), .int (s : Int)]

theorem intsOf_nv : ∀ xs : List Nat, intsOf (xs.map nv) = some (xs.map fun x : Nat => (x : Int))
  | [] => rfl
  | x :: r => by rw [List.map_cons, nv, intsOf, intsOf_nv r]; rfl
theorem ZK (xs ys : List PV) (Q : Bool → Prop) : cmp2 .ne (.list xs) (.list ys) Q = asSome (intsOf xs) fun ns => asSome (intsOf ys) fun ms => Q (!decide (ns = ms)) := rfl
theorem ZL (xs ys : List PV) (Q : Bool → Prop) : cmp2 .eq (.list xs) (.list ys) Q = asSome (intsOf xs) fun ns => asSome (intsOf ys) fun ms => Q (decide (ns = ms)) := rfl

/-- the places of the transform, told by halves -/
noncomputable def tr : Nat → Nat → Nat → Nat → Nat
  | 0, _, _, f => f
  | k + 1, a, m, f => if 1 < m then tr k (a / 2) (m / 2) (2 * f + a % 2) else f

section
variable {prog : Program} {w0 : World} {G0 : Frz} {d : Option Addr} {fa : Nat → Addr} {N : Nat} {w n : Nat} {D : DS} {Q : PV → DS → Prop}

theorem c_take (X : Txt G0 fa) (hN : 1 ≤ N) {m : Nat} (hm : 0 < m) (hD : DealOk D) (hQ : ∀ (r : Nat) D', r < m → DealOk D' → Q (.int (r : Int)) D') : CallOK prog w0 G0 d fa N 28 [.deal, .int (m : Int)] D Q := by
  refine CallOK.mono (fn_sound X.gl X.hall (N := 0) (F := fn28) (X.at_ 28 (by decide)) rfl good28 rfl ?_) hN fun _ _ h => h
  obtain ⟨ns, i, s, ⟨hl, hs⟩, rfl⟩ := hD
  have fin : ∀ (z : Int) D', DealOk D' → Q (.int (z.fmod (m : Int))) D' := fun z D' h => by
    rw [Int.fmod_eq_emod_of_nonneg _ (by exact Int.natCast_nonneg _)]
    have h0 := Int.emod_nonneg z (b := (m : Int)) (by exact qN0 (by assumption))
    have h1 := Int.emod_lt_of_pos z (b := (m : Int)) (by omega)
    obtain ⟨j, hj⟩ := Int.eq_ofNat_of_zero_le h0
    rw [hj]
    exact hQ j D' (by omega) h
  (try dsimp only [fn28, mini28, Wa, Wb, Wc, Wd, We, Wf, Wg, Wh, Wi, Wj, Wk, Wl, Wm, Wn, Wo, Wp, Wq, Wr, Ws, Wt, Wu, Wv, Ww, Wx, Wy, Wz, WA, WB, WC, WD, WE, WF, WG, WH, WI, WJ, WK, WL, WM, WN, WO, WP, WQ, WR, WS, WT, WU, WV, WW, WX, WY, WZ, W0, W1, W2, W3, W4, Zk, Zl, Zm, Zn, Zo, Zp, Zq, Zr, Zs, Zt, Zu, Zv, Zw, Zx, Zy, Zz, ZA, ZB, ZC, ZD, ZE, ZF, ZG, ZH, ZI, ZJ, setAll, gv0, gv1, gl0, gl0o, gl0d, gl1, gf0, gf1, go0, go1, argsOf, W5, W6, W7, W8, W9, Za, Zb, Zc, Zd, Ze, Zf, Zg, Zh, Zi, Zj, Nat.reduceAdd, Nat.reduceSub]); (try simp only [fn28, mini28, Zk, Nat.zero_add, Nat.sub_self, Nat.add_zero, Nat.sub_zero, Int.one_mul, Int.toNat_natCast])
  refine idx_rule 1 (by decide) rfl ?_ rfl
  (try dsimp only [Wa, Wb, Wc, Wd, We, Wf, Wg, Wh, Wi, Wj, Wk, Wl, Wm, Wn, Wo, Wp, Wq, Wr, Ws, Wt, Wu, Wv, Ww, Wx, Wy, Wz, WA, WB, WC, WD, WE, WF, WG, WH, WI, WJ, WK, WL, WM, WN, WO, WP, WQ, WR, WS, WT, WU, WV, WW, WX, WY, WZ, W0, W1, W2, W3, W4, Zk, Zl, Zm, Zn, Zo, Zp, Zq, Zr, Zs, Zt, Zu, Zv, Zw, Zx, Zy, Zz, ZA, ZB, ZC, ZD, ZE, ZF, ZG, ZH, ZI, ZJ, setAll, gv0, gv1, gl0, gl0o, gl0d, gl1, gf0, gf1, go0, go1, argsOf, W5, W6, W7, W8, W9, Za, Zb, Zc, Zd, Ze, Zf, Zg, Zh, Zi, Zj, Nat.reduceAdd, Nat.reduceSub]); (try simp only [Zk, Nat.zero_add, Nat.sub_self, Nat.add_zero, Nat.sub_zero, Int.one_mul, Int.toNat_natCast])
  refine idx_rule 0 (by decide) rfl ?_ rfl
  (try dsimp only [Wa, Wb, Wc, Wd, We, Wf, Wg, Wh, Wi, Wj, Wk, Wl, Wm, Wn, Wo, Wp, Wq, Wr, Ws, Wt, Wu, Wv, Ww, Wx, Wy, Wz, WA, WB, WC, WD, WE, WF, WG, WH, WI, WJ, WK, WL, WM, WN, WO, WP, WQ, WR, WS, WT, WU, WV, WW, WX, WY, WZ, W0, W1, W2, W3, W4, Zk, Zl, Zm, Zn, Zo, Zp, Zq, Zr, Zs, Zt, Zu, Zv, Zw, Zx, Zy, Zz, ZA, ZB, ZC, ZD, ZE, ZF, ZG, ZH, ZI, ZJ, setAll, gv0, gv1, gl0, gl0o, gl0d, gl1, gf0, gf1, go0, go1, argsOf, W5, W6, W7, W8, W9, Za, Zb, Zc, Zd, Ze, Zf, Zg, Zh, Zi, Zj, Nat.reduceAdd, Nat.reduceSub]); (try simp only [List.length_map, Zk, Nat.zero_add, Nat.sub_self, Nat.add_zero, Nat.sub_zero, Int.one_mul, Int.toNat_natCast])
  by_cases h : i < ns.length
  · rw [show decide ((i : Int) < (ns.length : Int)) = true by simpa using h]
    (try dsimp only [Wa, Wb, Wc, Wd, We, Wf, Wg, Wh, Wi, Wj, Wk, Wl, Wm, Wn, Wo, Wp, Wq, Wr, Ws, Wt, Wu, Wv, Ww, Wx, Wy, Wz, WA, WB, WC, WD, WE, WF, WG, WH, WI, WJ, WK, WL, WM, WN, WO, WP, WQ, WR, WS, WT, WU, WV, WW, WX, WY, WZ, W0, W1, W2, W3, W4, Zk, Zl, Zm, Zn, Zo, Zp, Zq, Zr, Zs, Zt, Zu, Zv, Zw, Zx, Zy, Zz, ZA, ZB, ZC, ZD, ZE, ZF, ZG, ZH, ZI, ZJ, setAll, gv0, gv1, gl0, gl0o, gl0d, gl1, gf0, gf1, go0, go1, argsOf, W5, W6, W7, W8, W9, Za, Zb, Zc, Zd, Ze, Zf, Zg, Zh, Zi, Zj, Nat.reduceAdd, Nat.reduceSub]); (try simp only [Zk, Nat.zero_add, Nat.sub_self, Nat.add_zero, Nat.sub_zero, Int.one_mul, Int.toNat_natCast])
    refine idx_rule 1 (by decide) rfl ?_ rfl
    (try dsimp only [Wa, Wb, Wc, Wd, We, Wf, Wg, Wh, Wi, Wj, Wk, Wl, Wm, Wn, Wo, Wp, Wq, Wr, Ws, Wt, Wu, Wv, Ww, Wx, Wy, Wz, WA, WB, WC, WD, WE, WF, WG, WH, WI, WJ, WK, WL, WM, WN, WO, WP, WQ, WR, WS, WT, WU, WV, WW, WX, WY, WZ, W0, W1, W2, W3, W4, Zk, Zl, Zm, Zn, Zo, Zp, Zq, Zr, Zs, Zt, Zu, Zv, Zw, Zx, Zy, Zz, ZA, ZB, ZC, ZD, ZE, ZF, ZG, ZH, ZI, ZJ, setAll, gv0, gv1, gl0, gl0o, gl0d, gl1, gf0, gf1, go0, go1, argsOf, W5, W6, W7, W8, W9, Za, Zb, Zc, Zd, Ze, Zf, Zg, Zh, Zi, Zj, Nat.reduceAdd, Nat.reduceSub]); (try simp only [Zk, Nat.zero_add, Nat.sub_self, Nat.add_zero, Nat.sub_zero, Int.one_mul, Int.toNat_natCast])
    refine ⟨by decide, ?_⟩
    refine idx_rule 0 (by decide) rfl ?_ rfl
    refine idx_rule 1 (by decide) rfl ?_ rfl
    (try dsimp only [Wa, Wb, Wc, Wd, We, Wf, Wg, Wh, Wi, Wj, Wk, Wl, Wm, Wn, Wo, Wp, Wq, Wr, Ws, Wt, Wu, Wv, Ww, Wx, Wy, Wz, WA, WB, WC, WD, WE, WF, WG, WH, WI, WJ, WK, WL, WM, WN, WO, WP, WQ, WR, WS, WT, WU, WV, WW, WX, WY, WZ, W0, W1, W2, W3, W4, Zk, Zl, Zm, Zn, Zo, Zp, Zq, Zr, Zs, Zt, Zu, Zv, Zw, Zx, Zy, Zz, ZA, ZB, ZC, ZD, ZE, ZF, ZG, ZH, ZI, ZJ, setAll, gv0, gv1, gl0, gl0o, gl0d, gl1, gf0, gf1, go0, go1, argsOf, W5, W6, W7, W8, W9, Za, Zb, Zc, Zd, Ze, Zf, Zg, Zh, Zi, Zj, Nat.reduceAdd, Nat.reduceSub]); (try simp only [Zk, Nat.zero_add, Nat.sub_self, Nat.add_zero, Nat.sub_zero, Int.one_mul, Int.toNat_natCast])
    refine idx_rule i (by omega) (p := .int ns[i]) (by rw [List.getElem?_map, List.getElem?_eq_getElem h]; rfl) ?_
    (try dsimp only [Wa, Wb, Wc, Wd, We, Wf, Wg, Wh, Wi, Wj, Wk, Wl, Wm, Wn, Wo, Wp, Wq, Wr, Ws, Wt, Wu, Wv, Ww, Wx, Wy, Wz, WA, WB, WC, WD, WE, WF, WG, WH, WI, WJ, WK, WL, WM, WN, WO, WP, WQ, WR, WS, WT, WU, WV, WW, WX, WY, WZ, W0, W1, W2, W3, W4, Zk, Zl, Zm, Zn, Zo, Zp, Zq, Zr, Zs, Zt, Zu, Zv, Zw, Zx, Zy, Zz, ZA, ZB, ZC, ZD, ZE, ZF, ZG, ZH, ZI, ZJ, setAll, gv0, gv1, gl0, gl0o, gl0d, gl1, gf0, gf1, go0, go1, argsOf, W5, W6, W7, W8, W9, Za, Zb, Zc, Zd, Ze, Zf, Zg, Zh, Zi, Zj, Nat.reduceAdd, Nat.reduceSub]); (try simp only [Zk, Nat.zero_add, Nat.sub_self, Nat.add_zero, Nat.sub_zero, Int.one_mul, Int.toNat_natCast])
    exact ⟨by exact qN0 (by assumption), fin _ _ ⟨ns, i + 1, s, ⟨hl, hs⟩, by push_cast; rfl⟩⟩
  · rw [show decide ((i : Int) < (ns.length : Int)) = false by simpa using h]
    (try dsimp only [Wa, Wb, Wc, Wd, We, Wf, Wg, Wh, Wi, Wj, Wk, Wl, Wm, Wn, Wo, Wp, Wq, Wr, Ws, Wt, Wu, Wv, Ww, Wx, Wy, Wz, WA, WB, WC, WD, WE, WF, WG, WH, WI, WJ, WK, WL, WM, WN, WO, WP, WQ, WR, WS, WT, WU, WV, WW, WX, WY, WZ, W0, W1, W2, W3, W4, Zk, Zl, Zm, Zn, Zo, Zp, Zq, Zr, Zs, Zt, Zu, Zv, Zw, Zx, Zy, Zz, ZA, ZB, ZC, ZD, ZE, ZF, ZG, ZH, ZI, ZJ, setAll, gv0, gv1, gl0, gl0o, gl0d, gl1, gf0, gf1, go0, go1, argsOf, W5, W6, W7, W8, W9, Za, Zb, Zc, Zd, Ze, Zf, Zg, Zh, Zi, Zj, Nat.reduceAdd, Nat.reduceSub]); (try simp only [Zk, Nat.zero_add, Nat.sub_self, Nat.add_zero, Nat.sub_zero, Int.one_mul, Int.toNat_natCast])
    refine idx_rule 2 (by decide) rfl ?_ rfl
    (try dsimp only [Wa, Wb, Wc, Wd, We, Wf, Wg, Wh, Wi, Wj, Wk, Wl, Wm, Wn, Wo, Wp, Wq, Wr, Ws, Wt, Wu, Wv, Ww, Wx, Wy, Wz, WA, WB, WC, WD, WE, WF, WG, WH, WI, WJ, WK, WL, WM, WN, WO, WP, WQ, WR, WS, WT, WU, WV, WW, WX, WY, WZ, W0, W1, W2, W3, W4, Zk, Zl, Zm, Zn, Zo, Zp, Zq, Zr, Zs, Zt, Zu, Zv, Zw, Zx, Zy, Zz, ZA, ZB, ZC, ZD, ZE, ZF, ZG, ZH, ZI, ZJ, setAll, gv0, gv1, gl0, gl0o, gl0d, gl1, gf0, gf1, go0, go1, argsOf, W5, W6, W7, W8, W9, Za, Zb, Zc, Zd, Ze, Zf, Zg, Zh, Zi, Zj, Nat.reduceAdd, Nat.reduceSub]); (try simp only [Zk, Nat.zero_add, Nat.sub_self, Nat.add_zero, Nat.sub_zero, Int.one_mul, Int.toNat_natCast])
    refine ⟨⟨by exact q64b (by assumption), by decide⟩, by decide, by decide, ?_⟩
    refine idx_rule 2 (by decide) rfl ?_ rfl
    (try dsimp only [Wa, Wb, Wc, Wd, We, Wf, Wg, Wh, Wi, Wj, Wk, Wl, Wm, Wn, Wo, Wp, Wq, Wr, Ws, Wt, Wu, Wv, Ww, Wx, Wy, Wz, WA, WB, WC, WD, WE, WF, WG, WH, WI, WJ, WK, WL, WM, WN, WO, WP, WQ, WR, WS, WT, WU, WV, WW, WX, WY, WZ, W0, W1, W2, W3, W4, Zk, Zl, Zm, Zn, Zo, Zp, Zq, Zr, Zs, Zt, Zu, Zv, Zw, Zx, Zy, Zz, ZA, ZB, ZC, ZD, ZE, ZF, ZG, ZH, ZI, ZJ, setAll, gv0, gv1, gl0, gl0o, gl0d, gl1, gf0, gf1, go0, go1, argsOf, W5, W6, W7, W8, W9, Za, Zb, Zc, Zd, Ze, Zf, Zg, Zh, Zi, Zj, Nat.reduceAdd, Nat.reduceSub]); (try simp only [Zk, Nat.zero_add, Nat.sub_self, Nat.add_zero, Nat.sub_zero, Int.one_mul, Int.toNat_natCast])
    refine ⟨⟨by decide, by decide⟩, by exact qN0 (by assumption), fin _ _ ⟨ns, i, (s * 16807 + 7919) % 2147483647, ⟨hl, Nat.mod_lt _ (by decide)⟩, ?_⟩⟩
    rw [show ((s : Int) * 16807 + 7919) = ((s * 16807 + 7919 : Nat) : Int) by exact (Int.natCast_add _ _).symm, show (2147483647 : Int) = ((2147483647 : Nat) : Int) from rfl, fmod_nat]

theorem c_great (X : Txt G0 fa) (hN : 2 ≤ N) {z : Nat} (hz : z ≤ 45) (hD : DealOk D) (hQ : ∀ (r : Nat) D', r < 2 ^ z → DealOk D' → Q (.int (r : Int)) D') : CallOK prog w0 G0 d fa N 29 [.deal, .int (z : Int)] D Q := by
  refine CallOK.mono (fn_sound X.gl X.hall (N := 1) (F := fn29) (X.at_ 29 (by decide)) rfl good29 rfl ?_) hN fun _ _ h => h
  have hp := Nat.pow_pos (n := z) (show 0 < 2 by decide)
  have lim' := lim_eq
  (try dsimp only [fn29, mini29, Wa, Wb, Wc, Wd, We, Wf, Wg, Wh, Wi, Wj, Wk, Wl, Wm, Wn, Wo, Wp, Wq, Wr, Ws, Wt, Wu, Wv, Ww, Wx, Wy, Wz, WA, WB, WC, WD, WE, WF, WG, WH, WI, WJ, WK, WL, WM, WN, WO, WP, WQ, WR, WS, WT, WU, WV, WW, WX, WY, WZ, W0, W1, W2, W3, W4, Zk, Zl, Zm, Zn, Zo, Zp, Zq, Zr, Zs, Zt, Zu, Zv, Zw, Zx, Zy, Zz, ZA, ZB, ZC, ZD, ZE, ZF, ZG, ZH, ZI, ZJ, setAll, gv0, gv1, gl0, gl0o, gl0d, gl1, gf0, gf1, go0, go1, argsOf, W5, W6, W7, W8, W9, Za, Zb, Zc, Zd, Ze, Zf, Zg, Zh, Zi, Zj, Nat.reduceAdd, Nat.reduceSub]); (try simp only [fn29, mini29, Zk, Nat.zero_add, Nat.sub_self, Nat.add_zero, Nat.sub_zero, Int.one_mul, Int.toNat_natCast])
  refine c_take X (m := 5) (by decide) (by decide) hD fun r D1 hr hD1 => ?_
  (try dsimp only [Wa, Wb, Wc, Wd, We, Wf, Wg, Wh, Wi, Wj, Wk, Wl, Wm, Wn, Wo, Wp, Wq, Wr, Ws, Wt, Wu, Wv, Ww, Wx, Wy, Wz, WA, WB, WC, WD, WE, WF, WG, WH, WI, WJ, WK, WL, WM, WN, WO, WP, WQ, WR, WS, WT, WU, WV, WW, WX, WY, WZ, W0, W1, W2, W3, W4, Zk, Zl, Zm, Zn, Zo, Zp, Zq, Zr, Zs, Zt, Zu, Zv, Zw, Zx, Zy, Zz, ZA, ZB, ZC, ZD, ZE, ZF, ZG, ZH, ZI, ZJ, setAll, gv0, gv1, gl0, gl0o, gl0d, gl1, gf0, gf1, go0, go1, argsOf, W5, W6, W7, W8, W9, Za, Zb, Zc, Zd, Ze, Zf, Zg, Zh, Zi, Zj, Nat.reduceAdd, Nat.reduceSub]); (try simp only [Zk, Nat.zero_add, Nat.sub_self, Nat.add_zero, Nat.sub_zero, Int.one_mul, Int.toNat_natCast])
  by_cases h : r < 2
  · rw [show decide ((r : Int) < 2) = true by simp only [decide_eq_true_eq]; omega]
    (try dsimp only [Wa, Wb, Wc, Wd, We, Wf, Wg, Wh, Wi, Wj, Wk, Wl, Wm, Wn, Wo, Wp, Wq, Wr, Ws, Wt, Wu, Wv, Ww, Wx, Wy, Wz, WA, WB, WC, WD, WE, WF, WG, WH, WI, WJ, WK, WL, WM, WN, WO, WP, WQ, WR, WS, WT, WU, WV, WW, WX, WY, WZ, W0, W1, W2, W3, W4, Zk, Zl, Zm, Zn, Zo, Zp, Zq, Zr, Zs, Zt, Zu, Zv, Zw, Zx, Zy, Zz, ZA, ZB, ZC, ZD, ZE, ZF, ZG, ZH, ZI, ZJ, setAll, gv0, gv1, gl0, gl0o, gl0d, gl1, gf0, gf1, go0, go1, argsOf, W5, W6, W7, W8, W9, Za, Zb, Zc, Zd, Ze, Zf, Zg, Zh, Zi, Zj, Nat.reduceAdd, Nat.reduceSub]); (try simp only [Zk, Nat.zero_add, Nat.sub_self, Nat.add_zero, Nat.sub_zero, Int.one_mul, Int.toNat_natCast])
    refine ⟨⟨by exact Int.natCast_nonneg _, by exact q6a (by assumption), by decide⟩, ⟨by exact Int.natCast_nonneg _, by exact q6a (by assumption), by decide⟩, ⟨by decide, by decide⟩, by decide, ?_⟩
    rw [ipow_nat]
    rcases (show r = 0 ∨ r = 1 by omega) with rfl | rfl
    · refine idx_rule 0 (by decide) rfl ?_ rfl
      rw [show ((2 ^ z : Nat) : Int) - 1 = ((2 ^ z - 1 : Nat) : Int) by omega]
      exact hQ _ _ (by omega) hD1
    · refine idx_rule 1 (by decide) rfl ?_ rfl
      rw [show (2 : Int) = ((2 : Nat) : Int) from rfl, fdiv_nat]
      exact hQ _ _ (by omega) hD1
  · rw [show decide ((r : Int) < 2) = false by simp only [decide_eq_false_iff_not]; omega]
    (try dsimp only [Wa, Wb, Wc, Wd, We, Wf, Wg, Wh, Wi, Wj, Wk, Wl, Wm, Wn, Wo, Wp, Wq, Wr, Ws, Wt, Wu, Wv, Ww, Wx, Wy, Wz, WA, WB, WC, WD, WE, WF, WG, WH, WI, WJ, WK, WL, WM, WN, WO, WP, WQ, WR, WS, WT, WU, WV, WW, WX, WY, WZ, W0, W1, W2, W3, W4, Zk, Zl, Zm, Zn, Zo, Zp, Zq, Zr, Zs, Zt, Zu, Zv, Zw, Zx, Zy, Zz, ZA, ZB, ZC, ZD, ZE, ZF, ZG, ZH, ZI, ZJ, setAll, gv0, gv1, gl0, gl0o, gl0d, gl1, gf0, gf1, go0, go1, argsOf, W5, W6, W7, W8, W9, Za, Zb, Zc, Zd, Ze, Zf, Zg, Zh, Zi, Zj, Nat.reduceAdd, Nat.reduceSub]); (try simp only [Zk, Nat.zero_add, Nat.sub_self, Nat.add_zero, Nat.sub_zero, Int.one_mul, Int.toNat_natCast])
    refine ⟨⟨by decide, by decide⟩, ?_⟩
    rw [show (16 : Int) = ((16 : Nat) : Int) from rfl, fdiv_nat, show ((z / 16 : Nat) : Int) + 1 = ((z / 16 + 1 : Nat) : Int) by exact (Int.natCast_add _ _).symm]
    refine ⟨by omega, ?_⟩
    rw [range_up, List.length_map, List.length_range]
    refine ⟨by omega, ?_⟩
    refine forW_inv (fun j σ D' => DealOk D' ∧ ∃ (f : Nat) (l : Sl), f < 65536 ^ j ∧ σ = [.v .deal, .v (.int (z : Int)), .v (.int (r : Int)), .v (.int (f : Int)), l]) _ 0 _ _ ⟨hD1, 0, _, by decide, rfl⟩ ?_ ?_
    · rintro j x σ D' K _ hxx ⟨hD', f, l, hf, rfl⟩ hK _
      obtain ⟨hj, rfl⟩ := map_at hxx
      rw [Nat.sub_zero] at hj ⊢
      (try dsimp only [b29x0, nv, Wa, Wb, Wc, Wd, We, Wf, Wg, Wh, Wi, Wj, Wk, Wl, Wm, Wn, Wo, Wp, Wq, Wr, Ws, Wt, Wu, Wv, Ww, Wx, Wy, Wz, WA, WB, WC, WD, WE, WF, WG, WH, WI, WJ, WK, WL, WM, WN, WO, WP, WQ, WR, WS, WT, WU, WV, WW, WX, WY, WZ, W0, W1, W2, W3, W4, Zk, Zl, Zm, Zn, Zo, Zp, Zq, Zr, Zs, Zt, Zu, Zv, Zw, Zx, Zy, Zz, ZA, ZB, ZC, ZD, ZE, ZF, ZG, ZH, ZI, ZJ, setAll, gv0, gv1, gl0, gl0o, gl0d, gl1, gf0, gf1, go0, go1, argsOf, W5, W6, W7, W8, W9, Za, Zb, Zc, Zd, Ze, Zf, Zg, Zh, Zi, Zj, Nat.reduceAdd, Nat.reduceSub]); (try simp only [b29x0, nv, Zk, Nat.zero_add, Nat.sub_self, Nat.add_zero, Nat.sub_zero, Int.one_mul, Int.toNat_natCast])
      have hf2 : f < 4294967296 := by
        have h1 : j ≤ 2 := by omega
        have h2 := Nat.pow_le_pow_right (n := 65536) (by decide) h1
        have h3 : 65536 ^ 2 = 4294967296 := by decide
        omega
      refine ⟨⟨by exact q64b (by assumption), by decide⟩, ?_⟩
      refine c_take X (m := 65536) (by decide) (by decide) hD' fun r' D2 hr' hD2 => ?_
      (try dsimp only [Wa, Wb, Wc, Wd, We, Wf, Wg, Wh, Wi, Wj, Wk, Wl, Wm, Wn, Wo, Wp, Wq, Wr, Ws, Wt, Wu, Wv, Ww, Wx, Wy, Wz, WA, WB, WC, WD, WE, WF, WG, WH, WI, WJ, WK, WL, WM, WN, WO, WP, WQ, WR, WS, WT, WU, WV, WW, WX, WY, WZ, W0, W1, W2, W3, W4, Zk, Zl, Zm, Zn, Zo, Zp, Zq, Zr, Zs, Zt, Zu, Zv, Zw, Zx, Zy, Zz, ZA, ZB, ZC, ZD, ZE, ZF, ZG, ZH, ZI, ZJ, setAll, gv0, gv1, gl0, gl0o, gl0d, gl1, gf0, gf1, go0, go1, argsOf, W5, W6, W7, W8, W9, Za, Zb, Zc, Zd, Ze, Zf, Zg, Zh, Zi, Zj, Nat.reduceAdd, Nat.reduceSub]); (try simp only [Zk, Nat.zero_add, Nat.sub_self, Nat.add_zero, Nat.sub_zero, Int.one_mul, Int.toNat_natCast])
      rw [show (f : Int) * 65536 + (r' : Int) = ((f * 65536 + r' : Nat) : Int) by exact (Int.natCast_add _ _).symm]
      refine hK _ _ ⟨hD2, f * 65536 + r', _, ?_, rfl⟩
      rw [Nat.pow_succ]; omega
    · rintro σ D' ⟨hD', f, l, hf, rfl⟩
      (try dsimp only [Wa, Wb, Wc, Wd, We, Wf, Wg, Wh, Wi, Wj, Wk, Wl, Wm, Wn, Wo, Wp, Wq, Wr, Ws, Wt, Wu, Wv, Ww, Wx, Wy, Wz, WA, WB, WC, WD, WE, WF, WG, WH, WI, WJ, WK, WL, WM, WN, WO, WP, WQ, WR, WS, WT, WU, WV, WW, WX, WY, WZ, W0, W1, W2, W3, W4, Zk, Zl, Zm, Zn, Zo, Zp, Zq, Zr, Zs, Zt, Zu, Zv, Zw, Zx, Zy, Zz, ZA, ZB, ZC, ZD, ZE, ZF, ZG, ZH, ZI, ZJ, setAll, gv0, gv1, gl0, gl0o, gl0d, gl1, gf0, gf1, go0, go1, argsOf, W5, W6, W7, W8, W9, Za, Zb, Zc, Zd, Ze, Zf, Zg, Zh, Zi, Zj, Nat.reduceAdd, Nat.reduceSub]); (try simp only [Zk, Nat.zero_add, Nat.sub_self, Nat.add_zero, Nat.sub_zero, Int.one_mul, Int.toNat_natCast])
      refine ⟨⟨by exact Int.natCast_nonneg _, by exact q6a (by assumption), by decide⟩, by rw [ipow_nat]; omega, ?_⟩
      rw [ipow_nat, fmod_nat]
      exact hQ _ _ (Nat.mod_lt _ hp) hD'

theorem c_element (X : Txt G0 fa) (hN : 3 ≤ N) (hn : n ≤ 45) (hD : DealOk D) (hQ : ∀ (r : Nat) D', r < 2 ^ n + 1 → DealOk D' → Q (.int (r : Int)) D') : CallOK prog w0 G0 d fa N 32 [.deal, .int (n : Int)] D Q := by
  refine CallOK.mono (fn_sound X.gl X.hall (N := 2) (F := fn32) (X.at_ 32 (by decide)) rfl good32 rfl ?_) hN fun _ _ h => h
  have hp := Nat.pow_pos (n := n) (show 0 < 2 by decide)
  have lim' := lim_eq
  (try dsimp only [fn32, mini32, Wa, Wb, Wc, Wd, We, Wf, Wg, Wh, Wi, Wj, Wk, Wl, Wm, Wn, Wo, Wp, Wq, Wr, Ws, Wt, Wu, Wv, Ww, Wx, Wy, Wz, WA, WB, WC, WD, WE, WF, WG, WH, WI, WJ, WK, WL, WM, WN, WO, WP, WQ, WR, WS, WT, WU, WV, WW, WX, WY, WZ, W0, W1, W2, W3, W4, Zk, Zl, Zm, Zn, Zo, Zp, Zq, Zr, Zs, Zt, Zu, Zv, Zw, Zx, Zy, Zz, ZA, ZB, ZC, ZD, ZE, ZF, ZG, ZH, ZI, ZJ, setAll, gv0, gv1, gl0, gl0o, gl0d, gl1, gf0, gf1, go0, go1, argsOf, W5, W6, W7, W8, W9, Za, Zb, Zc, Zd, Ze, Zf, Zg, Zh, Zi, Zj, Nat.reduceAdd, Nat.reduceSub]); (try simp only [fn32, mini32, Zk, Nat.zero_add, Nat.sub_self, Nat.add_zero, Nat.sub_zero, Int.one_mul, Int.toNat_natCast])
  refine c_take X (m := 5) (by decide) (by decide) hD fun r D1 hr hD1 => ?_
  (try dsimp only [Wa, Wb, Wc, Wd, We, Wf, Wg, Wh, Wi, Wj, Wk, Wl, Wm, Wn, Wo, Wp, Wq, Wr, Ws, Wt, Wu, Wv, Ww, Wx, Wy, Wz, WA, WB, WC, WD, WE, WF, WG, WH, WI, WJ, WK, WL, WM, WN, WO, WP, WQ, WR, WS, WT, WU, WV, WW, WX, WY, WZ, W0, W1, W2, W3, W4, Zk, Zl, Zm, Zn, Zo, Zp, Zq, Zr, Zs, Zt, Zu, Zv, Zw, Zx, Zy, Zz, ZA, ZB, ZC, ZD, ZE, ZF, ZG, ZH, ZI, ZJ, setAll, gv0, gv1, gl0, gl0o, gl0d, gl1, gf0, gf1, go0, go1, argsOf, W5, W6, W7, W8, W9, Za, Zb, Zc, Zd, Ze, Zf, Zg, Zh, Zi, Zj, Nat.reduceAdd, Nat.reduceSub]); (try simp only [Zk, Nat.zero_add, Nat.sub_self, Nat.add_zero, Nat.sub_zero, Int.one_mul, Int.toNat_natCast])
  by_cases h : r < 3
  · rw [show decide ((r : Int) < 3) = true by simp only [decide_eq_true_eq]; omega]
    (try dsimp only [Wa, Wb, Wc, Wd, We, Wf, Wg, Wh, Wi, Wj, Wk, Wl, Wm, Wn, Wo, Wp, Wq, Wr, Ws, Wt, Wu, Wv, Ww, Wx, Wy, Wz, WA, WB, WC, WD, WE, WF, WG, WH, WI, WJ, WK, WL, WM, WN, WO, WP, WQ, WR, WS, WT, WU, WV, WW, WX, WY, WZ, W0, W1, W2, W3, W4, Zk, Zl, Zm, Zn, Zo, Zp, Zq, Zr, Zs, Zt, Zu, Zv, Zw, Zx, Zy, Zz, ZA, ZB, ZC, ZD, ZE, ZF, ZG, ZH, ZI, ZJ, setAll, gv0, gv1, gl0, gl0o, gl0d, gl1, gf0, gf1, go0, go1, argsOf, W5, W6, W7, W8, W9, Za, Zb, Zc, Zd, Ze, Zf, Zg, Zh, Zi, Zj, Nat.reduceAdd, Nat.reduceSub]); (try simp only [Zk, Nat.zero_add, Nat.sub_self, Nat.add_zero, Nat.sub_zero, Int.one_mul, Int.toNat_natCast])
    refine ⟨⟨by exact Int.natCast_nonneg _, by exact q6a (by assumption), by decide⟩, by decide, ?_⟩
    rw [ipow_nat]
    rcases (show r = 0 ∨ r = 1 ∨ r = 2 by omega) with rfl | rfl | rfl
    · exact idx_rule 0 (by decide) rfl (hQ _ _ (by omega) hD1) rfl
    · exact idx_rule 1 (by decide) rfl (hQ 0 _ (by omega) hD1) rfl
    · exact idx_rule 2 (by decide) rfl (hQ 1 _ (by omega) hD1) rfl
  · rw [show decide ((r : Int) < 3) = false by simp only [decide_eq_false_iff_not]; omega]
    (try dsimp only [Wa, Wb, Wc, Wd, We, Wf, Wg, Wh, Wi, Wj, Wk, Wl, Wm, Wn, Wo, Wp, Wq, Wr, Ws, Wt, Wu, Wv, Ww, Wx, Wy, Wz, WA, WB, WC, WD, WE, WF, WG, WH, WI, WJ, WK, WL, WM, WN, WO, WP, WQ, WR, WS, WT, WU, WV, WW, WX, WY, WZ, W0, W1, W2, W3, W4, Zk, Zl, Zm, Zn, Zo, Zp, Zq, Zr, Zs, Zt, Zu, Zv, Zw, Zx, Zy, Zz, ZA, ZB, ZC, ZD, ZE, ZF, ZG, ZH, ZI, ZJ, setAll, gv0, gv1, gl0, gl0o, gl0d, gl1, gf0, gf1, go0, go1, argsOf, W5, W6, W7, W8, W9, Za, Zb, Zc, Zd, Ze, Zf, Zg, Zh, Zi, Zj, Nat.reduceAdd, Nat.reduceSub]); (try simp only [Zk, Nat.zero_add, Nat.sub_self, Nat.add_zero, Nat.sub_zero, Int.one_mul, Int.toNat_natCast])
    exact c_great X (by decide) hn hD1 fun r D' hr => hQ r D' (by omega)

theorem c_row (X : Txt G0 fa) (hN : 1 ≤ N) {v : Nat} (hw : 1 ≤ w ∧ w ≤ 9) (hl : (dig (2 ^ w) v).length < 1000) (hQ : Q (num (2 ^ w) v) D) : CallOK prog w0 G0 d fa N 30 [.int (v : Int), .int (w : Int)] D Q := by
  refine CallOK.mono (fn_sound X.gl X.hall (N := 0) (F := fn30) (X.at_ 30 (by decide)) rfl good30 rfl ?_) hN fun _ _ h => h
  have hb := two_le_pow hw.1
  have hwp := pow_le_512 hw.2
  have lim' := lim_eq
  (try dsimp only [fn30, mini30, Wa, Wb, Wc, Wd, We, Wf, Wg, Wh, Wi, Wj, Wk, Wl, Wm, Wn, Wo, Wp, Wq, Wr, Ws, Wt, Wu, Wv, Ww, Wx, Wy, Wz, WA, WB, WC, WD, WE, WF, WG, WH, WI, WJ, WK, WL, WM, WN, WO, WP, WQ, WR, WS, WT, WU, WV, WW, WX, WY, WZ, W0, W1, W2, W3, W4, Zk, Zl, Zm, Zn, Zo, Zp, Zq, Zr, Zs, Zt, Zu, Zv, Zw, Zx, Zy, Zz, ZA, ZB, ZC, ZD, ZE, ZF, ZG, ZH, ZI, ZJ, setAll, gv0, gv1, gl0, gl0o, gl0d, gl1, gf0, gf1, go0, go1, argsOf, W5, W6, W7, W8, W9, Za, Zb, Zc, Zd, Ze, Zf, Zg, Zh, Zi, Zj, Nat.reduceAdd, Nat.reduceSub]); (try simp only [fn30, mini30, Zk, Nat.zero_add, Nat.sub_self, Nat.add_zero, Nat.sub_zero, Int.one_mul, Int.toNat_natCast])
  refine ⟨by decide, ?_⟩
  refine whileW_inv (fun n σ D' => D' = D ∧ ∃ pre : List Nat, dig (2 ^ w) v = pre ++ dig (2 ^ w) n ∧ σ = [.v (.int (n : Int)), .v (.int (w : Int)), .own (pre.map nv)]) ?_ (n := v) ⟨rfl, [], rfl, rfl⟩
  rintro n σ D' K ⟨rfl, pre, hp, rfl⟩ hK _
  (try dsimp only [c30x0, b30x0, Wa, Wb, Wc, Wd, We, Wf, Wg, Wh, Wi, Wj, Wk, Wl, Wm, Wn, Wo, Wp, Wq, Wr, Ws, Wt, Wu, Wv, Ww, Wx, Wy, Wz, WA, WB, WC, WD, WE, WF, WG, WH, WI, WJ, WK, WL, WM, WN, WO, WP, WQ, WR, WS, WT, WU, WV, WW, WX, WY, WZ, W0, W1, W2, W3, W4, Zk, Zl, Zm, Zn, Zo, Zp, Zq, Zr, Zs, Zt, Zu, Zv, Zw, Zx, Zy, Zz, ZA, ZB, ZC, ZD, ZE, ZF, ZG, ZH, ZI, ZJ, setAll, gv0, gv1, gl0, gl0o, gl0d, gl1, gf0, gf1, go0, go1, argsOf, W5, W6, W7, W8, W9, Za, Zb, Zc, Zd, Ze, Zf, Zg, Zh, Zi, Zj, Nat.reduceAdd, Nat.reduceSub]); (try simp only [c30x0, b30x0, Zk, Nat.zero_add, Nat.sub_self, Nat.add_zero, Nat.sub_zero, Int.one_mul, Int.toNat_natCast])
  cases n with
  | zero =>
    rw [show decide (((0 : Nat) : Int) > 0) = false from rfl]
    rw [dig_zero, List.append_nil] at hp
    (try dsimp only [Wa, Wb, Wc, Wd, We, Wf, Wg, Wh, Wi, Wj, Wk, Wl, Wm, Wn, Wo, Wp, Wq, Wr, Ws, Wt, Wu, Wv, Ww, Wx, Wy, Wz, WA, WB, WC, WD, WE, WF, WG, WH, WI, WJ, WK, WL, WM, WN, WO, WP, WQ, WR, WS, WT, WU, WV, WW, WX, WY, WZ, W0, W1, W2, W3, W4, Zk, Zl, Zm, Zn, Zo, Zp, Zq, Zr, Zs, Zt, Zu, Zv, Zw, Zx, Zy, Zz, ZA, ZB, ZC, ZD, ZE, ZF, ZG, ZH, ZI, ZJ, setAll, gv0, gv1, gl0, gl0o, gl0d, gl1, gf0, gf1, go0, go1, argsOf, W5, W6, W7, W8, W9, Za, Zb, Zc, Zd, Ze, Zf, Zg, Zh, Zi, Zj, Nat.reduceAdd, Nat.reduceSub]); (try simp only [Zk, Nat.zero_add, Nat.sub_self, Nat.add_zero, Nat.sub_zero, Int.one_mul, Int.toNat_natCast])
    rw [← hp]; exact hQ
  | succ k =>
    rw [show decide (((k + 1 : Nat) : Int) > 0) = true by simp]
    have hp' := hp
    rw [dig_pos hb (by omega : k + 1 ≠ 0)] at hp'
    (try dsimp only [Wa, Wb, Wc, Wd, We, Wf, Wg, Wh, Wi, Wj, Wk, Wl, Wm, Wn, Wo, Wp, Wq, Wr, Ws, Wt, Wu, Wv, Ww, Wx, Wy, Wz, WA, WB, WC, WD, WE, WF, WG, WH, WI, WJ, WK, WL, WM, WN, WO, WP, WQ, WR, WS, WT, WU, WV, WW, WX, WY, WZ, W0, W1, W2, W3, W4, Zk, Zl, Zm, Zn, Zo, Zp, Zq, Zr, Zs, Zt, Zu, Zv, Zw, Zx, Zy, Zz, ZA, ZB, ZC, ZD, ZE, ZF, ZG, ZH, ZI, ZJ, setAll, gv0, gv1, gl0, gl0o, gl0d, gl1, gf0, gf1, go0, go1, argsOf, W5, W6, W7, W8, W9, Za, Zb, Zc, Zd, Ze, Zf, Zg, Zh, Zi, Zj, Nat.reduceAdd, Nat.reduceSub]); (try simp only [Zk, Nat.zero_add, Nat.sub_self, Nat.add_zero, Nat.sub_zero, Int.one_mul, Int.toNat_natCast])
    have hlen : pre.length + 1 < lim := by
      have := congrArg List.length hp'
      rw [List.length_append, List.length_cons] at this
      omega
    rw [ipow_nat]
    refine ⟨⟨by exact Int.natCast_nonneg _, by exact q6c (by assumption), by decide⟩, by exact qpz, by rw [List.length_map]; exact hlen, ⟨by exact Int.natCast_nonneg _, by exact q6c (by assumption), by decide⟩, ⟨by exact qpz, by exact q64a (by assumption)⟩, ?_⟩
    rw [fmod_nat, fdiv_nat]
    refine hK ((k + 1) / 2 ^ w) _ _ (Nat.div_lt_self (by omega) (by assumption)) ⟨rfl, pre ++ [(k + 1) % 2 ^ w], ?_, ?_⟩
    · rw [hp', List.append_assoc]; rfl
    · simp [nv]

theorem c_value (X : Txt G0 fa) (hN : 1 ≤ N) {v : Nat} (hw : 1 ≤ w ∧ w ≤ 9) (hv : v < 2 ^ 64) (hQ : Q (.int (v : Int)) D) : CallOK prog w0 G0 d fa N 31 [num (2 ^ w) v, .int (w : Int)] D Q := by
  refine CallOK.mono (fn_sound X.gl X.hall (N := 0) (F := fn31) (X.at_ 31 (by decide)) rfl good31 rfl ?_) hN fun _ _ h => h
  have hb := two_le_pow hw.1
  have hwp := pow_le_512 hw.2
  have lim' := lim_eq
  have hl := num_len (v := v) hw (k := 64) (by decide) hv
  have hx := lim_dig hb v
  have ht := top_dig hb v
  have ev := val_dig hb v
  simp only [num]
  generalize dig (2 ^ w) v = xs at *
  (try dsimp only [fn31, mini31, Wa, Wb, Wc, Wd, We, Wf, Wg, Wh, Wi, Wj, Wk, Wl, Wm, Wn, Wo, Wp, Wq, Wr, Ws, Wt, Wu, Wv, Ww, Wx, Wy, Wz, WA, WB, WC, WD, WE, WF, WG, WH, WI, WJ, WK, WL, WM, WN, WO, WP, WQ, WR, WS, WT, WU, WV, WW, WX, WY, WZ, W0, W1, W2, W3, W4, Zk, Zl, Zm, Zn, Zo, Zp, Zq, Zr, Zs, Zt, Zu, Zv, Zw, Zx, Zy, Zz, ZA, ZB, ZC, ZD, ZE, ZF, ZG, ZH, ZI, ZJ, setAll, gv0, gv1, gl0, gl0o, gl0d, gl1, gf0, gf1, go0, go1, argsOf, W5, W6, W7, W8, W9, Za, Zb, Zc, Zd, Ze, Zf, Zg, Zh, Zi, Zj, Nat.reduceAdd, Nat.reduceSub]); (try simp only [fn31, mini31, List.length_map, Zk, Nat.zero_add, Nat.sub_self, Nat.add_zero, Nat.sub_zero, Int.one_mul, Int.toNat_natCast])
  refine ⟨by exact qlb (by assumption), ?_⟩
  refine compW_none _ _ (fun x hx' K hK => ?_) ?_
  · obtain ⟨y, hy, rfl⟩ := List.mem_map.mp hx'
    have h1 := hx y hy
    (try dsimp only [t31x0, e31x0, nv, Wa, Wb, Wc, Wd, We, Wf, Wg, Wh, Wi, Wj, Wk, Wl, Wm, Wn, Wo, Wp, Wq, Wr, Ws, Wt, Wu, Wv, Ww, Wx, Wy, Wz, WA, WB, WC, WD, WE, WF, WG, WH, WI, WJ, WK, WL, WM, WN, WO, WP, WQ, WR, WS, WT, WU, WV, WW, WX, WY, WZ, W0, W1, W2, W3, W4, Zk, Zl, Zm, Zn, Zo, Zp, Zq, Zr, Zs, Zt, Zu, Zv, Zw, Zx, Zy, Zz, ZA, ZB, ZC, ZD, ZE, ZF, ZG, ZH, ZI, ZJ, setAll, gv0, gv1, gl0, gl0o, gl0d, gl1, gf0, gf1, go0, go1, argsOf, W5, W6, W7, W8, W9, Za, Zb, Zc, Zd, Ze, Zf, Zg, Zh, Zi, Zj, Nat.reduceAdd, Nat.reduceSub]); (try simp only [t31x0, e31x0, nv, Zk, Nat.zero_add, Nat.sub_self, Nat.add_zero, Nat.sub_zero, Int.one_mul, Int.toNat_natCast])
    rw [show decide ((0 : Int) ≤ (y : Int)) = true by simp]
    (try dsimp only [Wa, Wb, Wc, Wd, We, Wf, Wg, Wh, Wi, Wj, Wk, Wl, Wm, Wn, Wo, Wp, Wq, Wr, Ws, Wt, Wu, Wv, Ww, Wx, Wy, Wz, WA, WB, WC, WD, WE, WF, WG, WH, WI, WJ, WK, WL, WM, WN, WO, WP, WQ, WR, WS, WT, WU, WV, WW, WX, WY, WZ, W0, W1, W2, W3, W4, Zk, Zl, Zm, Zn, Zo, Zp, Zq, Zr, Zs, Zt, Zu, Zv, Zw, Zx, Zy, Zz, ZA, ZB, ZC, ZD, ZE, ZF, ZG, ZH, ZI, ZJ, setAll, gv0, gv1, gl0, gl0o, gl0d, gl1, gf0, gf1, go0, go1, argsOf, W5, W6, W7, W8, W9, Za, Zb, Zc, Zd, Ze, Zf, Zg, Zh, Zi, Zj, Nat.reduceAdd, Nat.reduceSub]); (try simp only [Zk, Nat.zero_add, Nat.sub_self, Nat.add_zero, Nat.sub_zero, Int.one_mul, Int.toNat_natCast])
    refine ⟨⟨by exact Int.natCast_nonneg _, by exact q6c (by assumption), by decide⟩, ?_⟩
    rw [show decide ((y : Int) < 2 ^ w) = true by rw [ipow_nat]; simp only [decide_eq_true_eq]; omega]
    (try dsimp only [Wa, Wb, Wc, Wd, We, Wf, Wg, Wh, Wi, Wj, Wk, Wl, Wm, Wn, Wo, Wp, Wq, Wr, Ws, Wt, Wu, Wv, Ww, Wx, Wy, Wz, WA, WB, WC, WD, WE, WF, WG, WH, WI, WJ, WK, WL, WM, WN, WO, WP, WQ, WR, WS, WT, WU, WV, WW, WX, WY, WZ, W0, W1, W2, W3, W4, Zk, Zl, Zm, Zn, Zo, Zp, Zq, Zr, Zs, Zt, Zu, Zv, Zw, Zx, Zy, Zz, ZA, ZB, ZC, ZD, ZE, ZF, ZG, ZH, ZI, ZJ, setAll, gv0, gv1, gl0, gl0o, gl0d, gl1, gf0, gf1, go0, go1, argsOf, W5, W6, W7, W8, W9, Za, Zb, Zc, Zd, Ze, Zf, Zg, Zh, Zi, Zj, Nat.reduceAdd, Nat.reduceSub]); (try simp only [Bool.not_true, Zk, Nat.zero_add, Nat.sub_self, Nat.add_zero, Nat.sub_zero, Int.one_mul, Int.toNat_natCast])
    exact hK
  · (try dsimp only [Wa, Wb, Wc, Wd, We, Wf, Wg, Wh, Wi, Wj, Wk, Wl, Wm, Wn, Wo, Wp, Wq, Wr, Ws, Wt, Wu, Wv, Ww, Wx, Wy, Wz, WA, WB, WC, WD, WE, WF, WG, WH, WI, WJ, WK, WL, WM, WN, WO, WP, WQ, WR, WS, WT, WU, WV, WW, WX, WY, WZ, W0, W1, W2, W3, W4, Zk, Zl, Zm, Zn, Zo, Zp, Zq, Zr, Zs, Zt, Zu, Zv, Zw, Zx, Zy, Zz, ZA, ZB, ZC, ZD, ZE, ZF, ZG, ZH, ZI, ZJ, setAll, gv0, gv1, gl0, gl0o, gl0d, gl1, gf0, gf1, go0, go1, argsOf, W5, W6, W7, W8, W9, Za, Zb, Zc, Zd, Ze, Zf, Zg, Zh, Zi, Zj, Nat.reduceAdd, Nat.reduceSub]); (try simp only [ZK, intsOf, decide_true, Bool.not_true, Zk, Nat.zero_add, Nat.sub_self, Nat.add_zero, Nat.sub_zero, Int.one_mul, Int.toNat_natCast])
    refine ⟨by decide, by decide, ?_⟩
    simp only [intsOf_nv]
    have rest : ∀ l3 l4 : Sl, (xs.map nv).reverse.length < lim ∧ forW (.one 3) (wpSs (CallOK prog w0 G0 d fa 0) b31x0) (xs.map nv).reverse [.v (LN xs), .v (.int (w : Int)), .v (.int 0), l3, l4] D fun fl σ' D' => match fl with
        | .next => asSome (gv σ' 2) fun p => Q p D'
        | .ret p => Q p D' := by
      intro l3 l4
      refine ⟨by simp; omega, ?_⟩
      refine forW_inv (fun j σ D' => D' = D ∧ j ≤ xs.length ∧ ∃ l3 l4 : Sl, σ = [.v (LN xs), .v (.int (w : Int)), .v (.int (val (2 ^ w) (xs.drop (xs.length - j)) : Nat)), l3, l4]) _ 0 _ _ ⟨rfl, by exact Nat.zero_le _, _, _, by simp [val]; exact ⟨rfl, rfl⟩⟩ ?_ ?_
      · rintro j x σ D' K _ hxx ⟨rfl, hj', l3, l4, rfl⟩ hK _
        rw [Nat.sub_zero, ← List.map_reverse] at hxx
        obtain ⟨hj, rfl⟩ := ln_take hxx
        rw [List.length_reverse] at hj
        have ij : xs.length - 1 - j < xs.length := by omega
        (try dsimp only [b31x0, Wa, Wb, Wc, Wd, We, Wf, Wg, Wh, Wi, Wj, Wk, Wl, Wm, Wn, Wo, Wp, Wq, Wr, Ws, Wt, Wu, Wv, Ww, Wx, Wy, Wz, WA, WB, WC, WD, WE, WF, WG, WH, WI, WJ, WK, WL, WM, WN, WO, WP, WQ, WR, WS, WT, WU, WV, WW, WX, WY, WZ, W0, W1, W2, W3, W4, Zk, Zl, Zm, Zn, Zo, Zp, Zq, Zr, Zs, Zt, Zu, Zv, Zw, Zx, Zy, Zz, ZA, ZB, ZC, ZD, ZE, ZF, ZG, ZH, ZI, ZJ, setAll, gv0, gv1, gl0, gl0o, gl0d, gl1, gf0, gf1, go0, go1, argsOf, W5, W6, W7, W8, W9, Za, Zb, Zc, Zd, Ze, Zf, Zg, Zh, Zi, Zj, Nat.reduceAdd, Nat.reduceSub]); (try simp only [b31x0, Zk, Nat.zero_add, Nat.sub_self, Nat.add_zero, Nat.sub_zero, Int.one_mul, Int.toNat_natCast])
        have hd : val (2 ^ w) (xs.drop (xs.length - j)) ≤ v := by rw [drop_val hb hx, ev]; exact Nat.div_le_self _ _
        refine ⟨⟨by exact Int.natCast_nonneg _, by exact q6c (by assumption), by decide⟩, ⟨by omega, by rw [ipow_nat]; omega⟩, ?_⟩
        refine hK _ _ ⟨rfl, hj, .v (.int (xs.reverse[j] : Nat)), l4, ?_⟩
        rw [List.getElem_reverse, show xs.length - (j + 1) = xs.length - 1 - j by omega, List.drop_eq_getElem_cons ij, val, show xs.length - 1 - j + 1 = xs.length - j by omega, ipow_nat, Nat.mul_comm (2 ^ w), Nat.add_comm]
        push_cast
        rfl
      · rintro σ D' ⟨rfl, hj', l3, l4, rfl⟩
        simp only [List.length_reverse, List.length_map, Nat.zero_add, Nat.sub_self, List.drop_zero, ev]
        (try dsimp only [Wa, Wb, Wc, Wd, We, Wf, Wg, Wh, Wi, Wj, Wk, Wl, Wm, Wn, Wo, Wp, Wq, Wr, Ws, Wt, Wu, Wv, Ww, Wx, Wy, Wz, WA, WB, WC, WD, WE, WF, WG, WH, WI, WJ, WK, WL, WM, WN, WO, WP, WQ, WR, WS, WT, WU, WV, WW, WX, WY, WZ, W0, W1, W2, W3, W4, Zk, Zl, Zm, Zn, Zo, Zp, Zq, Zr, Zs, Zt, Zu, Zv, Zw, Zx, Zy, Zz, ZA, ZB, ZC, ZD, ZE, ZF, ZG, ZH, ZI, ZJ, setAll, gv0, gv1, gl0, gl0o, gl0d, gl1, gf0, gf1, go0, go1, argsOf, W5, W6, W7, W8, W9, Za, Zb, Zc, Zd, Ze, Zf, Zg, Zh, Zi, Zj, Nat.reduceAdd, Nat.reduceSub]); (try simp only [Zk, Nat.zero_add, Nat.sub_self, Nat.add_zero, Nat.sub_zero, Int.one_mul, Int.toNat_natCast])
        exact hQ
    by_cases h0 : xs = []
    · subst h0
      (try dsimp only [List.map_nil, Wa, Wb, Wc, Wd, We, Wf, Wg, Wh, Wi, Wj, Wk, Wl, Wm, Wn, Wo, Wp, Wq, Wr, Ws, Wt, Wu, Wv, Ww, Wx, Wy, Wz, WA, WB, WC, WD, WE, WF, WG, WH, WI, WJ, WK, WL, WM, WN, WO, WP, WQ, WR, WS, WT, WU, WV, WW, WX, WY, WZ, W0, W1, W2, W3, W4, Zk, Zl, Zm, Zn, Zo, Zp, Zq, Zr, Zs, Zt, Zu, Zv, Zw, Zx, Zy, Zz, ZA, ZB, ZC, ZD, ZE, ZF, ZG, ZH, ZI, ZJ, setAll, gv0, gv1, gl0, gl0o, gl0d, gl1, gf0, gf1, go0, go1, argsOf, W5, W6, W7, W8, W9, Za, Zb, Zc, Zd, Ze, Zf, Zg, Zh, Zi, Zj, Nat.reduceAdd, Nat.reduceSub]); (try simp only [List.map_nil, decide_true, Bool.not_true, Zk, Nat.zero_add, Nat.sub_self, Nat.add_zero, Nat.sub_zero, Int.one_mul, Int.toNat_natCast])
      exact rest _ _
    · dsimp only [Zk]
      rw [show decide (xs.map (fun x : Nat => (x : Int)) = []) = false by simp [h0]]
      have hl0 : 0 < xs.length := List.length_pos_iff.mpr h0
      have il : xs.length - 1 < xs.length := by omega
      have t0 : xs[xs.length - 1] ≠ 0 := ht _ (by rw [List.getLast?_eq_getElem?, List.getElem?_eq_getElem il])
      (try dsimp only [Bool.not_false, Wa, Wb, Wc, Wd, We, Wf, Wg, Wh, Wi, Wj, Wk, Wl, Wm, Wn, Wo, Wp, Wq, Wr, Ws, Wt, Wu, Wv, Ww, Wx, Wy, Wz, WA, WB, WC, WD, WE, WF, WG, WH, WI, WJ, WK, WL, WM, WN, WO, WP, WQ, WR, WS, WT, WU, WV, WW, WX, WY, WZ, W0, W1, W2, W3, W4, Zk, Zl, Zm, Zn, Zo, Zp, Zq, Zr, Zs, Zt, Zu, Zv, Zw, Zx, Zy, Zz, ZA, ZB, ZC, ZD, ZE, ZF, ZG, ZH, ZI, ZJ, setAll, gv0, gv1, gl0, gl0o, gl0d, gl1, gf0, gf1, go0, go1, argsOf, W5, W6, W7, W8, W9, Za, Zb, Zc, Zd, Ze, Zf, Zg, Zh, Zi, Zj, Nat.reduceAdd, Nat.reduceSub]); (try simp only [Bool.not_false, Zk, Nat.zero_add, Nat.sub_self, Nat.add_zero, Nat.sub_zero, Int.one_mul, Int.toNat_natCast])
      rw [seq_last hl0, Zk, List.getElem?_map, List.getElem?_eq_getElem il]
      (try dsimp only [nv, Option.map_some, Wa, Wb, Wc, Wd, We, Wf, Wg, Wh, Wi, Wj, Wk, Wl, Wm, Wn, Wo, Wp, Wq, Wr, Ws, Wt, Wu, Wv, Ww, Wx, Wy, Wz, WA, WB, WC, WD, WE, WF, WG, WH, WI, WJ, WK, WL, WM, WN, WO, WP, WQ, WR, WS, WT, WU, WV, WW, WX, WY, WZ, W0, W1, W2, W3, W4, Zk, Zl, Zm, Zn, Zo, Zp, Zq, Zr, Zs, Zt, Zu, Zv, Zw, Zx, Zy, Zz, ZA, ZB, ZC, ZD, ZE, ZF, ZG, ZH, ZI, ZJ, setAll, gv0, gv1, gl0, gl0o, gl0d, gl1, gf0, gf1, go0, go1, argsOf, W5, W6, W7, W8, W9, Za, Zb, Zc, Zd, Ze, Zf, Zg, Zh, Zi, Zj, Nat.reduceAdd, Nat.reduceSub]); (try simp only [nv, Option.map_some, Zk, Nat.zero_add, Nat.sub_self, Nat.add_zero, Nat.sub_zero, Int.one_mul, Int.toNat_natCast])
      rw [show (((xs[xs.length - 1] : Nat) : Int) == 0) = false by simp; omega]
      (try dsimp only [Wa, Wb, Wc, Wd, We, Wf, Wg, Wh, Wi, Wj, Wk, Wl, Wm, Wn, Wo, Wp, Wq, Wr, Ws, Wt, Wu, Wv, Ww, Wx, Wy, Wz, WA, WB, WC, WD, WE, WF, WG, WH, WI, WJ, WK, WL, WM, WN, WO, WP, WQ, WR, WS, WT, WU, WV, WW, WX, WY, WZ, W0, W1, W2, W3, W4, Zk, Zl, Zm, Zn, Zo, Zp, Zq, Zr, Zs, Zt, Zu, Zv, Zw, Zx, Zy, Zz, ZA, ZB, ZC, ZD, ZE, ZF, ZG, ZH, ZI, ZJ, setAll, gv0, gv1, gl0, gl0o, gl0d, gl1, gf0, gf1, go0, go1, argsOf, W5, W6, W7, W8, W9, Za, Zb, Zc, Zd, Ze, Zf, Zg, Zh, Zi, Zj, Nat.reduceAdd, Nat.reduceSub]); (try simp only [Zk, Nat.zero_add, Nat.sub_self, Nat.add_zero, Nat.sub_zero, Int.one_mul, Int.toNat_natCast])
      exact rest _ _
end
end Mine
end

section
open PySem PySem.W PyProof.Rows
namespace Mine
theorem compW_mapL {α : Type} {f : PV → DS → (Option PV → DS → Prop) → Prop} {D : DS} {Q : List PV → DS → Prop} (h g : α → PV) (ys : List α)
    (hf : ∀ y ∈ ys, ∀ K : Option PV → DS → Prop, K (some (g y)) D → f (h y) D K) (hQ : Q (ys.map g) D) : compW f (ys.map h) D [] Q := by
  have key : ∀ (ys : List α) (acc : List PV) {Q : List PV → DS → Prop}, (∀ y ∈ ys, ∀ K : Option PV → DS → Prop, K (some (g y)) D → f (h y) D K) → Q (acc ++ ys.map g) D → compW f (ys.map h) D acc Q := by
    intro ys
    induction ys with
    | nil => intro acc Q _ h; simpa [compW] using h
    | cons x r ih =>
      intro acc Q hf hq
      rw [List.map_cons]
      unfold compW
      refine hf x List.mem_cons_self _ ?_
      show compW f (r.map h) D (acc ++ [g x]) Q
      refine ih _ (fun y hy => hf y (List.mem_cons_of_mem _ hy)) ?_
      rw [List.map_cons] at hq
      rw [List.append_assoc]; exact hq
  exact key ys [] hf (by simpa using hQ)
theorem enum_map {α : Type} (h : α → PV) (ys : List α) : ((ys.map h).zipIdx.map fun x => PV.tup [.int x.2, x.1]) = ys.zipIdx.map fun x => PV.tup [.int x.2, h x.1] := by
  rw [List.zipIdx_map, List.map_map]; rfl
theorem mem_enum {α : Type} {ys : List α} {y : α} {i : Nat} (h : (y, i) ∈ ys.zipIdx) : ∃ hi : i < ys.length, y = ys[i] := by
  obtain ⟨h1, h2, h3⟩ := List.mem_zipIdx h
  exact ⟨by omega, by simpa using h3⟩
theorem zip_maps {α β : Type} (h : α → PV) (g : β → PV) (xs : List α) (ys : List β) : ((xs.map h).zip (ys.map g)).map (fun x => PV.tup [x.1, x.2]) = (xs.zip ys).map fun x => PV.tup [h x.1, g x.2] := by
  rw [List.zip_map, List.map_map]; rfl

/-- a row of residues -/
noncomputable abbrev rows (w n : Nat) (xs : List (Fr2 n)) : PV := .list (xs.map (rg w n))
noncomputable abbrev nums (b : Nat) (vs : List Nat) : PV := .list (vs.map (num b))
noncomputable def wgt (n : Nat) (step : Int) (xs : List (Fr2 n)) : List (Fr2 n) := xs.zipIdx.map fun x => x.1 * U n (step * (x.2 : Int))

section
variable {prog : Program} {w0 : World} {G0 : Frz} {d : Option Addr} {fa : Nat → Addr} {N : Nat} {w n : Nat} {D : DS} {Q : PV → DS → Prop}

theorem c_same (X : Txt G0 fa) (hN : 2 ≤ N) (hw : 1 ≤ w ∧ w ≤ 9) {vs : List Nat} (hl : vs.length < 1000) (hv : ∀ v ∈ vs, v < 2 ^ 64) (hQ : Q (.bool true) D) : CallOK prog w0 G0 d fa N 33 [nums (2 ^ w) vs, .list (vs.map nv), .int (w : Int)] D Q := by
  refine CallOK.mono (fn_sound X.gl X.hall (N := 1) (F := fn33) (X.at_ 33 (by decide)) rfl good33 rfl ?_) hN fun _ _ h => h
  have lim' := lim_eq
  (try dsimp only [fn33, mini33, Wa, Wb, Wc, Wd, We, Wf, Wg, Wh, Wi, Wj, Wk, Wl, Wm, Wn, Wo, Wp, Wq, Wr, Ws, Wt, Wu, Wv, Ww, Wx, Wy, Wz, WA, WB, WC, WD, WE, WF, WG, WH, WI, WJ, WK, WL, WM, WN, WO, WP, WQ, WR, WS, WT, WU, WV, WW, WX, WY, WZ, W0, W1, W2, W3, W4, Zk, Zl, Zm, Zn, Zo, Zp, Zq, Zr, Zs, Zt, Zu, Zv, Zw, Zx, Zy, Zz, ZA, ZB, ZC, ZD, ZE, ZF, ZG, ZH, ZI, ZJ, setAll, gv0, gv1, gl0, gl0o, gl0d, gl1, gf0, gf1, go0, go1, argsOf, W5, W6, W7, W8, W9, Za, Zb, Zc, Zd, Ze, Zf, Zg, Zh, Zi, Zj, Nat.reduceAdd, Nat.reduceSub]); (try simp only [fn33, mini33, List.length_map, Zk, Nat.zero_add, Nat.sub_self, Nat.add_zero, Nat.sub_zero, Int.one_mul, Int.toNat_natCast])
  refine ⟨by exact qlb (by assumption), ?_⟩
  refine compW_mapL _ nv vs (fun v hvm K hK => ?_) ?_
  · (try dsimp only [e33x0, Wa, Wb, Wc, Wd, We, Wf, Wg, Wh, Wi, Wj, Wk, Wl, Wm, Wn, Wo, Wp, Wq, Wr, Ws, Wt, Wu, Wv, Ww, Wx, Wy, Wz, WA, WB, WC, WD, WE, WF, WG, WH, WI, WJ, WK, WL, WM, WN, WO, WP, WQ, WR, WS, WT, WU, WV, WW, WX, WY, WZ, W0, W1, W2, W3, W4, Zk, Zl, Zm, Zn, Zo, Zp, Zq, Zr, Zs, Zt, Zu, Zv, Zw, Zx, Zy, Zz, ZA, ZB, ZC, ZD, ZE, ZF, ZG, ZH, ZI, ZJ, setAll, gv0, gv1, gl0, gl0o, gl0d, gl1, gf0, gf1, go0, go1, argsOf, W5, W6, W7, W8, W9, Za, Zb, Zc, Zd, Ze, Zf, Zg, Zh, Zi, Zj, Nat.reduceAdd, Nat.reduceSub]); (try simp only [e33x0, Zk, Nat.zero_add, Nat.sub_self, Nat.add_zero, Nat.sub_zero, Int.one_mul, Int.toNat_natCast])
    exact c_value X (by decide) hw (hv v hvm) hK
  · (try dsimp only [Wa, Wb, Wc, Wd, We, Wf, Wg, Wh, Wi, Wj, Wk, Wl, Wm, Wn, Wo, Wp, Wq, Wr, Ws, Wt, Wu, Wv, Ww, Wx, Wy, Wz, WA, WB, WC, WD, WE, WF, WG, WH, WI, WJ, WK, WL, WM, WN, WO, WP, WQ, WR, WS, WT, WU, WV, WW, WX, WY, WZ, W0, W1, W2, W3, W4, Zk, Zl, Zm, Zn, Zo, Zp, Zq, Zr, Zs, Zt, Zu, Zv, Zw, Zx, Zy, Zz, ZA, ZB, ZC, ZD, ZE, ZF, ZG, ZH, ZI, ZJ, setAll, gv0, gv1, gl0, gl0o, gl0d, gl1, gf0, gf1, go0, go1, argsOf, W5, W6, W7, W8, W9, Za, Zb, Zc, Zd, Ze, Zf, Zg, Zh, Zi, Zj, Nat.reduceAdd, Nat.reduceSub]); (try simp only [ZL, intsOf_nv, decide_true, Zk, Nat.zero_add, Nat.sub_self, Nat.add_zero, Nat.sub_zero, Int.one_mul, Int.toNat_natCast])
    exact hQ

theorem c_power (X : Txt G0 fa) (hN : 1 ≤ N) (hn : 1 ≤ n ∧ n ≤ 100) {k : Int} (hQ : Q (nv (U n k).val) D) : CallOK prog w0 G0 d fa N 34 [.int k, .int (n : Int)] D Q := by
  refine CallOK.mono (fn_sound X.gl X.hall (N := 0) (F := fn34) (X.at_ 34 (by decide)) rfl good34 rfl ?_) hN fun _ _ h => h
  have h0 := Int.emod_nonneg k (b := 2 * (n : Int)) (by exact q2n (by assumption))
  have h1 := Int.emod_lt_of_pos k (b := 2 * (n : Int)) (by omega)
  have hp := Nat.pow_pos (n := n) (show 0 < 2 by decide)
  (try dsimp only [fn34, mini34, Wa, Wb, Wc, Wd, We, Wf, Wg, Wh, Wi, Wj, Wk, Wl, Wm, Wn, Wo, Wp, Wq, Wr, Ws, Wt, Wu, Wv, Ww, Wx, Wy, Wz, WA, WB, WC, WD, WE, WF, WG, WH, WI, WJ, WK, WL, WM, WN, WO, WP, WQ, WR, WS, WT, WU, WV, WW, WX, WY, WZ, W0, W1, W2, W3, W4, Zk, Zl, Zm, Zn, Zo, Zp, Zq, Zr, Zs, Zt, Zu, Zv, Zw, Zx, Zy, Zz, ZA, ZB, ZC, ZD, ZE, ZF, ZG, ZH, ZI, ZJ, setAll, gv0, gv1, gl0, gl0o, gl0d, gl1, gf0, gf1, go0, go1, argsOf, W5, W6, W7, W8, W9, Za, Zb, Zc, Zd, Ze, Zf, Zg, Zh, Zi, Zj, Nat.reduceAdd, Nat.reduceSub]); (try simp only [fn34, mini34, Zk, Nat.zero_add, Nat.sub_self, Nat.add_zero, Nat.sub_zero, Int.one_mul, Int.toNat_natCast])
  rw [Int.fmod_eq_emod_of_nonneg _ (by exact Int.natCast_nonneg _)]
  refine ⟨⟨by decide, by exact q64c (by assumption)⟩, by exact q2n (by assumption), ⟨by assumption, by omega, by decide⟩, ⟨by exact Int.natCast_nonneg _, by exact q6c (by assumption), by decide⟩, by rw [ipow_nat n]; omega, ?_⟩
  have e : ((2 : Int) ^ (k % (2 * (n : Int))).toNat).fmod (2 ^ n + 1) = (((U n k).val : Nat) : Int) := by
    rw [ipow_nat, ipow_nat, show ((2 ^ n : Nat) : Int) + 1 = ((2 ^ n + 1 : Nat) : Int) by exact (Int.natCast_add _ _).symm, fmod_nat]; rfl
  rw [e]; exact hQ

theorem c_turned (X : Txt G0 fa) (hN : 1 ≤ N) {a m : Nat} (hm : m < 2 ^ 10) (hQ : Q (nv (tr 10 a m 0)) D) : CallOK prog w0 G0 d fa N 35 [.int (a : Int), .int (m : Int)] D Q := by
  refine CallOK.mono (fn_sound X.gl X.hall (N := 0) (F := fn35) (X.at_ 35 (by decide)) rfl good35 rfl ?_) hN fun _ _ h => h
  (try dsimp only [fn35, mini35, Wa, Wb, Wc, Wd, We, Wf, Wg, Wh, Wi, Wj, Wk, Wl, Wm, Wn, Wo, Wp, Wq, Wr, Ws, Wt, Wu, Wv, Ww, Wx, Wy, Wz, WA, WB, WC, WD, WE, WF, WG, WH, WI, WJ, WK, WL, WM, WN, WO, WP, WQ, WR, WS, WT, WU, WV, WW, WX, WY, WZ, W0, W1, W2, W3, W4, Zk, Zl, Zm, Zn, Zo, Zp, Zq, Zr, Zs, Zt, Zu, Zv, Zw, Zx, Zy, Zz, ZA, ZB, ZC, ZD, ZE, ZF, ZG, ZH, ZI, ZJ, setAll, gv0, gv1, gl0, gl0o, gl0d, gl1, gf0, gf1, go0, go1, argsOf, W5, W6, W7, W8, W9, Za, Zb, Zc, Zd, Ze, Zf, Zg, Zh, Zi, Zj, Nat.reduceAdd, Nat.reduceSub]); (try simp only [fn35, mini35, Zk, Nat.zero_add, Nat.sub_self, Nat.add_zero, Nat.sub_zero, Int.one_mul, Int.toNat_natCast])
  refine whileW_inv (fun k σ D' => D' = D ∧ ∃ a' m' f' : Nat, m' < 2 ^ k ∧ f' < 2 ^ (10 - k) ∧ k ≤ 10 ∧ tr k a' m' f' = tr 10 a m 0 ∧ σ = [.v (.int (a' : Int)), .v (.int (m' : Int)), .v (.int (f' : Int))]) ?_ (n := 10) ⟨rfl, a, m, 0, hm, by decide, by decide, rfl, rfl⟩
  rintro k σ D' K ⟨rfl, a', m', f', hm', hf', hk, ht, rfl⟩ hK _
  (try dsimp only [c35x0, Wa, Wb, Wc, Wd, We, Wf, Wg, Wh, Wi, Wj, Wk, Wl, Wm, Wn, Wo, Wp, Wq, Wr, Ws, Wt, Wu, Wv, Ww, Wx, Wy, Wz, WA, WB, WC, WD, WE, WF, WG, WH, WI, WJ, WK, WL, WM, WN, WO, WP, WQ, WR, WS, WT, WU, WV, WW, WX, WY, WZ, W0, W1, W2, W3, W4, Zk, Zl, Zm, Zn, Zo, Zp, Zq, Zr, Zs, Zt, Zu, Zv, Zw, Zx, Zy, Zz, ZA, ZB, ZC, ZD, ZE, ZF, ZG, ZH, ZI, ZJ, setAll, gv0, gv1, gl0, gl0o, gl0d, gl1, gf0, gf1, go0, go1, argsOf, W5, W6, W7, W8, W9, Za, Zb, Zc, Zd, Ze, Zf, Zg, Zh, Zi, Zj, Nat.reduceAdd, Nat.reduceSub]); (try simp only [c35x0, Zk, Nat.zero_add, Nat.sub_self, Nat.add_zero, Nat.sub_zero, Int.one_mul, Int.toNat_natCast])
  cases k with
  | zero =>
    rw [show decide ((m' : Int) > 1) = false by simp only [decide_eq_false_iff_not]; omega]
    (try dsimp only [Wa, Wb, Wc, Wd, We, Wf, Wg, Wh, Wi, Wj, Wk, Wl, Wm, Wn, Wo, Wp, Wq, Wr, Ws, Wt, Wu, Wv, Ww, Wx, Wy, Wz, WA, WB, WC, WD, WE, WF, WG, WH, WI, WJ, WK, WL, WM, WN, WO, WP, WQ, WR, WS, WT, WU, WV, WW, WX, WY, WZ, W0, W1, W2, W3, W4, Zk, Zl, Zm, Zn, Zo, Zp, Zq, Zr, Zs, Zt, Zu, Zv, Zw, Zx, Zy, Zz, ZA, ZB, ZC, ZD, ZE, ZF, ZG, ZH, ZI, ZJ, setAll, gv0, gv1, gl0, gl0o, gl0d, gl1, gf0, gf1, go0, go1, argsOf, W5, W6, W7, W8, W9, Za, Zb, Zc, Zd, Ze, Zf, Zg, Zh, Zi, Zj, Nat.reduceAdd, Nat.reduceSub]); (try simp only [Zk, Nat.zero_add, Nat.sub_self, Nat.add_zero, Nat.sub_zero, Int.one_mul, Int.toNat_natCast])
    rw [tr] at ht; rw [ht]; exact hQ
  | succ k =>
    rw [tr] at ht
    by_cases h : 1 < m'
    · rw [if_pos h] at ht
      rw [show decide ((m' : Int) > 1) = true by simp only [decide_eq_true_eq]; omega]
      (try dsimp only [b35x0, Wa, Wb, Wc, Wd, We, Wf, Wg, Wh, Wi, Wj, Wk, Wl, Wm, Wn, Wo, Wp, Wq, Wr, Ws, Wt, Wu, Wv, Ww, Wx, Wy, Wz, WA, WB, WC, WD, WE, WF, WG, WH, WI, WJ, WK, WL, WM, WN, WO, WP, WQ, WR, WS, WT, WU, WV, WW, WX, WY, WZ, W0, W1, W2, W3, W4, Zk, Zl, Zm, Zn, Zo, Zp, Zq, Zr, Zs, Zt, Zu, Zv, Zw, Zx, Zy, Zz, ZA, ZB, ZC, ZD, ZE, ZF, ZG, ZH, ZI, ZJ, setAll, gv0, gv1, gl0, gl0o, gl0d, gl1, gf0, gf1, go0, go1, argsOf, W5, W6, W7, W8, W9, Za, Zb, Zc, Zd, Ze, Zf, Zg, Zh, Zi, Zj, Nat.reduceAdd, Nat.reduceSub]); (try simp only [b35x0, Zk, Nat.zero_add, Nat.sub_self, Nat.add_zero, Nat.sub_zero, Int.one_mul, Int.toNat_natCast])
      have h3 : 2 ^ (10 - (k + 1)) ≤ 2 ^ 10 := Nat.pow_le_pow_right (by decide) (by omega)
      have h4 : (2 : Nat) ^ 10 = 1024 := by decide
      refine ⟨⟨by decide, by omega⟩, by decide, ⟨by decide, by decide⟩, ⟨by decide, by decide⟩, ?_⟩
      have e2 : (2 : Int) = ((2 : Nat) : Int) := rfl
      have e : (2 : Int) * (f' : Int) + Int.fmod (a' : Int) 2 = ((2 * f' + a' % 2 : Nat) : Int) := by rw [e2, fmod_nat]; omega
      rw [e, e2, fdiv_nat, fdiv_nat]
      refine hK k _ _ (Nat.lt_succ_self k) ⟨rfl, a' / 2, m' / 2, 2 * f' + a' % 2, by rw [Nat.pow_succ] at hm'; omega, ?_, by exact qbb (by assumption), ht, rfl⟩
      rw [show 10 - k = 10 - (k + 1) + 1 by omega, Nat.pow_succ]; omega
    · rw [if_neg h] at ht
      rw [show decide ((m' : Int) > 1) = false by simp only [decide_eq_false_iff_not]; omega]
      (try dsimp only [Wa, Wb, Wc, Wd, We, Wf, Wg, Wh, Wi, Wj, Wk, Wl, Wm, Wn, Wo, Wp, Wq, Wr, Ws, Wt, Wu, Wv, Ww, Wx, Wy, Wz, WA, WB, WC, WD, WE, WF, WG, WH, WI, WJ, WK, WL, WM, WN, WO, WP, WQ, WR, WS, WT, WU, WV, WW, WX, WY, WZ, W0, W1, W2, W3, W4, Zk, Zl, Zm, Zn, Zo, Zp, Zq, Zr, Zs, Zt, Zu, Zv, Zw, Zx, Zy, Zz, ZA, ZB, ZC, ZD, ZE, ZF, ZG, ZH, ZI, ZJ, setAll, gv0, gv1, gl0, gl0o, gl0d, gl1, gf0, gf1, go0, go1, argsOf, W5, W6, W7, W8, W9, Za, Zb, Zc, Zd, Ze, Zf, Zg, Zh, Zi, Zj, Nat.reduceAdd, Nat.reduceSub]); (try simp only [Zk, Nat.zero_add, Nat.sub_self, Nat.add_zero, Nat.sub_zero, Int.one_mul, Int.toNat_natCast])
      rw [ht]; exact hQ

theorem c_turned_about (X : Txt G0 fa) (hN : 1 ≤ N) {a m : Nat} (hm : m < 2 ^ 10) (hQ : Q (nv (tr 10 a m 0)) D) : CallOK prog w0 G0 d fa N 24 [.int (a : Int), .int (m : Int)] D Q := by
  refine CallOK.mono (fn_sound X.gl X.hall (N := 0) (F := fn24) (X.at_ 24 (by decide)) rfl good24 rfl ?_) hN fun _ _ h => h
  (try dsimp only [fn24, mini24, Wa, Wb, Wc, Wd, We, Wf, Wg, Wh, Wi, Wj, Wk, Wl, Wm, Wn, Wo, Wp, Wq, Wr, Ws, Wt, Wu, Wv, Ww, Wx, Wy, Wz, WA, WB, WC, WD, WE, WF, WG, WH, WI, WJ, WK, WL, WM, WN, WO, WP, WQ, WR, WS, WT, WU, WV, WW, WX, WY, WZ, W0, W1, W2, W3, W4, Zk, Zl, Zm, Zn, Zo, Zp, Zq, Zr, Zs, Zt, Zu, Zv, Zw, Zx, Zy, Zz, ZA, ZB, ZC, ZD, ZE, ZF, ZG, ZH, ZI, ZJ, setAll, gv0, gv1, gl0, gl0o, gl0d, gl1, gf0, gf1, go0, go1, argsOf, W5, W6, W7, W8, W9, Za, Zb, Zc, Zd, Ze, Zf, Zg, Zh, Zi, Zj, Nat.reduceAdd, Nat.reduceSub]); (try simp only [fn24, mini24, Zk, Nat.zero_add, Nat.sub_self, Nat.add_zero, Nat.sub_zero, Int.one_mul, Int.toNat_natCast])
  refine whileW_inv (fun k σ D' => D' = D ∧ ∃ a' m' f' : Nat, m' < 2 ^ k ∧ f' < 2 ^ (10 - k) ∧ k ≤ 10 ∧ tr k a' m' f' = tr 10 a m 0 ∧ σ = [.v (.int (a' : Int)), .v (.int (m' : Int)), .v (.int (f' : Int))]) ?_ (n := 10) ⟨rfl, a, m, 0, hm, by decide, by decide, rfl, rfl⟩
  rintro k σ D' K ⟨rfl, a', m', f', hm', hf', hk, ht, rfl⟩ hK _
  (try dsimp only [c24x0, Wa, Wb, Wc, Wd, We, Wf, Wg, Wh, Wi, Wj, Wk, Wl, Wm, Wn, Wo, Wp, Wq, Wr, Ws, Wt, Wu, Wv, Ww, Wx, Wy, Wz, WA, WB, WC, WD, WE, WF, WG, WH, WI, WJ, WK, WL, WM, WN, WO, WP, WQ, WR, WS, WT, WU, WV, WW, WX, WY, WZ, W0, W1, W2, W3, W4, Zk, Zl, Zm, Zn, Zo, Zp, Zq, Zr, Zs, Zt, Zu, Zv, Zw, Zx, Zy, Zz, ZA, ZB, ZC, ZD, ZE, ZF, ZG, ZH, ZI, ZJ, setAll, gv0, gv1, gl0, gl0o, gl0d, gl1, gf0, gf1, go0, go1, argsOf, W5, W6, W7, W8, W9, Za, Zb, Zc, Zd, Ze, Zf, Zg, Zh, Zi, Zj, Nat.reduceAdd, Nat.reduceSub]); (try simp only [c24x0, Zk, Nat.zero_add, Nat.sub_self, Nat.add_zero, Nat.sub_zero, Int.one_mul, Int.toNat_natCast])
  cases k with
  | zero =>
    rw [show decide ((m' : Int) > 1) = false by simp only [decide_eq_false_iff_not]; omega]
    (try dsimp only [Wa, Wb, Wc, Wd, We, Wf, Wg, Wh, Wi, Wj, Wk, Wl, Wm, Wn, Wo, Wp, Wq, Wr, Ws, Wt, Wu, Wv, Ww, Wx, Wy, Wz, WA, WB, WC, WD, WE, WF, WG, WH, WI, WJ, WK, WL, WM, WN, WO, WP, WQ, WR, WS, WT, WU, WV, WW, WX, WY, WZ, W0, W1, W2, W3, W4, Zk, Zl, Zm, Zn, Zo, Zp, Zq, Zr, Zs, Zt, Zu, Zv, Zw, Zx, Zy, Zz, ZA, ZB, ZC, ZD, ZE, ZF, ZG, ZH, ZI, ZJ, setAll, gv0, gv1, gl0, gl0o, gl0d, gl1, gf0, gf1, go0, go1, argsOf, W5, W6, W7, W8, W9, Za, Zb, Zc, Zd, Ze, Zf, Zg, Zh, Zi, Zj, Nat.reduceAdd, Nat.reduceSub]); (try simp only [Zk, Nat.zero_add, Nat.sub_self, Nat.add_zero, Nat.sub_zero, Int.one_mul, Int.toNat_natCast])
    rw [tr] at ht; rw [ht]; exact hQ
  | succ k =>
    rw [tr] at ht
    by_cases h : 1 < m'
    · rw [if_pos h] at ht
      rw [show decide ((m' : Int) > 1) = true by simp only [decide_eq_true_eq]; omega]
      (try dsimp only [b24x0, Wa, Wb, Wc, Wd, We, Wf, Wg, Wh, Wi, Wj, Wk, Wl, Wm, Wn, Wo, Wp, Wq, Wr, Ws, Wt, Wu, Wv, Ww, Wx, Wy, Wz, WA, WB, WC, WD, WE, WF, WG, WH, WI, WJ, WK, WL, WM, WN, WO, WP, WQ, WR, WS, WT, WU, WV, WW, WX, WY, WZ, W0, W1, W2, W3, W4, Zk, Zl, Zm, Zn, Zo, Zp, Zq, Zr, Zs, Zt, Zu, Zv, Zw, Zx, Zy, Zz, ZA, ZB, ZC, ZD, ZE, ZF, ZG, ZH, ZI, ZJ, setAll, gv0, gv1, gl0, gl0o, gl0d, gl1, gf0, gf1, go0, go1, argsOf, W5, W6, W7, W8, W9, Za, Zb, Zc, Zd, Ze, Zf, Zg, Zh, Zi, Zj, Nat.reduceAdd, Nat.reduceSub]); (try simp only [b24x0, Zk, Nat.zero_add, Nat.sub_self, Nat.add_zero, Nat.sub_zero, Int.one_mul, Int.toNat_natCast])
      have h3 : 2 ^ (10 - (k + 1)) ≤ 2 ^ 10 := Nat.pow_le_pow_right (by decide) (by omega)
      have h4 : (2 : Nat) ^ 10 = 1024 := by decide
      refine ⟨⟨by decide, by omega⟩, by decide, ⟨by decide, by decide⟩, ⟨by decide, by decide⟩, ?_⟩
      have e2 : (2 : Int) = ((2 : Nat) : Int) := rfl
      have e : (2 : Int) * (f' : Int) + Int.fmod (a' : Int) 2 = ((2 * f' + a' % 2 : Nat) : Int) := by rw [e2, fmod_nat]; omega
      rw [e, e2, fdiv_nat, fdiv_nat]
      refine hK k _ _ (Nat.lt_succ_self k) ⟨rfl, a' / 2, m' / 2, 2 * f' + a' % 2, by rw [Nat.pow_succ] at hm'; omega, ?_, by exact qbb (by assumption), ht, rfl⟩
      rw [show 10 - k = 10 - (k + 1) + 1 by omega, Nat.pow_succ]; omega
    · rw [if_neg h] at ht
      rw [show decide ((m' : Int) > 1) = false by simp only [decide_eq_false_iff_not]; omega]
      (try dsimp only [Wa, Wb, Wc, Wd, We, Wf, Wg, Wh, Wi, Wj, Wk, Wl, Wm, Wn, Wo, Wp, Wq, Wr, Ws, Wt, Wu, Wv, Ww, Wx, Wy, Wz, WA, WB, WC, WD, WE, WF, WG, WH, WI, WJ, WK, WL, WM, WN, WO, WP, WQ, WR, WS, WT, WU, WV, WW, WX, WY, WZ, W0, W1, W2, W3, W4, Zk, Zl, Zm, Zn, Zo, Zp, Zq, Zr, Zs, Zt, Zu, Zv, Zw, Zx, Zy, Zz, ZA, ZB, ZC, ZD, ZE, ZF, ZG, ZH, ZI, ZJ, setAll, gv0, gv1, gl0, gl0o, gl0d, gl1, gf0, gf1, go0, go1, argsOf, W5, W6, W7, W8, W9, Za, Zb, Zc, Zd, Ze, Zf, Zg, Zh, Zi, Zj, Nat.reduceAdd, Nat.reduceSub]); (try simp only [Zk, Nat.zero_add, Nat.sub_self, Nat.add_zero, Nat.sub_zero, Int.one_mul, Int.toNat_natCast])
      rw [ht]; exact hQ

theorem c_weighted (X : Txt G0 fa) (hN : 7 ≤ N) (hw : 1 ≤ w ∧ w ≤ 9) (hn : 1 ≤ n ∧ n ≤ 100) {xs : List (Fr2 n)} {step : Int} (hs : step.natAbs < 1000) (hl : xs.length < 1000) (hQ : Q (rows w n (wgt n step xs)) D) :
    CallOK prog w0 G0 d fa N 19 [rows w n xs, .int step, .int (n : Int), .int (w : Int)] D Q := by
  refine CallOK.mono (fn_sound X.gl X.hall (N := 6) (F := fn19) (X.at_ 19 (by decide)) rfl good19 rfl ?_) hN fun _ _ h => h
  have lim' := lim_eq
  (try dsimp only [fn19, mini19, Wa, Wb, Wc, Wd, We, Wf, Wg, Wh, Wi, Wj, Wk, Wl, Wm, Wn, Wo, Wp, Wq, Wr, Ws, Wt, Wu, Wv, Ww, Wx, Wy, Wz, WA, WB, WC, WD, WE, WF, WG, WH, WI, WJ, WK, WL, WM, WN, WO, WP, WQ, WR, WS, WT, WU, WV, WW, WX, WY, WZ, W0, W1, W2, W3, W4, Zk, Zl, Zm, Zn, Zo, Zp, Zq, Zr, Zs, Zt, Zu, Zv, Zw, Zx, Zy, Zz, ZA, ZB, ZC, ZD, ZE, ZF, ZG, ZH, ZI, ZJ, setAll, gv0, gv1, gl0, gl0o, gl0d, gl1, gf0, gf1, go0, go1, argsOf, W5, W6, W7, W8, W9, Za, Zb, Zc, Zd, Ze, Zf, Zg, Zh, Zi, Zj, Nat.reduceAdd, Nat.reduceSub]); (try simp only [fn19, mini19, List.length_map, List.length_zipIdx, Zk, Nat.zero_add, Nat.sub_self, Nat.add_zero, Nat.sub_zero, Int.one_mul, Int.toNat_natCast])
  refine ⟨by exact qlb (by assumption), ?_⟩
  rw [enum_map]
  refine compW_mapL _ (fun x => rg w n (x.1 * U n (step * (x.2 : Int)))) xs.zipIdx (fun y hy K hK => ?_) ?_
  · obtain ⟨hi, _⟩ := mem_enum (y := y.1) (i := y.2) hy
    (try dsimp only [e19x0, Wa, Wb, Wc, Wd, We, Wf, Wg, Wh, Wi, Wj, Wk, Wl, Wm, Wn, Wo, Wp, Wq, Wr, Ws, Wt, Wu, Wv, Ww, Wx, Wy, Wz, WA, WB, WC, WD, WE, WF, WG, WH, WI, WJ, WK, WL, WM, WN, WO, WP, WQ, WR, WS, WT, WU, WV, WW, WX, WY, WZ, W0, W1, W2, W3, W4, Zk, Zl, Zm, Zn, Zo, Zp, Zq, Zr, Zs, Zt, Zu, Zv, Zw, Zx, Zy, Zz, ZA, ZB, ZC, ZD, ZE, ZF, ZG, ZH, ZI, ZJ, setAll, gv0, gv1, gl0, gl0o, gl0d, gl1, gf0, gf1, go0, go1, argsOf, W5, W6, W7, W8, W9, Za, Zb, Zc, Zd, Ze, Zf, Zg, Zh, Zi, Zj, Nat.reduceAdd, Nat.reduceSub]); (try simp only [e19x0, Zk, Nat.zero_add, Nat.sub_self, Nat.add_zero, Nat.sub_zero, Int.one_mul, Int.toNat_natCast])
    refine ⟨⟨by exact q64b (by assumption), by omega⟩, c_rshift X (by decide) hw hn hK⟩
  · rw [wgt, rows, List.map_map] at hQ
    exact hQ

theorem one_val {n : Nat} (hn : 1 ≤ n) : (1 : Fr2 n).val = 1 := by
  show 1 % (2 ^ n + 1) = 1
  have := Nat.pow_pos (n := n) (show 0 < 2 by decide)
  rw [Nat.mod_eq_of_lt]; omega

theorem c_root_powers (X : Txt G0 fa) (hN : 7 ≤ N) (hw : 1 ≤ w ∧ w ≤ 9) (hn : 1 ≤ n ∧ n ≤ 100) {m : Nat} (hm : 1 ≤ m ∧ m < 1000) (hQ : Q (rows w n ((List.range m).map fun i : Nat => U n (((2 * n / m : Nat) : Int) * (i : Int)))) D) :
    CallOK prog w0 G0 d fa N 23 [.int (m : Int), .int (n : Int), .int (w : Int)] D Q := by
  refine CallOK.mono (fn_sound X.gl X.hall (N := 6) (F := fn23) (X.at_ 23 (by decide)) rfl good23 rfl ?_) hN fun _ _ h => h
  have lim' := lim_eq
  have hb := two_le_pow hw.1
  (try dsimp only [fn23, mini23, Wa, Wb, Wc, Wd, We, Wf, Wg, Wh, Wi, Wj, Wk, Wl, Wm, Wn, Wo, Wp, Wq, Wr, Ws, Wt, Wu, Wv, Ww, Wx, Wy, Wz, WA, WB, WC, WD, WE, WF, WG, WH, WI, WJ, WK, WL, WM, WN, WO, WP, WQ, WR, WS, WT, WU, WV, WW, WX, WY, WZ, W0, W1, W2, W3, W4, Zk, Zl, Zm, Zn, Zo, Zp, Zq, Zr, Zs, Zt, Zu, Zv, Zw, Zx, Zy, Zz, ZA, ZB, ZC, ZD, ZE, ZF, ZG, ZH, ZI, ZJ, setAll, gv0, gv1, gl0, gl0o, gl0d, gl1, gf0, gf1, go0, go1, argsOf, W5, W6, W7, W8, W9, Za, Zb, Zc, Zd, Ze, Zf, Zg, Zh, Zi, Zj, Nat.reduceAdd, Nat.reduceSub]); (try simp only [fn23, mini23, List.length_map, Zk, Nat.zero_add, Nat.sub_self, Nat.add_zero, Nat.sub_zero, Int.one_mul, Int.toNat_natCast])
  rw [range_up, range_up_len]
  refine ⟨by omega, by omega, ?_⟩
  refine compW_mapL _ (fun i : Nat => rg w n (U n (((2 * n / m : Nat) : Int) * (i : Int)))) (List.range m) (fun i hi K hK => ?_) ?_
  · have := List.mem_range.mp hi
    (try dsimp only [e23x0, nv, Wa, Wb, Wc, Wd, We, Wf, Wg, Wh, Wi, Wj, Wk, Wl, Wm, Wn, Wo, Wp, Wq, Wr, Ws, Wt, Wu, Wv, Ww, Wx, Wy, Wz, WA, WB, WC, WD, WE, WF, WG, WH, WI, WJ, WK, WL, WM, WN, WO, WP, WQ, WR, WS, WT, WU, WV, WW, WX, WY, WZ, W0, W1, W2, W3, W4, Zk, Zl, Zm, Zn, Zo, Zp, Zq, Zr, Zs, Zt, Zu, Zv, Zw, Zx, Zy, Zz, ZA, ZB, ZC, ZD, ZE, ZF, ZG, ZH, ZI, ZJ, setAll, gv0, gv1, gl0, gl0o, gl0d, gl1, gf0, gf1, go0, go1, argsOf, W5, W6, W7, W8, W9, Za, Zb, Zc, Zd, Ze, Zf, Zg, Zh, Zi, Zj, Nat.reduceAdd, Nat.reduceSub]); (try simp only [e23x0, nv, Zk, Nat.zero_add, Nat.sub_self, Nat.add_zero, Nat.sub_zero, Int.one_mul, Int.toNat_natCast])
    rw [← num_one hb, show num (2 ^ w) 1 = rg w n 1 by show _ = num (2 ^ w) (1 : Fr2 n).val; rw [one_val hn.1]]
    rw [show (2 : Int) * (n : Int) = ((2 * n : Nat) : Int) by exact (Int.natCast_mul _ _).symm, fdiv_nat]
    have hd : 2 * n / m ≤ 2 * n := Nat.div_le_self _ _
    generalize 2 * n / m = q at *
    refine ⟨by decide, ⟨by decide, by exact q64c (by assumption)⟩, ⟨by omega, by omega⟩, ⟨by omega, by omega⟩, c_rshift X (by decide) hw hn ?_⟩
    rw [show (1 : Fr2 n) * U n ((q : Int) * (i : Int)) = U n ((q : Int) * (i : Int)) by grind]
    exact hK
  · rw [rows, List.map_map] at hQ
    exact hQ
end
end Mine
end

section
open PySem PySem.W PyProof.Rows
namespace Mine
/-- an element as a whole number, the upper half below nought -/
noncomputable def sd (n v : Nat) : Int := if 2 ^ (n - 1) ≤ v then (v : Int) - 2 ^ n - 1 else v
noncomputable def sdSum (n z : Nat) : Nat → List Nat → Int
  | _, [] => 0
  | i, v :: r => sd n v * 2 ^ (z * i) + sdSum n z (i + 1) r

theorem on_sub_int {m : Nat} (x : Fr2 m) (p : Nat) : (((x - on m p).val : Nat) : Int) = ((x.val : Int) - (p : Int)) % ((2 ^ m + 1 : Nat) : Int) := by
  rw [Fin.val_sub, on_val, Int.natCast_emod]
  have h : p % (2 ^ m + 1) < 2 ^ m + 1 := Nat.mod_lt p (Nat.succ_pos (2 ^ m))
  rw [Int.natCast_add, Int.natCast_sub (by exact Nat.le_of_lt (by assumption))]
  rw [show (((2 ^ m + 1 : Nat) : Int) - ((p % (2 ^ m + 1) : Nat) : Int) + ((x.val : Nat) : Int)) = ((x.val : Int) - ((p % (2 ^ m + 1) : Nat) : Int)) + ((2 ^ m + 1 : Nat) : Int) by omega, Int.add_emod_right, Int.natCast_emod, Int.sub_emod_emod]
theorem on_add_int {m : Nat} (x : Fr2 m) (p : Nat) : (((x + on m p).val : Nat) : Int) = ((x.val : Int) + (p : Int)) % ((2 ^ m + 1 : Nat) : Int) := by
  rw [Fin.val_add, on_val, Int.natCast_emod, Int.natCast_add, Int.natCast_emod, Int.add_emod_emod]

section
variable {prog : Program} {w0 : World} {G0 : Frz} {d : Option Addr} {fa : Nat → Addr} {N : Nat} {w n : Nat} {D : DS} {Q : PV → DS → Prop}

theorem c_in_pieces (X : Txt G0 fa) (hN : 3 ≤ N) (hw : 1 ≤ w ∧ w ≤ 9) {a z m : Nat} (ha : a < 2 ^ 900) (hz : z < 1000) (hm : m < 1000) (hQ : Q (nums (2 ^ w) ((List.range m).map fun i => a / 2 ^ (z * i) % 2 ^ z)) D) :
    CallOK prog w0 G0 d fa N 20 [num (2 ^ w) a, .int (z : Int), .int (m : Int), .int (w : Int)] D Q := by
  refine CallOK.mono (fn_sound X.gl X.hall (N := 2) (F := fn20) (X.at_ 20 (by decide)) rfl good20 rfl ?_) hN fun _ _ h => h
  have lim' := lim_eq
  (try dsimp only [fn20, mini20, Wa, Wb, Wc, Wd, We, Wf, Wg, Wh, Wi, Wj, Wk, Wl, Wm, Wn, Wo, Wp, Wq, Wr, Ws, Wt, Wu, Wv, Ww, Wx, Wy, Wz, WA, WB, WC, WD, WE, WF, WG, WH, WI, WJ, WK, WL, WM, WN, WO, WP, WQ, WR, WS, WT, WU, WV, WW, WX, WY, WZ, W0, W1, W2, W3, W4, Zk, Zl, Zm, Zn, Zo, Zp, Zq, Zr, Zs, Zt, Zu, Zv, Zw, Zx, Zy, Zz, ZA, ZB, ZC, ZD, ZE, ZF, ZG, ZH, ZI, ZJ, setAll, gv0, gv1, gl0, gl0o, gl0d, gl1, gf0, gf1, go0, go1, argsOf, W5, W6, W7, W8, W9, Za, Zb, Zc, Zd, Ze, Zf, Zg, Zh, Zi, Zj, Nat.reduceAdd, Nat.reduceSub]); (try simp only [fn20, mini20, List.length_map, Zk, Nat.zero_add, Nat.sub_self, Nat.add_zero, Nat.sub_zero, Int.one_mul, Int.toNat_natCast])
  rw [range_up, range_up_len]
  refine ⟨by decide, by exact qlb (by assumption), by exact qlb (by assumption), ?_⟩
  refine forW_inv (fun j σ D' => D' = D ∧ j ≤ m ∧ ∃ l : Sl, σ = [.v (num (2 ^ w) (a / 2 ^ (z * j))), .v (.int (z : Int)), .v (.int (m : Int)), .v (.int (w : Int)), .own (((List.range j).map fun i => a / 2 ^ (z * i) % 2 ^ z).map (num (2 ^ w))), l]) _ 0 _ _ ⟨rfl, by exact Nat.zero_le _, .un, by simp⟩ ?_ ?_
  · rintro j x σ D' K _ hxx ⟨rfl, hj', l, rfl⟩ hK _
    obtain ⟨hj, rfl⟩ := map_at hxx
    rw [Nat.sub_zero] at hj ⊢
    have hl : (dig (2 ^ w) (a / 2 ^ (z * j))).length < 1000 := num_len hw (k := 900) (by decide) (Nat.lt_of_le_of_lt (Nat.div_le_self _ _) ha)
    (try dsimp only [b20x0, nv, List.length_range, Wa, Wb, Wc, Wd, We, Wf, Wg, Wh, Wi, Wj, Wk, Wl, Wm, Wn, Wo, Wp, Wq, Wr, Ws, Wt, Wu, Wv, Ww, Wx, Wy, Wz, WA, WB, WC, WD, WE, WF, WG, WH, WI, WJ, WK, WL, WM, WN, WO, WP, WQ, WR, WS, WT, WU, WV, WW, WX, WY, WZ, W0, W1, W2, W3, W4, Zk, Zl, Zm, Zn, Zo, Zp, Zq, Zr, Zs, Zt, Zu, Zv, Zw, Zx, Zy, Zz, ZA, ZB, ZC, ZD, ZE, ZF, ZG, ZH, ZI, ZJ, setAll, gv0, gv1, gl0, gl0o, gl0d, gl1, gf0, gf1, go0, go1, argsOf, W5, W6, W7, W8, W9, Za, Zb, Zc, Zd, Ze, Zf, Zg, Zh, Zi, Zj, Nat.reduceAdd, Nat.reduceSub]); (try simp only [b20x0, nv, List.length_map, List.length_range, Zk, Nat.zero_add, Nat.sub_self, Nat.add_zero, Nat.sub_zero, Int.one_mul, Int.toNat_natCast])
    refine c_low X (by decide) hw hl (by exact qba (by assumption)) ⟨by omega, ?_⟩
    refine c_shift_right X (by decide) hw hl (by exact qba (by assumption)) ?_
    refine hK _ _ ⟨rfl, hj, .v (.int (j : Int)), ?_⟩
    rw [Nat.div_div_eq_div_mul, ← Nat.pow_add, List.range_succ, List.map_append, List.map_append]
    rfl
  · rintro σ D' ⟨rfl, hj', l, rfl⟩
    simp only [List.length_map, List.length_range, Nat.zero_add]
    (try dsimp only [Wa, Wb, Wc, Wd, We, Wf, Wg, Wh, Wi, Wj, Wk, Wl, Wm, Wn, Wo, Wp, Wq, Wr, Ws, Wt, Wu, Wv, Ww, Wx, Wy, Wz, WA, WB, WC, WD, WE, WF, WG, WH, WI, WJ, WK, WL, WM, WN, WO, WP, WQ, WR, WS, WT, WU, WV, WW, WX, WY, WZ, W0, W1, W2, W3, W4, Zk, Zl, Zm, Zn, Zo, Zp, Zq, Zr, Zs, Zt, Zu, Zv, Zw, Zx, Zy, Zz, ZA, ZB, ZC, ZD, ZE, ZF, ZG, ZH, ZI, ZJ, setAll, gv0, gv1, gl0, gl0o, gl0d, gl1, gf0, gf1, go0, go1, argsOf, W5, W6, W7, W8, W9, Za, Zb, Zc, Zd, Ze, Zf, Zg, Zh, Zi, Zj, Nat.reduceAdd, Nat.reduceSub]); (try simp only [Zk, Nat.zero_add, Nat.sub_self, Nat.add_zero, Nat.sub_zero, Int.one_mul, Int.toNat_natCast])
    exact hQ

theorem val_le_drop {B : Nat} : ∀ (vs : List Nat) (k : Nat), 1 ≤ B → val B (vs.drop k) ≤ val B vs
  | [], k, _ => by simp [val]
  | x :: r, 0, _ => Nat.le_refl _
  | x :: r, k + 1, h => by
    rw [List.drop_succ_cons, val]
    have h1 := val_le_drop r k h
    have h2 : val B r ≤ B * val B r := Nat.le_mul_of_pos_left _ h
    omega

theorem c_put_together (X : Txt G0 fa) (hN : 2 ≤ N) (hw : 1 ≤ w ∧ w ≤ 9) {z : Nat} {vs : List Nat} (hz : z < 10) (hl : vs.length < 1000) (hv : val (2 ^ z) vs < 2 ^ 800) (hQ : Q (num (2 ^ w) (val (2 ^ z) vs)) D) :
    CallOK prog w0 G0 d fa N 21 [nums (2 ^ w) vs, .int (z : Int), .int (w : Int)] D Q := by
  refine CallOK.mono (fn_sound X.gl X.hall (N := 1) (F := fn21) (X.at_ 21 (by decide)) rfl good21 rfl ?_) hN fun _ _ h => h
  have lim' := lim_eq
  have hzp := Nat.pow_pos (n := z) (show 0 < 2 by decide)
  (try dsimp only [fn21, mini21, Wa, Wb, Wc, Wd, We, Wf, Wg, Wh, Wi, Wj, Wk, Wl, Wm, Wn, Wo, Wp, Wq, Wr, Ws, Wt, Wu, Wv, Ww, Wx, Wy, Wz, WA, WB, WC, WD, WE, WF, WG, WH, WI, WJ, WK, WL, WM, WN, WO, WP, WQ, WR, WS, WT, WU, WV, WW, WX, WY, WZ, W0, W1, W2, W3, W4, Zk, Zl, Zm, Zn, Zo, Zp, Zq, Zr, Zs, Zt, Zu, Zv, Zw, Zx, Zy, Zz, ZA, ZB, ZC, ZD, ZE, ZF, ZG, ZH, ZI, ZJ, setAll, gv0, gv1, gl0, gl0o, gl0d, gl1, gf0, gf1, go0, go1, argsOf, W5, W6, W7, W8, W9, Za, Zb, Zc, Zd, Ze, Zf, Zg, Zh, Zi, Zj, Nat.reduceAdd, Nat.reduceSub]); (try simp only [fn21, mini21, List.length_map, List.length_reverse, Zk, Nat.zero_add, Nat.sub_self, Nat.add_zero, Nat.sub_zero, Int.one_mul, Int.toNat_natCast])
  refine ⟨by decide, by exact qlb (by assumption), ?_⟩
  refine forW_inv (fun j σ D' => D' = D ∧ j ≤ vs.length ∧ ∃ l : Sl, σ = [.v (nums (2 ^ w) vs), .v (.int (z : Int)), .v (.int (w : Int)), .v (num (2 ^ w) (val (2 ^ z) (vs.drop (vs.length - j)))), l]) _ 0 _ _ ⟨rfl, by exact Nat.zero_le _, .un, by simp [val, dig_zero]⟩ ?_ ?_
  · rintro j x σ D' K _ hxx ⟨rfl, hj', l, rfl⟩ hK _
    rw [Nat.sub_zero, ← List.map_reverse, List.getElem?_map] at hxx
    obtain ⟨y, hy, rfl⟩ := Option.map_eq_some_iff.mp hxx
    obtain ⟨hj, rfl⟩ := List.getElem?_eq_some_iff.mp hy
    rw [List.length_reverse] at hj
    have ij : vs.length - 1 - j < vs.length := by omega
    have hd := val_le_drop vs (vs.length - j) hzp
    have hd1 := val_le_drop vs (vs.length - 1 - j) hzp
    have e : val (2 ^ z) (vs.drop (vs.length - 1 - j)) = val (2 ^ z) (vs.drop (vs.length - j)) * 2 ^ z + vs[vs.length - 1 - j] := by
      rw [List.drop_eq_getElem_cons ij, val, show vs.length - 1 - j + 1 = vs.length - j by omega, Nat.mul_comm (2 ^ z), Nat.add_comm]
    (try dsimp only [b21x0, Wa, Wb, Wc, Wd, We, Wf, Wg, Wh, Wi, Wj, Wk, Wl, Wm, Wn, Wo, Wp, Wq, Wr, Ws, Wt, Wu, Wv, Ww, Wx, Wy, Wz, WA, WB, WC, WD, WE, WF, WG, WH, WI, WJ, WK, WL, WM, WN, WO, WP, WQ, WR, WS, WT, WU, WV, WW, WX, WY, WZ, W0, W1, W2, W3, W4, Zk, Zl, Zm, Zn, Zo, Zp, Zq, Zr, Zs, Zt, Zu, Zv, Zw, Zx, Zy, Zz, ZA, ZB, ZC, ZD, ZE, ZF, ZG, ZH, ZI, ZJ, setAll, gv0, gv1, gl0, gl0o, gl0d, gl1, gf0, gf1, go0, go1, argsOf, W5, W6, W7, W8, W9, Za, Zb, Zc, Zd, Ze, Zf, Zg, Zh, Zi, Zj, Nat.reduceAdd, Nat.reduceSub]); (try simp only [b21x0, Zk, Nat.zero_add, Nat.sub_self, Nat.add_zero, Nat.sub_zero, Int.one_mul, Int.toNat_natCast])
    rw [List.getElem_reverse]
    refine c_shift_left X (by decide) hw (num_len hw (k := 800) (by decide) (by omega)) (by exact qba (by assumption)) ?_
    refine c_add X (by decide) hw (num_len hw (k := 800) (by decide) (by omega)) (num_len hw (k := 800) (by decide) (by omega)) ?_
    refine hK _ _ ⟨rfl, hj, .v (num (2 ^ w) vs[vs.length - 1 - j]), ?_⟩
    rw [show vs.length - (j + 1) = vs.length - 1 - j by omega, e]
  · rintro σ D' ⟨rfl, hj', l, rfl⟩
    simp only [List.length_map, List.length_reverse, Nat.zero_add, Nat.sub_self, List.drop_zero]
    (try dsimp only [Wa, Wb, Wc, Wd, We, Wf, Wg, Wh, Wi, Wj, Wk, Wl, Wm, Wn, Wo, Wp, Wq, Wr, Ws, Wt, Wu, Wv, Ww, Wx, Wy, Wz, WA, WB, WC, WD, WE, WF, WG, WH, WI, WJ, WK, WL, WM, WN, WO, WP, WQ, WR, WS, WT, WU, WV, WW, WX, WY, WZ, W0, W1, W2, W3, W4, Zk, Zl, Zm, Zn, Zo, Zp, Zq, Zr, Zs, Zt, Zu, Zv, Zw, Zx, Zy, Zz, ZA, ZB, ZC, ZD, ZE, ZF, ZG, ZH, ZI, ZJ, setAll, gv0, gv1, gl0, gl0o, gl0d, gl1, gf0, gf1, go0, go1, argsOf, W5, W6, W7, W8, W9, Za, Zb, Zc, Zd, Ze, Zf, Zg, Zh, Zi, Zj, Nat.reduceAdd, Nat.reduceSub]); (try simp only [Zk, Nat.zero_add, Nat.sub_self, Nat.add_zero, Nat.sub_zero, Int.one_mul, Int.toNat_natCast])
    exact hQ

theorem sdSum_snoc (n z : Nat) : ∀ (xs : List Nat) (i v : Nat), sdSum n z i (xs ++ [v]) = sdSum n z i xs + sd n v * 2 ^ (z * (i + xs.length))
  | [], i, v => by simp [sdSum]
  | x :: r, i, v => by
    rw [List.cons_append, sdSum, sdSum, sdSum_snoc n z r (i + 1) v, List.length_cons, show i + 1 + r.length = i + (r.length + 1) by omega]
    omega

theorem c_signed_sum (X : Txt G0 fa) (hN : 5 ≤ N) (hw : 1 ≤ w ∧ w ≤ 9) (hn : 1 ≤ n ∧ n ≤ 8) {xs : List (Fr2 n)} {z m : Nat} (hl : xs.length ≤ 8) (hz : z ≤ 9) (hm : 1 ≤ m ∧ m ≤ 100)
    (hQ : ∀ f : Fr2 m, ((f.val : Nat) : Int) = sdSum n z 0 (xs.map fun x => x.val) % ((2 ^ m + 1 : Nat) : Int) → Q (rg w m f) D) :
    CallOK prog w0 G0 d fa N 22 [rows w n xs, .int (z : Int), .int (n : Int), .int (m : Int), .int (w : Int)] D Q := by
  refine CallOK.mono (fn_sound X.gl X.hall (N := 4) (F := fn22) (X.at_ 22 (by decide)) rfl good22 rfl ?_) hN fun _ _ h => h
  have lim' := lim_eq
  (try dsimp only [fn22, mini22, Wa, Wb, Wc, Wd, We, Wf, Wg, Wh, Wi, Wj, Wk, Wl, Wm, Wn, Wo, Wp, Wq, Wr, Ws, Wt, Wu, Wv, Ww, Wx, Wy, Wz, WA, WB, WC, WD, WE, WF, WG, WH, WI, WJ, WK, WL, WM, WN, WO, WP, WQ, WR, WS, WT, WU, WV, WW, WX, WY, WZ, W0, W1, W2, W3, W4, Zk, Zl, Zm, Zn, Zo, Zp, Zq, Zr, Zs, Zt, Zu, Zv, Zw, Zx, Zy, Zz, ZA, ZB, ZC, ZD, ZE, ZF, ZG, ZH, ZI, ZJ, setAll, gv0, gv1, gl0, gl0o, gl0d, gl1, gf0, gf1, go0, go1, argsOf, W5, W6, W7, W8, W9, Za, Zb, Zc, Zd, Ze, Zf, Zg, Zh, Zi, Zj, Nat.reduceAdd, Nat.reduceSub]); (try simp only [fn22, mini22, List.length_map, List.length_zipIdx, Zk, Nat.zero_add, Nat.sub_self, Nat.add_zero, Nat.sub_zero, Int.one_mul, Int.toNat_natCast])
  refine ⟨by decide, by exact qla (by assumption), ?_⟩
  rw [enum_map]
  refine forW_inv (fun j σ D' => D' = D ∧ j ≤ xs.length ∧ ∃ (f : Fr2 m) (l6 l7 l8 l9 : Sl), ((f.val : Nat) : Int) = sdSum n z 0 ((xs.take j).map fun x => x.val) % ((2 ^ m + 1 : Nat) : Int) ∧
    σ = [.v (rows w n xs), .v (.int (z : Int)), .v (.int (n : Int)), .v (.int (m : Int)), .v (.int (w : Int)), .v (rg w m f), l6, l7, l8, l9]) _ 0 _ _ ⟨rfl, by exact Nat.zero_le _, 0, _, _, _, _, by simp [sdSum], rfl⟩ ?_ ?_
  · rintro j x σ D' K _ hxx ⟨rfl, hj', f, l6, l7, l8, l9, hf, rfl⟩ hK _
    rw [Nat.sub_zero, List.getElem?_map] at hxx
    obtain ⟨y, hy, rfl⟩ := Option.map_eq_some_iff.mp hxx
    rw [List.getElem?_zipIdx] at hy
    obtain ⟨x, hx, rfl⟩ := Option.map_eq_some_iff.mp hy
    obtain ⟨hj, rfl⟩ := List.getElem?_eq_some_iff.mp hx
    have step : sdSum n z 0 ((xs.take (j + 1)).map fun x => x.val) = sdSum n z 0 ((xs.take j).map fun x => x.val) + sd n xs[j].val * 2 ^ (z * j) := by
      rw [List.take_succ_eq_append_getElem hj, List.map_append, List.map_singleton, sdSum_snoc, List.length_map, List.length_take, Nat.min_eq_left (by assumption), Nat.zero_add]
    have hx1 := xs[j].isLt
    have hxf := fin_lt xs[j]
    have hzj : z * j ≤ 72 := by
      have := Nat.mul_le_mul hz (show j ≤ 8 by omega)
      omega
    have hsh : ∀ u : Nat, u < 2 ^ (n + 1) → u * 2 ^ (z * j) < 2 ^ 900 := fun u hu => by
      have h1 : u * 2 ^ (z * j) < 2 ^ (n + 1) * 2 ^ (z * j) := Nat.mul_lt_mul_of_pos_right hu (Nat.pow_pos (by decide))
      rw [← Nat.pow_add] at h1
      exact Nat.lt_of_lt_of_le h1 (Nat.pow_le_pow_right (by decide) (by omega))
    (try dsimp only [b22x0, Wa, Wb, Wc, Wd, We, Wf, Wg, Wh, Wi, Wj, Wk, Wl, Wm, Wn, Wo, Wp, Wq, Wr, Ws, Wt, Wu, Wv, Ww, Wx, Wy, Wz, WA, WB, WC, WD, WE, WF, WG, WH, WI, WJ, WK, WL, WM, WN, WO, WP, WQ, WR, WS, WT, WU, WV, WW, WX, WY, WZ, W0, W1, W2, W3, W4, Zk, Zl, Zm, Zn, Zo, Zp, Zq, Zr, Zs, Zt, Zu, Zv, Zw, Zx, Zy, Zz, ZA, ZB, ZC, ZD, ZE, ZF, ZG, ZH, ZI, ZJ, setAll, gv0, gv1, gl0, gl0o, gl0d, gl1, gf0, gf1, go0, go1, argsOf, W5, W6, W7, W8, W9, Za, Zb, Zc, Zd, Ze, Zf, Zg, Zh, Zi, Zj, Nat.reduceAdd, Nat.reduceSub]); (try simp only [b22x0, Zk, Nat.zero_add, Nat.sub_self, Nat.add_zero, Nat.sub_zero, Int.one_mul, Int.toNat_natCast])
    refine c_bits X (by decide) hw (num_len hw (k := n + 1) (by exact qdc (by assumption)) hxf) ?_
    (try dsimp only [Wa, Wb, Wc, Wd, We, Wf, Wg, Wh, Wi, Wj, Wk, Wl, Wm, Wn, Wo, Wp, Wq, Wr, Ws, Wt, Wu, Wv, Ww, Wx, Wy, Wz, WA, WB, WC, WD, WE, WF, WG, WH, WI, WJ, WK, WL, WM, WN, WO, WP, WQ, WR, WS, WT, WU, WV, WW, WX, WY, WZ, W0, W1, W2, W3, W4, Zk, Zl, Zm, Zn, Zo, Zp, Zq, Zr, Zs, Zt, Zu, Zv, Zw, Zx, Zy, Zz, ZA, ZB, ZC, ZD, ZE, ZF, ZG, ZH, ZI, ZJ, setAll, gv0, gv1, gl0, gl0o, gl0d, gl1, gf0, gf1, go0, go1, argsOf, W5, W6, W7, W8, W9, Za, Zb, Zc, Zd, Ze, Zf, Zg, Zh, Zi, Zj, Nat.reduceAdd, Nat.reduceSub]); (try simp only [Zk, Nat.zero_add, Nat.sub_self, Nat.add_zero, Nat.sub_zero, Int.one_mul, Int.toNat_natCast])
    have hbl : (bl xs[j].val : Int) ≥ (n : Int) ↔ 2 ^ (n - 1) ≤ xs[j].val := by
      have := @bl_gt xs[j].val (n - 1)
      constructor
      · intro h; exact this.mp (by omega)
      · intro h; have := this.mpr h; omega
    have hpn := Nat.pow_pos (n := n - 1) (show 0 < 2 by decide)
    by_cases h : 2 ^ (n - 1) ≤ xs[j].val
    · rw [show decide ((bl xs[j].val : Int) ≥ (n : Int)) = true by simp only [decide_eq_true_eq]; exact hbl.mpr h]
      (try dsimp only [Wa, Wb, Wc, Wd, We, Wf, Wg, Wh, Wi, Wj, Wk, Wl, Wm, Wn, Wo, Wp, Wq, Wr, Ws, Wt, Wu, Wv, Ww, Wx, Wy, Wz, WA, WB, WC, WD, WE, WF, WG, WH, WI, WJ, WK, WL, WM, WN, WO, WP, WQ, WR, WS, WT, WU, WV, WW, WX, WY, WZ, W0, W1, W2, W3, W4, Zk, Zl, Zm, Zn, Zo, Zp, Zq, Zr, Zs, Zt, Zu, Zv, Zw, Zx, Zy, Zz, ZA, ZB, ZC, ZD, ZE, ZF, ZG, ZH, ZI, ZJ, setAll, gv0, gv1, gl0, gl0o, gl0d, gl1, gf0, gf1, go0, go1, argsOf, W5, W6, W7, W8, W9, Za, Zb, Zc, Zd, Ze, Zf, Zg, Zh, Zi, Zj, Nat.reduceAdd, Nat.reduceSub]); (try simp only [Zk, Nat.zero_add, Nat.sub_self, Nat.add_zero, Nat.sub_zero, Int.one_mul, Int.toNat_natCast])
      refine c_rneg X (by decide) hw (by exact qbc (by assumption)) ⟨⟨by exact q64a (by assumption), by omega⟩, ?_⟩
      rw [show (z : Int) * (j : Int) = ((z * j : Nat) : Int) by push_cast; rfl]
      refine c_shift_left X (by decide) hw (num_len hw (k := n + 1) (by exact qdc (by assumption)) (fin_lt _)) (by exact qda (by assumption)) ?_
      refine c_fold X (by decide) hw hm (hsh _ (fin_lt _)) ?_
      (try dsimp only [Wa, Wb, Wc, Wd, We, Wf, Wg, Wh, Wi, Wj, Wk, Wl, Wm, Wn, Wo, Wp, Wq, Wr, Ws, Wt, Wu, Wv, Ww, Wx, Wy, Wz, WA, WB, WC, WD, WE, WF, WG, WH, WI, WJ, WK, WL, WM, WN, WO, WP, WQ, WR, WS, WT, WU, WV, WW, WX, WY, WZ, W0, W1, W2, W3, W4, Zk, Zl, Zm, Zn, Zo, Zp, Zq, Zr, Zs, Zt, Zu, Zv, Zw, Zx, Zy, Zz, ZA, ZB, ZC, ZD, ZE, ZF, ZG, ZH, ZI, ZJ, setAll, gv0, gv1, gl0, gl0o, gl0d, gl1, gf0, gf1, go0, go1, argsOf, W5, W6, W7, W8, W9, Za, Zb, Zc, Zd, Ze, Zf, Zg, Zh, Zi, Zj, Nat.reduceAdd, Nat.reduceSub]); (try simp only [Zk, Nat.zero_add, Nat.sub_self, Nat.add_zero, Nat.sub_zero, Int.one_mul, Int.toNat_natCast])
      refine c_rsub X (by decide) hw hm.2 ?_
      refine hK _ _ ⟨rfl, hj, f - on m ((-xs[j]).val * 2 ^ (z * j)), _, _, _, _, ?_, rfl⟩
      have ev : (-xs[j]).val = 2 ^ n + 1 - xs[j].val := by rw [Fin.val_neg', Nat.mod_eq_of_lt (by omega)]
      rw [on_sub_int, hf, step, Int.emod_sub_emod, ev]
      congr 1
      unfold sd
      rw [if_pos h, ipow_nat n, ipow_nat (z * j), Int.natCast_mul, show ((2 ^ n + 1 - xs[j].val : Nat) : Int) = -(((xs[j].val : Nat) : Int) - ((2 ^ n : Nat) : Int) - 1) by omega, Int.neg_mul]
      omega
    · rw [show decide ((bl xs[j].val : Int) ≥ (n : Int)) = false by simp only [decide_eq_false_iff_not]; exact fun q => h (hbl.mp q)]
      (try dsimp only [Wa, Wb, Wc, Wd, We, Wf, Wg, Wh, Wi, Wj, Wk, Wl, Wm, Wn, Wo, Wp, Wq, Wr, Ws, Wt, Wu, Wv, Ww, Wx, Wy, Wz, WA, WB, WC, WD, WE, WF, WG, WH, WI, WJ, WK, WL, WM, WN, WO, WP, WQ, WR, WS, WT, WU, WV, WW, WX, WY, WZ, W0, W1, W2, W3, W4, Zk, Zl, Zm, Zn, Zo, Zp, Zq, Zr, Zs, Zt, Zu, Zv, Zw, Zx, Zy, Zz, ZA, ZB, ZC, ZD, ZE, ZF, ZG, ZH, ZI, ZJ, setAll, gv0, gv1, gl0, gl0o, gl0d, gl1, gf0, gf1, go0, go1, argsOf, W5, W6, W7, W8, W9, Za, Zb, Zc, Zd, Ze, Zf, Zg, Zh, Zi, Zj, Nat.reduceAdd, Nat.reduceSub]); (try simp only [Zk, Nat.zero_add, Nat.sub_self, Nat.add_zero, Nat.sub_zero, Int.one_mul, Int.toNat_natCast])
      refine ⟨⟨by exact q64a (by assumption), by omega⟩, ?_⟩
      rw [show (z : Int) * (j : Int) = ((z * j : Nat) : Int) by push_cast; rfl]
      refine c_shift_left X (by decide) hw (num_len hw (k := n + 1) (by exact qdc (by assumption)) (fin_lt _)) (by exact qda (by assumption)) ?_
      refine c_fold X (by decide) hw hm (hsh _ (fin_lt _)) ?_
      (try dsimp only [Wa, Wb, Wc, Wd, We, Wf, Wg, Wh, Wi, Wj, Wk, Wl, Wm, Wn, Wo, Wp, Wq, Wr, Ws, Wt, Wu, Wv, Ww, Wx, Wy, Wz, WA, WB, WC, WD, WE, WF, WG, WH, WI, WJ, WK, WL, WM, WN, WO, WP, WQ, WR, WS, WT, WU, WV, WW, WX, WY, WZ, W0, W1, W2, W3, W4, Zk, Zl, Zm, Zn, Zo, Zp, Zq, Zr, Zs, Zt, Zu, Zv, Zw, Zx, Zy, Zz, ZA, ZB, ZC, ZD, ZE, ZF, ZG, ZH, ZI, ZJ, setAll, gv0, gv1, gl0, gl0o, gl0d, gl1, gf0, gf1, go0, go1, argsOf, W5, W6, W7, W8, W9, Za, Zb, Zc, Zd, Ze, Zf, Zg, Zh, Zi, Zj, Nat.reduceAdd, Nat.reduceSub]); (try simp only [Zk, Nat.zero_add, Nat.sub_self, Nat.add_zero, Nat.sub_zero, Int.one_mul, Int.toNat_natCast])
      refine c_radd X (by decide) hw hm.2 ?_
      refine hK _ _ ⟨rfl, hj, f + on m (xs[j].val * 2 ^ (z * j)), _, _, _, _, ?_, rfl⟩
      rw [on_add_int, hf, step, Int.emod_add_emod]
      congr 1
      unfold sd
      rw [if_neg h, ipow_nat (z * j), Int.natCast_mul]
  · rintro σ D' ⟨rfl, hj', f, l6, l7, l8, l9, hf, rfl⟩
    simp only [List.length_map, List.length_zipIdx, Nat.zero_add, List.take_length] at hf
    (try dsimp only [Wa, Wb, Wc, Wd, We, Wf, Wg, Wh, Wi, Wj, Wk, Wl, Wm, Wn, Wo, Wp, Wq, Wr, Ws, Wt, Wu, Wv, Ww, Wx, Wy, Wz, WA, WB, WC, WD, WE, WF, WG, WH, WI, WJ, WK, WL, WM, WN, WO, WP, WQ, WR, WS, WT, WU, WV, WW, WX, WY, WZ, W0, W1, W2, W3, W4, Zk, Zl, Zm, Zn, Zo, Zp, Zq, Zr, Zs, Zt, Zu, Zv, Zw, Zx, Zy, Zz, ZA, ZB, ZC, ZD, ZE, ZF, ZG, ZH, ZI, ZJ, setAll, gv0, gv1, gl0, gl0o, gl0d, gl1, gf0, gf1, go0, go1, argsOf, W5, W6, W7, W8, W9, Za, Zb, Zc, Zd, Ze, Zf, Zg, Zh, Zi, Zj, Nat.reduceAdd, Nat.reduceSub]); (try simp only [Zk, Nat.zero_add, Nat.sub_self, Nat.add_zero, Nat.sub_zero, Int.one_mul, Int.toNat_natCast])
    exact hQ f hf

theorem c_element_of (X : Txt G0 fa) (hN : 5 ≤ N) (hw : 1 ≤ w ∧ w ≤ 9) (hn : 1 ≤ n ∧ n ≤ 100) {k : Int} (hk : k.natAbs < 1000) (hQ : ∀ f : Fr2 n, ((f.val : Nat) : Int) = k % ((2 ^ n + 1 : Nat) : Int) → Q (rg w n f) D) :
    CallOK prog w0 G0 d fa N 25 [.int k, .int (n : Int), .int (w : Int)] D Q := by
  refine CallOK.mono (fn_sound X.gl X.hall (N := 4) (F := fn25) (X.at_ 25 (by decide)) rfl good25 rfl ?_) hN fun _ _ h => h
  have lim' := lim_eq
  have hb := two_le_pow hw.1
  (try dsimp only [fn25, mini25, Wa, Wb, Wc, Wd, We, Wf, Wg, Wh, Wi, Wj, Wk, Wl, Wm, Wn, Wo, Wp, Wq, Wr, Ws, Wt, Wu, Wv, Ww, Wx, Wy, Wz, WA, WB, WC, WD, WE, WF, WG, WH, WI, WJ, WK, WL, WM, WN, WO, WP, WQ, WR, WS, WT, WU, WV, WW, WX, WY, WZ, W0, W1, W2, W3, W4, Zk, Zl, Zm, Zn, Zo, Zp, Zq, Zr, Zs, Zt, Zu, Zv, Zw, Zx, Zy, Zz, ZA, ZB, ZC, ZD, ZE, ZF, ZG, ZH, ZI, ZJ, setAll, gv0, gv1, gl0, gl0o, gl0d, gl1, gf0, gf1, go0, go1, argsOf, W5, W6, W7, W8, W9, Za, Zb, Zc, Zd, Ze, Zf, Zg, Zh, Zi, Zj, Nat.reduceAdd, Nat.reduceSub]); (try simp only [fn25, mini25, Zk, Nat.zero_add, Nat.sub_self, Nat.add_zero, Nat.sub_zero, Int.one_mul, Int.toNat_natCast])
  have ea : (if k < 0 then -k else k) = ((k.natAbs : Nat) : Int) := by split <;> omega
  have hlt0 : k.natAbs < 2 ^ 10 := Nat.lt_of_lt_of_le hk (by decide)
  have hl := num_len (v := k.natAbs) hw (k := 10) (by decide) hlt0
  have hlt : k.natAbs < 2 ^ 900 := Nat.lt_of_lt_of_le hlt0 (Nat.pow_le_pow_right (by decide) (by decide))
  rw [ea]
  refine c_nat_of X (by decide) hw (by exact qlb (by assumption)) ?_
  refine c_normal X (by decide) ?_
  rw [take_cut hb (lim_dig hb _), val_dig hb]
  refine c_fold X (by decide) hw hn hlt ?_
  (try dsimp only [Wa, Wb, Wc, Wd, We, Wf, Wg, Wh, Wi, Wj, Wk, Wl, Wm, Wn, Wo, Wp, Wq, Wr, Ws, Wt, Wu, Wv, Ww, Wx, Wy, Wz, WA, WB, WC, WD, WE, WF, WG, WH, WI, WJ, WK, WL, WM, WN, WO, WP, WQ, WR, WS, WT, WU, WV, WW, WX, WY, WZ, W0, W1, W2, W3, W4, Zk, Zl, Zm, Zn, Zo, Zp, Zq, Zr, Zs, Zt, Zu, Zv, Zw, Zx, Zy, Zz, ZA, ZB, ZC, ZD, ZE, ZF, ZG, ZH, ZI, ZJ, setAll, gv0, gv1, gl0, gl0o, gl0d, gl1, gf0, gf1, go0, go1, argsOf, W5, W6, W7, W8, W9, Za, Zb, Zc, Zd, Ze, Zf, Zg, Zh, Zi, Zj, Nat.reduceAdd, Nat.reduceSub]); (try simp only [Zk, Nat.zero_add, Nat.sub_self, Nat.add_zero, Nat.sub_zero, Int.one_mul, Int.toNat_natCast])
  by_cases h : k < 0
  · rw [show decide (k < 0) = true by simpa using h]
    (try dsimp only [Wa, Wb, Wc, Wd, We, Wf, Wg, Wh, Wi, Wj, Wk, Wl, Wm, Wn, Wo, Wp, Wq, Wr, Ws, Wt, Wu, Wv, Ww, Wx, Wy, Wz, WA, WB, WC, WD, WE, WF, WG, WH, WI, WJ, WK, WL, WM, WN, WO, WP, WQ, WR, WS, WT, WU, WV, WW, WX, WY, WZ, W0, W1, W2, W3, W4, Zk, Zl, Zm, Zn, Zo, Zp, Zq, Zr, Zs, Zt, Zu, Zv, Zw, Zx, Zy, Zz, ZA, ZB, ZC, ZD, ZE, ZF, ZG, ZH, ZI, ZJ, setAll, gv0, gv1, gl0, gl0o, gl0d, gl1, gf0, gf1, go0, go1, argsOf, W5, W6, W7, W8, W9, Za, Zb, Zc, Zd, Ze, Zf, Zg, Zh, Zi, Zj, Nat.reduceAdd, Nat.reduceSub]); (try simp only [Zk, Nat.zero_add, Nat.sub_self, Nat.add_zero, Nat.sub_zero, Int.one_mul, Int.toNat_natCast])
    refine c_rneg X (by decide) hw hn.2 (hQ _ ?_)
    have := on_sub_int (m := n) 0 k.natAbs
    rw [show (0 : Fr2 n) - on n k.natAbs = -on n k.natAbs by grind] at this
    rw [this]
    congr 1
    show ((0 : Nat) : Int) - _ = k
    omega
  · rw [show decide (k < 0) = false by simpa using h]
    (try dsimp only [Wa, Wb, Wc, Wd, We, Wf, Wg, Wh, Wi, Wj, Wk, Wl, Wm, Wn, Wo, Wp, Wq, Wr, Ws, Wt, Wu, Wv, Ww, Wx, Wy, Wz, WA, WB, WC, WD, WE, WF, WG, WH, WI, WJ, WK, WL, WM, WN, WO, WP, WQ, WR, WS, WT, WU, WV, WW, WX, WY, WZ, W0, W1, W2, W3, W4, Zk, Zl, Zm, Zn, Zo, Zp, Zq, Zr, Zs, Zt, Zu, Zv, Zw, Zx, Zy, Zz, ZA, ZB, ZC, ZD, ZE, ZF, ZG, ZH, ZI, ZJ, setAll, gv0, gv1, gl0, gl0o, gl0d, gl1, gf0, gf1, go0, go1, argsOf, W5, W6, W7, W8, W9, Za, Zb, Zc, Zd, Ze, Zf, Zg, Zh, Zi, Zj, Nat.reduceAdd, Nat.reduceSub]); (try simp only [Zk, Nat.zero_add, Nat.sub_self, Nat.add_zero, Nat.sub_zero, Int.one_mul, Int.toNat_natCast])
    refine hQ _ ?_
    have := on_add_int (m := n) 0 k.natAbs
    rw [show (0 : Fr2 n) + on n k.natAbs = on n k.natAbs by grind] at this
    rw [this]
    congr 1
    show ((0 : Nat) : Int) + _ = k
    omega
end
end Mine
end

section
open PySem PySem.W PyProof.Rows
namespace Mine
theorem range_by (s q : Nat) (hs : 1 ≤ s) : (rangeInts 0 ((s * q : Nat) : Int) (s : Int)).map PV.int = (List.range q).map fun i => nv (s * i) := by
  have e : (Builtin.Range.rangeSize 0 ((s * q : Nat) : Int) (s : Int)).toNat = q := by
    unfold Builtin.Range.rangeSize
    rw [if_pos (by omega)]
    cases q with
    | zero => simp
    | succ q =>
      rw [if_pos (by rw [Nat.mul_succ]; omega)]
      rw [show ((s * (q + 1) : Nat) : Int) - 0 - 1 = ((s * q + (s - 1) : Nat) : Int) by rw [Nat.mul_succ]; omega, ← Int.natCast_ediv, Nat.mul_add_div (by assumption), Nat.div_eq_of_lt (by omega)]
      omega
  unfold rangeInts
  rw [e, List.map_map]
  apply List.map_congr_left
  intro i _
  simp [nv]
theorem range_by_len (s q : Nat) (hs : 1 ≤ s) : (rangeInts 0 ((s * q : Nat) : Int) (s : Int)).length = q := by have := congrArg List.length (range_by s q hs); simpa using this

theorem foldl_len {α β : Type} {f : List α → β → List α} (hf : ∀ ys i, (f ys i).length = ys.length) : ∀ (is : List β) (xs : List α), (is.foldl f xs).length = xs.length
  | [], xs => rfl
  | i :: r, xs => by rw [List.foldl_cons, foldl_len hf r, hf]

noncomputable def flyF (n : Nat) (i j : Nat) (k : Int) (xs : List (Fr2 n)) : List (Fr2 n) := (xs.set i (xs.getD i 0 + xs.getD j 0)).set j ((xs.getD i 0 - xs.getD j 0) * U n k)
noncomputable def flyB (n : Nat) (i j : Nat) (k : Int) (xs : List (Fr2 n)) : List (Fr2 n) := (xs.set i (xs.getD i 0 + xs.getD j 0 * U n k)).set j (xs.getD i 0 - xs.getD j 0 * U n k)
noncomputable def layF (n half step q : Nat) (xs : List (Fr2 n)) : List (Fr2 n) := (List.range q).foldl (fun xs i => (List.range half).foldl (fun xs t => flyF n (2 * half * i + t) (2 * half * i + half + t) ((step * t : Nat) : Int) xs) xs) xs
noncomputable def layB (n half step q : Nat) (xs : List (Fr2 n)) : List (Fr2 n) := (List.range q).foldl (fun xs i => (List.range half).foldl (fun xs t => flyB n (2 * half * i + t) (2 * half * i + half + t) (-(step : Int) * (t : Int)) xs) xs) xs
theorem flyF_len (n i j : Nat) (k : Int) (xs : List (Fr2 n)) : (flyF n i j k xs).length = xs.length := by simp [flyF]
theorem flyB_len (n i j : Nat) (k : Int) (xs : List (Fr2 n)) : (flyB n i j k xs).length = xs.length := by simp [flyB]
theorem layF_len (n half step q : Nat) (xs : List (Fr2 n)) : (layF n half step q xs).length = xs.length := foldl_len (fun ys i => foldl_len (fun zs t => flyF_len ..) _ _) _ _
theorem layB_len (n half step q : Nat) (xs : List (Fr2 n)) : (layB n half step q xs).length = xs.length := foldl_len (fun ys i => foldl_len (fun zs t => flyB_len ..) _ _) _ _
noncomputable def fwdL (n : Nat) : Nat → Nat → List (Fr2 n) → List (Fr2 n)
  | 0, _, xs => xs
  | e + 1, step, xs => fwdL n e (2 * step) (layF n (2 ^ e) step (xs.length / 2 ^ (e + 1)) xs)
noncomputable def bwdL (n : Nat) : Nat → Nat → List (Fr2 n) → List (Fr2 n)
  | 0, _, xs => xs
  | k + 1, half, xs => bwdL n k (2 * half) (layB n half (n / half) (2 ^ k) xs)

theorem rg_get {w n : Nat} {xs : List (Fr2 n)} {i : Nat} (h : i < xs.length) : (xs.map (rg w n))[i]? = some (rg w n (xs.getD i 0)) := by
  rw [List.getElem?_map, List.getElem?_eq_getElem h, List.getD_eq_getElem?_getD, List.getElem?_eq_getElem h]; rfl

section
variable {prog : Program} {w0 : World} {G0 : Frz} {d : Option Addr} {fa : Nat → Addr} {N : Nat} {w n : Nat} {D : DS} {Q : PV → DS → Prop}

theorem fly_F (X : Txt G0 fa) (hN : 6 ≤ N) (hw : 1 ≤ w ∧ w ≤ 9) (hn : 1 ≤ n ∧ n ≤ 100) {xs : List (Fr2 n)} {begin half step t : Nat} {row l8 l9 : Sl} (h : begin + half + t < xs.length) (hl : xs.length < 1000) (hs : step < 10000)
    {K : Fl → Sg → DS → Prop} (hK : ∀ l8 l9, K .next [row, .v (.int (n : Int)), .v (.int (w : Int)), .own ((flyF n (begin + t) (begin + half + t) ((step * t : Nat) : Int) xs).map (rg w n)), .v (.int (half : Int)), .v (.int (step : Int)), .v (.int (begin : Int)), .v (.int (t : Int)), l8, l9] D) :
    wpSs (CallOK prog w0 G0 d fa N) b16x0 [row, .v (.int (n : Int)), .v (.int (w : Int)), .own (xs.map (rg w n)), .v (.int (half : Int)), .v (.int (step : Int)), .v (.int (begin : Int)), .v (.int (t : Int)), l8, l9] D K := by
  (try dsimp only [b16x0, Wa, Wb, Wc, Wd, We, Wf, Wg, Wh, Wi, Wj, Wk, Wl, Wm, Wn, Wo, Wp, Wq, Wr, Ws, Wt, Wu, Wv, Ww, Wx, Wy, Wz, WA, WB, WC, WD, WE, WF, WG, WH, WI, WJ, WK, WL, WM, WN, WO, WP, WQ, WR, WS, WT, WU, WV, WW, WX, WY, WZ, W0, W1, W2, W3, W4, Zk, Zl, Zm, Zn, Zo, Zp, Zq, Zr, Zs, Zt, Zu, Zv, Zw, Zx, Zy, Zz, ZA, ZB, ZC, ZD, ZE, ZF, ZG, ZH, ZI, ZJ, setAll, gv0, gv1, gl0, gl0o, gl0d, gl1, gf0, gf1, go0, go1, argsOf, W5, W6, W7, W8, W9, Za, Zb, Zc, Zd, Ze, Zf, Zg, Zh, Zi, Zj, Nat.reduceAdd, Nat.reduceSub]); (try simp only [b16x0, Zk, Nat.zero_add, Nat.sub_self, Nat.add_zero, Nat.sub_zero, Int.one_mul, Int.toNat_natCast])
  refine idx_rule (begin + t) (by exact (Int.natCast_add _ _).symm) (rg_get (by omega)) ?_
  refine idx_rule (begin + half + t) (by exact (Int.natCast_add _ _).symm) (rg_get (by assumption)) ?_
  (try dsimp only [Wa, Wb, Wc, Wd, We, Wf, Wg, Wh, Wi, Wj, Wk, Wl, Wm, Wn, Wo, Wp, Wq, Wr, Ws, Wt, Wu, Wv, Ww, Wx, Wy, Wz, WA, WB, WC, WD, WE, WF, WG, WH, WI, WJ, WK, WL, WM, WN, WO, WP, WQ, WR, WS, WT, WU, WV, WW, WX, WY, WZ, W0, W1, W2, W3, W4, Zk, Zl, Zm, Zn, Zo, Zp, Zq, Zr, Zs, Zt, Zu, Zv, Zw, Zx, Zy, Zz, ZA, ZB, ZC, ZD, ZE, ZF, ZG, ZH, ZI, ZJ, setAll, gv0, gv1, gl0, gl0o, gl0d, gl1, gf0, gf1, go0, go1, argsOf, W5, W6, W7, W8, W9, Za, Zb, Zc, Zd, Ze, Zf, Zg, Zh, Zi, Zj, Nat.reduceAdd, Nat.reduceSub]); (try simp only [Zk, Nat.zero_add, Nat.sub_self, Nat.add_zero, Nat.sub_zero, Int.one_mul, Int.toNat_natCast])
  refine c_radd X (by omega) hw hn.2 ?_
  (try dsimp only [Wa, Wb, Wc, Wd, We, Wf, Wg, Wh, Wi, Wj, Wk, Wl, Wm, Wn, Wo, Wp, Wq, Wr, Ws, Wt, Wu, Wv, Ww, Wx, Wy, Wz, WA, WB, WC, WD, WE, WF, WG, WH, WI, WJ, WK, WL, WM, WN, WO, WP, WQ, WR, WS, WT, WU, WV, WW, WX, WY, WZ, W0, W1, W2, W3, W4, Zk, Zl, Zm, Zn, Zo, Zp, Zq, Zr, Zs, Zt, Zu, Zv, Zw, Zx, Zy, Zz, ZA, ZB, ZC, ZD, ZE, ZF, ZG, ZH, ZI, ZJ, setAll, gv0, gv1, gl0, gl0o, gl0d, gl1, gf0, gf1, go0, go1, argsOf, W5, W6, W7, W8, W9, Za, Zb, Zc, Zd, Ze, Zf, Zg, Zh, Zi, Zj, Nat.reduceAdd, Nat.reduceSub]); (try simp only [List.length_map, Zk, Nat.zero_add, Nat.sub_self, Nat.add_zero, Nat.sub_zero, Int.one_mul, Int.toNat_natCast])
  refine ⟨⟨by exact Int.natCast_nonneg _, by omega⟩, ?_⟩
  refine c_rsub X (by omega) hw hn.2 ?_
  refine ⟨⟨by exact q64b (by assumption), by omega⟩, c_rshift X hN hw hn ?_⟩
  (try dsimp only [Wa, Wb, Wc, Wd, We, Wf, Wg, Wh, Wi, Wj, Wk, Wl, Wm, Wn, Wo, Wp, Wq, Wr, Ws, Wt, Wu, Wv, Ww, Wx, Wy, Wz, WA, WB, WC, WD, WE, WF, WG, WH, WI, WJ, WK, WL, WM, WN, WO, WP, WQ, WR, WS, WT, WU, WV, WW, WX, WY, WZ, W0, W1, W2, W3, W4, Zk, Zl, Zm, Zn, Zo, Zp, Zq, Zr, Zs, Zt, Zu, Zv, Zw, Zx, Zy, Zz, ZA, ZB, ZC, ZD, ZE, ZF, ZG, ZH, ZI, ZJ, setAll, gv0, gv1, gl0, gl0o, gl0d, gl1, gf0, gf1, go0, go1, argsOf, W5, W6, W7, W8, W9, Za, Zb, Zc, Zd, Ze, Zf, Zg, Zh, Zi, Zj, Nat.reduceAdd, Nat.reduceSub]); (try simp only [List.length_map, List.length_set, Zk, Nat.zero_add, Nat.sub_self, Nat.add_zero, Nat.sub_zero, Int.one_mul, Int.toNat_natCast])
  refine ⟨⟨by exact Int.natCast_nonneg _, by omega⟩, ?_⟩
  have := hK (.v (rg w n (xs.getD (begin + t) 0))) (.v (rg w n (xs.getD (begin + half + t) 0)))
  rw [flyF, List.map_set, List.map_set] at this
  rw [show ((begin : Int) + (t : Int)).toNat = begin + t by omega, show ((begin : Int) + (half : Int) + (t : Int)).toNat = begin + half + t by omega, show (step : Int) * (t : Int) = ((step * t : Nat) : Int) by push_cast; rfl]
  exact this

theorem fly_B (X : Txt G0 fa) (hN : 6 ≤ N) (hw : 1 ≤ w ∧ w ≤ 9) (hn : 1 ≤ n ∧ n ≤ 100) {xs : List (Fr2 n)} {begin half step t : Nat} {row l8 l9 l10 l11 : Sl} (h : begin + half + t < xs.length) (hl : xs.length < 1000) (hs : step < 10000)
    {K : Fl → Sg → DS → Prop} (hK : ∀ l8 l9, K .next [row, .v (.int (n : Int)), .v (.int (w : Int)), .own ((flyB n (begin + t) (begin + half + t) (-(step : Int) * (t : Int)) xs).map (rg w n)), .v (.int (half : Int)), .v (.int (step : Int)), .v (.int (begin : Int)), .v (.int (t : Int)), l8, l9, l10, l11] D) :
    wpSs (CallOK prog w0 G0 d fa N) b17x0 [row, .v (.int (n : Int)), .v (.int (w : Int)), .own (xs.map (rg w n)), .v (.int (half : Int)), .v (.int (step : Int)), .v (.int (begin : Int)), .v (.int (t : Int)), l8, l9, l10, l11] D K := by
  (try dsimp only [b17x0, Wa, Wb, Wc, Wd, We, Wf, Wg, Wh, Wi, Wj, Wk, Wl, Wm, Wn, Wo, Wp, Wq, Wr, Ws, Wt, Wu, Wv, Ww, Wx, Wy, Wz, WA, WB, WC, WD, WE, WF, WG, WH, WI, WJ, WK, WL, WM, WN, WO, WP, WQ, WR, WS, WT, WU, WV, WW, WX, WY, WZ, W0, W1, W2, W3, W4, Zk, Zl, Zm, Zn, Zo, Zp, Zq, Zr, Zs, Zt, Zu, Zv, Zw, Zx, Zy, Zz, ZA, ZB, ZC, ZD, ZE, ZF, ZG, ZH, ZI, ZJ, setAll, gv0, gv1, gl0, gl0o, gl0d, gl1, gf0, gf1, go0, go1, argsOf, W5, W6, W7, W8, W9, Za, Zb, Zc, Zd, Ze, Zf, Zg, Zh, Zi, Zj, Nat.reduceAdd, Nat.reduceSub]); (try simp only [b17x0, Zk, Nat.zero_add, Nat.sub_self, Nat.add_zero, Nat.sub_zero, Int.one_mul, Int.toNat_natCast])
  refine idx_rule (begin + t) (by exact (Int.natCast_add _ _).symm) (rg_get (by omega)) ?_
  refine idx_rule (begin + half + t) (by exact (Int.natCast_add _ _).symm) (rg_get (by assumption)) ?_
  (try dsimp only [Wa, Wb, Wc, Wd, We, Wf, Wg, Wh, Wi, Wj, Wk, Wl, Wm, Wn, Wo, Wp, Wq, Wr, Ws, Wt, Wu, Wv, Ww, Wx, Wy, Wz, WA, WB, WC, WD, WE, WF, WG, WH, WI, WJ, WK, WL, WM, WN, WO, WP, WQ, WR, WS, WT, WU, WV, WW, WX, WY, WZ, W0, W1, W2, W3, W4, Zk, Zl, Zm, Zn, Zo, Zp, Zq, Zr, Zs, Zt, Zu, Zv, Zw, Zx, Zy, Zz, ZA, ZB, ZC, ZD, ZE, ZF, ZG, ZH, ZI, ZJ, setAll, gv0, gv1, gl0, gl0o, gl0d, gl1, gf0, gf1, go0, go1, argsOf, W5, W6, W7, W8, W9, Za, Zb, Zc, Zd, Ze, Zf, Zg, Zh, Zi, Zj, Nat.reduceAdd, Nat.reduceSub]); (try simp only [Zk, Nat.zero_add, Nat.sub_self, Nat.add_zero, Nat.sub_zero, Int.one_mul, Int.toNat_natCast])
  refine ⟨⟨by omega, by omega⟩, c_rshift X hN hw hn ?_⟩
  (try dsimp only [Wa, Wb, Wc, Wd, We, Wf, Wg, Wh, Wi, Wj, Wk, Wl, Wm, Wn, Wo, Wp, Wq, Wr, Ws, Wt, Wu, Wv, Ww, Wx, Wy, Wz, WA, WB, WC, WD, WE, WF, WG, WH, WI, WJ, WK, WL, WM, WN, WO, WP, WQ, WR, WS, WT, WU, WV, WW, WX, WY, WZ, W0, W1, W2, W3, W4, Zk, Zl, Zm, Zn, Zo, Zp, Zq, Zr, Zs, Zt, Zu, Zv, Zw, Zx, Zy, Zz, ZA, ZB, ZC, ZD, ZE, ZF, ZG, ZH, ZI, ZJ, setAll, gv0, gv1, gl0, gl0o, gl0d, gl1, gf0, gf1, go0, go1, argsOf, W5, W6, W7, W8, W9, Za, Zb, Zc, Zd, Ze, Zf, Zg, Zh, Zi, Zj, Nat.reduceAdd, Nat.reduceSub]); (try simp only [List.length_map, Zk, Nat.zero_add, Nat.sub_self, Nat.add_zero, Nat.sub_zero, Int.one_mul, Int.toNat_natCast])
  refine c_radd X (by omega) hw hn.2 ?_
  (try dsimp only [Wa, Wb, Wc, Wd, We, Wf, Wg, Wh, Wi, Wj, Wk, Wl, Wm, Wn, Wo, Wp, Wq, Wr, Ws, Wt, Wu, Wv, Ww, Wx, Wy, Wz, WA, WB, WC, WD, WE, WF, WG, WH, WI, WJ, WK, WL, WM, WN, WO, WP, WQ, WR, WS, WT, WU, WV, WW, WX, WY, WZ, W0, W1, W2, W3, W4, Zk, Zl, Zm, Zn, Zo, Zp, Zq, Zr, Zs, Zt, Zu, Zv, Zw, Zx, Zy, Zz, ZA, ZB, ZC, ZD, ZE, ZF, ZG, ZH, ZI, ZJ, setAll, gv0, gv1, gl0, gl0o, gl0d, gl1, gf0, gf1, go0, go1, argsOf, W5, W6, W7, W8, W9, Za, Zb, Zc, Zd, Ze, Zf, Zg, Zh, Zi, Zj, Nat.reduceAdd, Nat.reduceSub]); (try simp only [List.length_map, Zk, Nat.zero_add, Nat.sub_self, Nat.add_zero, Nat.sub_zero, Int.one_mul, Int.toNat_natCast])
  refine ⟨⟨by exact Int.natCast_nonneg _, by omega⟩, ?_⟩
  refine c_rsub X (by omega) hw hn.2 ?_
  (try dsimp only [Wa, Wb, Wc, Wd, We, Wf, Wg, Wh, Wi, Wj, Wk, Wl, Wm, Wn, Wo, Wp, Wq, Wr, Ws, Wt, Wu, Wv, Ww, Wx, Wy, Wz, WA, WB, WC, WD, WE, WF, WG, WH, WI, WJ, WK, WL, WM, WN, WO, WP, WQ, WR, WS, WT, WU, WV, WW, WX, WY, WZ, W0, W1, W2, W3, W4, Zk, Zl, Zm, Zn, Zo, Zp, Zq, Zr, Zs, Zt, Zu, Zv, Zw, Zx, Zy, Zz, ZA, ZB, ZC, ZD, ZE, ZF, ZG, ZH, ZI, ZJ, setAll, gv0, gv1, gl0, gl0o, gl0d, gl1, gf0, gf1, go0, go1, argsOf, W5, W6, W7, W8, W9, Za, Zb, Zc, Zd, Ze, Zf, Zg, Zh, Zi, Zj, Nat.reduceAdd, Nat.reduceSub]); (try simp only [List.length_map, List.length_set, Zk, Nat.zero_add, Nat.sub_self, Nat.add_zero, Nat.sub_zero, Int.one_mul, Int.toNat_natCast])
  refine ⟨⟨by exact Int.natCast_nonneg _, by omega⟩, ?_⟩
  have := hK (.v (rg w n (xs.getD (begin + t) 0))) (.v (rg w n (xs.getD (begin + half + t) 0 * U n (-(step : Int) * (t : Int)))))
  rw [flyB, List.map_set, List.map_set] at this
  rw [show ((begin : Int) + (t : Int)).toNat = begin + t by omega, show ((begin : Int) + (half : Int) + (t : Int)).toNat = begin + half + t by omega]
  exact this

theorem lay_F (X : Txt G0 fa) (hN : 6 ≤ N) (hw : 1 ≤ w ∧ w ≤ 9) (hn : 1 ≤ n ∧ n ≤ 100) {xs : List (Fr2 n)} {half step q : Nat} {row l6 l7 l8 l9 : Sl} (hh : 1 ≤ half) (hq : 1 ≤ q) (h : xs.length = 2 * half * q) (hl : xs.length < 1000) (hs : step < 5000)
    {K : Fl → Sg → DS → Prop} (hK : ∀ l6 l7 l8 l9, K .next [row, .v (.int (n : Int)), .v (.int (w : Int)), .own ((layF n half step q xs).map (rg w n)), .v (.int ((half / 2 : Nat) : Int)), .v (.int ((2 * step : Nat) : Int)), l6, l7, l8, l9] D) :
    wpSs (CallOK prog w0 G0 d fa N) b16x2 [row, .v (.int (n : Int)), .v (.int (w : Int)), .own (xs.map (rg w n)), .v (.int (half : Int)), .v (.int (step : Int)), l6, l7, l8, l9] D K := by
  have lim' := lim_eq
  have hh2 : 2 * half ≤ xs.length := by rw [h]; exact Nat.le_mul_of_pos_right _ hq
  (try dsimp only [b16x2, Wa, Wb, Wc, Wd, We, Wf, Wg, Wh, Wi, Wj, Wk, Wl, Wm, Wn, Wo, Wp, Wq, Wr, Ws, Wt, Wu, Wv, Ww, Wx, Wy, Wz, WA, WB, WC, WD, WE, WF, WG, WH, WI, WJ, WK, WL, WM, WN, WO, WP, WQ, WR, WS, WT, WU, WV, WW, WX, WY, WZ, W0, W1, W2, W3, W4, Zk, Zl, Zm, Zn, Zo, Zp, Zq, Zr, Zs, Zt, Zu, Zv, Zw, Zx, Zy, Zz, ZA, ZB, ZC, ZD, ZE, ZF, ZG, ZH, ZI, ZJ, setAll, gv0, gv1, gl0, gl0o, gl0d, gl1, gf0, gf1, go0, go1, argsOf, W5, W6, W7, W8, W9, Za, Zb, Zc, Zd, Ze, Zf, Zg, Zh, Zi, Zj, Nat.reduceAdd, Nat.reduceSub]); (try simp only [b16x2, List.length_map, Zk, Nat.zero_add, Nat.sub_self, Nat.add_zero, Nat.sub_zero, Int.one_mul, Int.toNat_natCast])
  refine ⟨⟨by decide, by omega⟩, ⟨by decide, by exact qlb (by assumption), by omega, by exact q2N (by assumption)⟩, ?_⟩
  rw [show (2 : Int) * (half : Int) = ((2 * half : Nat) : Int) by exact (Int.natCast_mul _ _).symm, h, range_by _ _ (by omega), range_by_len _ _ (by omega)]
  have hq' : q ≤ 2 * half * q := Nat.le_mul_of_pos_left _ (by omega)
  refine ⟨by omega, ?_⟩
  let g : List (Fr2 n) → Nat → List (Fr2 n) := fun xs i => (List.range half).foldl (fun xs t => flyF n (2 * half * i + t) (2 * half * i + half + t) ((step * t : Nat) : Int) xs) xs
  have glen : ∀ ys i, (g ys i).length = ys.length := fun ys i => foldl_len (fun zs t => flyF_len ..) _ _
  refine forW_inv (fun i σ D' => D' = D ∧ i ≤ q ∧ ∃ l6 l7 l8 l9, σ = [row, .v (.int (n : Int)), .v (.int (w : Int)), .own (((List.range i).foldl g xs).map (rg w n)), .v (.int (half : Int)), .v (.int (step : Int)), l6, l7, l8, l9]) _ 0 _ _ ⟨rfl, by exact Nat.zero_le _, _, _, _, _, rfl⟩ ?_ ?_
  · rintro i x σ D' K' _ hxx ⟨rfl, hi', l6, l7, l8, l9, rfl⟩ hK' _
    obtain ⟨hi, rfl⟩ := map_at hxx
    rw [Nat.sub_zero] at hi ⊢
    have ylen : ((List.range i).foldl g xs).length = 2 * half * q := by rw [foldl_len glen, h]
    have hib : 2 * half * i + 2 * half ≤ 2 * half * q := by rw [← Nat.mul_succ]; exact Nat.mul_le_mul_left _ hi
    rw [List.range_succ, List.foldl_append, List.foldl_cons, List.foldl_nil] at hK'
    generalize (List.range i).foldl g xs = ys at *
    (try dsimp only [b16x1, nv, Wa, Wb, Wc, Wd, We, Wf, Wg, Wh, Wi, Wj, Wk, Wl, Wm, Wn, Wo, Wp, Wq, Wr, Ws, Wt, Wu, Wv, Ww, Wx, Wy, Wz, WA, WB, WC, WD, WE, WF, WG, WH, WI, WJ, WK, WL, WM, WN, WO, WP, WQ, WR, WS, WT, WU, WV, WW, WX, WY, WZ, W0, W1, W2, W3, W4, Zk, Zl, Zm, Zn, Zo, Zp, Zq, Zr, Zs, Zt, Zu, Zv, Zw, Zx, Zy, Zz, ZA, ZB, ZC, ZD, ZE, ZF, ZG, ZH, ZI, ZJ, setAll, gv0, gv1, gl0, gl0o, gl0d, gl1, gf0, gf1, go0, go1, argsOf, W5, W6, W7, W8, W9, Za, Zb, Zc, Zd, Ze, Zf, Zg, Zh, Zi, Zj, Nat.reduceAdd, Nat.reduceSub]); (try simp only [b16x1, nv, Zk, Nat.zero_add, Nat.sub_self, Nat.add_zero, Nat.sub_zero, Int.one_mul, Int.toNat_natCast])
    rw [range_up, List.length_map, List.length_range]
    refine ⟨by omega, by omega, ?_⟩
    refine forW_inv (fun t σ D'' => D'' = D' ∧ t ≤ half ∧ ∃ l7 l8 l9, σ = [row, .v (.int (n : Int)), .v (.int (w : Int)), .own (((List.range t).foldl (fun xs t => flyF n (2 * half * i + t) (2 * half * i + half + t) ((step * t : Nat) : Int) xs) ys).map (rg w n)), .v (.int (half : Int)), .v (.int (step : Int)), .v (.int ((2 * half * i : Nat) : Int)), l7, l8, l9]) _ 0 _ _ ⟨rfl, by exact Nat.zero_le _, _, _, _, rfl⟩ ?_ ?_
    · rintro t x σ D'' K'' _ hxx ⟨rfl, ht', l7, l8, l9, rfl⟩ hK'' _
      obtain ⟨ht, rfl⟩ := map_at hxx
      rw [Nat.sub_zero] at ht ⊢
      have zlen : ((List.range t).foldl (fun xs t => flyF n (2 * half * i + t) (2 * half * i + half + t) ((step * t : Nat) : Int) xs) ys).length = 2 * half * q := by rw [foldl_len fun zs t => flyF_len .., ylen]
      rw [List.range_succ, List.foldl_append, List.foldl_cons, List.foldl_nil] at hK''
      generalize (List.range t).foldl (fun xs t => flyF n (2 * half * i + t) (2 * half * i + half + t) ((step * t : Nat) : Int) xs) ys = zs at *
      simp only [ZI, List.set_cons_zero, List.set_cons_succ, nv]
      exact fly_F X hN hw hn (by omega) (by omega) (by exact qba (by assumption)) fun l8 l9 => hK'' _ _ ⟨rfl, ht, _, _, _, rfl⟩
    · rintro σ D'' ⟨rfl, ht', l7, l8, l9, rfl⟩
      simp only [List.length_map, List.length_range, Nat.zero_add]
      (try dsimp only [Wa, Wb, Wc, Wd, We, Wf, Wg, Wh, Wi, Wj, Wk, Wl, Wm, Wn, Wo, Wp, Wq, Wr, Ws, Wt, Wu, Wv, Ww, Wx, Wy, Wz, WA, WB, WC, WD, WE, WF, WG, WH, WI, WJ, WK, WL, WM, WN, WO, WP, WQ, WR, WS, WT, WU, WV, WW, WX, WY, WZ, W0, W1, W2, W3, W4, Zk, Zl, Zm, Zn, Zo, Zp, Zq, Zr, Zs, Zt, Zu, Zv, Zw, Zx, Zy, Zz, ZA, ZB, ZC, ZD, ZE, ZF, ZG, ZH, ZI, ZJ, setAll, gv0, gv1, gl0, gl0o, gl0d, gl1, gf0, gf1, go0, go1, argsOf, W5, W6, W7, W8, W9, Za, Zb, Zc, Zd, Ze, Zf, Zg, Zh, Zi, Zj, Nat.reduceAdd, Nat.reduceSub]); (try simp only [Zk, Nat.zero_add, Nat.sub_self, Nat.add_zero, Nat.sub_zero, Int.one_mul, Int.toNat_natCast])
      exact hK' _ _ ⟨rfl, hi, _, _, _, _, rfl⟩
  · rintro σ D' ⟨rfl, hi', l6, l7, l8, l9, rfl⟩
    simp only [List.length_map, List.length_range, Nat.zero_add]
    (try dsimp only [Wa, Wb, Wc, Wd, We, Wf, Wg, Wh, Wi, Wj, Wk, Wl, Wm, Wn, Wo, Wp, Wq, Wr, Ws, Wt, Wu, Wv, Ww, Wx, Wy, Wz, WA, WB, WC, WD, WE, WF, WG, WH, WI, WJ, WK, WL, WM, WN, WO, WP, WQ, WR, WS, WT, WU, WV, WW, WX, WY, WZ, W0, W1, W2, W3, W4, Zk, Zl, Zm, Zn, Zo, Zp, Zq, Zr, Zs, Zt, Zu, Zv, Zw, Zx, Zy, Zz, ZA, ZB, ZC, ZD, ZE, ZF, ZG, ZH, ZI, ZJ, setAll, gv0, gv1, gl0, gl0o, gl0d, gl1, gf0, gf1, go0, go1, argsOf, W5, W6, W7, W8, W9, Za, Zb, Zc, Zd, Ze, Zf, Zg, Zh, Zi, Zj, Nat.reduceAdd, Nat.reduceSub]); (try simp only [Zk, Nat.zero_add, Nat.sub_self, Nat.add_zero, Nat.sub_zero, Int.one_mul, Int.toNat_natCast])
    refine ⟨⟨by decide, by decide⟩, ⟨by decide, by exact q64b (by assumption)⟩, ?_⟩
    rw [show (2 : Int) = ((2 : Nat) : Int) from rfl, fdiv_nat, show ((2 : Nat) : Int) * (step : Int) = ((2 * step : Nat) : Int) by exact (Int.natCast_mul _ _).symm]
    exact hK _ _ _ _
theorem lay_B (X : Txt G0 fa) (hN : 6 ≤ N) (hw : 1 ≤ w ∧ w ≤ 9) (hn : 1 ≤ n ∧ n ≤ 100) {xs : List (Fr2 n)} {half step q : Nat} {row l5 l6 l7 l8 l9 l10 l11 : Sl} (hh : 1 ≤ half) (hq : 1 ≤ q) (h : xs.length = 2 * half * q) (hl : xs.length < 1000) (hs : n / half = step)
    {K : Fl → Sg → DS → Prop} (hK : ∀ l6 l7 l8 l9, K .next [row, .v (.int (n : Int)), .v (.int (w : Int)), .own ((layB n half step q xs).map (rg w n)), .v (.int ((2 * half : Nat) : Int)), .v (.int (step : Int)), l6, l7, l8, l9, l10, l11] D) :
    wpSs (CallOK prog w0 G0 d fa N) b17x2 [row, .v (.int (n : Int)), .v (.int (w : Int)), .own (xs.map (rg w n)), .v (.int (half : Int)), l5, l6, l7, l8, l9, l10, l11] D K := by
  have lim' := lim_eq
  have hh2 : 2 * half ≤ xs.length := by rw [h]; exact Nat.le_mul_of_pos_right _ hq
  (try dsimp only [b17x2, Wa, Wb, Wc, Wd, We, Wf, Wg, Wh, Wi, Wj, Wk, Wl, Wm, Wn, Wo, Wp, Wq, Wr, Ws, Wt, Wu, Wv, Ww, Wx, Wy, Wz, WA, WB, WC, WD, WE, WF, WG, WH, WI, WJ, WK, WL, WM, WN, WO, WP, WQ, WR, WS, WT, WU, WV, WW, WX, WY, WZ, W0, W1, W2, W3, W4, Zk, Zl, Zm, Zn, Zo, Zp, Zq, Zr, Zs, Zt, Zu, Zv, Zw, Zx, Zy, Zz, ZA, ZB, ZC, ZD, ZE, ZF, ZG, ZH, ZI, ZJ, setAll, gv0, gv1, gl0, gl0o, gl0d, gl1, gf0, gf1, go0, go1, argsOf, W5, W6, W7, W8, W9, Za, Zb, Zc, Zd, Ze, Zf, Zg, Zh, Zi, Zj, Nat.reduceAdd, Nat.reduceSub]); (try simp only [b17x2, List.length_map, Zk, Nat.zero_add, Nat.sub_self, Nat.add_zero, Nat.sub_zero, Int.one_mul, Int.toNat_natCast])
  have hsl : n / half ≤ n := Nat.div_le_self _ _
  rw [fdiv_nat, hs]
  refine ⟨⟨by exact qN0 (by assumption), by omega⟩, ⟨by decide, by omega⟩, ⟨by decide, by exact qlb (by assumption), by omega, by exact q2N (by assumption)⟩, ?_⟩
  rw [show (2 : Int) * (half : Int) = ((2 * half : Nat) : Int) by exact (Int.natCast_mul _ _).symm, h, range_by _ _ (by omega), range_by_len _ _ (by omega)]
  have hq' : q ≤ 2 * half * q := Nat.le_mul_of_pos_left _ (by omega)
  refine ⟨by omega, ?_⟩
  let g : List (Fr2 n) → Nat → List (Fr2 n) := fun xs i => (List.range half).foldl (fun xs t => flyB n (2 * half * i + t) (2 * half * i + half + t) (-(step : Int) * (t : Int)) xs) xs
  have glen : ∀ ys i, (g ys i).length = ys.length := fun ys i => foldl_len (fun zs t => flyB_len ..) _ _
  refine forW_inv (fun i σ D' => D' = D ∧ i ≤ q ∧ ∃ l6 l7 l8 l9, σ = [row, .v (.int (n : Int)), .v (.int (w : Int)), .own (((List.range i).foldl g xs).map (rg w n)), .v (.int (half : Int)), .v (.int (step : Int)), l6, l7, l8, l9, l10, l11]) _ 0 _ _ ⟨rfl, by exact Nat.zero_le _, _, _, _, _, rfl⟩ ?_ ?_
  · rintro i x σ D' K' _ hxx ⟨rfl, hi', l6, l7, l8, l9, rfl⟩ hK' _
    obtain ⟨hi, rfl⟩ := map_at hxx
    rw [Nat.sub_zero] at hi ⊢
    have ylen : ((List.range i).foldl g xs).length = 2 * half * q := by rw [foldl_len glen, h]
    have hib : 2 * half * i + 2 * half ≤ 2 * half * q := by rw [← Nat.mul_succ]; exact Nat.mul_le_mul_left _ hi
    rw [List.range_succ, List.foldl_append, List.foldl_cons, List.foldl_nil] at hK'
    generalize (List.range i).foldl g xs = ys at *
    (try dsimp only [b17x1, nv, Wa, Wb, Wc, Wd, We, Wf, Wg, Wh, Wi, Wj, Wk, Wl, Wm, Wn, Wo, Wp, Wq, Wr, Ws, Wt, Wu, Wv, Ww, Wx, Wy, Wz, WA, WB, WC, WD, WE, WF, WG, WH, WI, WJ, WK, WL, WM, WN, WO, WP, WQ, WR, WS, WT, WU, WV, WW, WX, WY, WZ, W0, W1, W2, W3, W4, Zk, Zl, Zm, Zn, Zo, Zp, Zq, Zr, Zs, Zt, Zu, Zv, Zw, Zx, Zy, Zz, ZA, ZB, ZC, ZD, ZE, ZF, ZG, ZH, ZI, ZJ, setAll, gv0, gv1, gl0, gl0o, gl0d, gl1, gf0, gf1, go0, go1, argsOf, W5, W6, W7, W8, W9, Za, Zb, Zc, Zd, Ze, Zf, Zg, Zh, Zi, Zj, Nat.reduceAdd, Nat.reduceSub]); (try simp only [b17x1, nv, Zk, Nat.zero_add, Nat.sub_self, Nat.add_zero, Nat.sub_zero, Int.one_mul, Int.toNat_natCast])
    rw [range_up, List.length_map, List.length_range]
    refine ⟨by omega, by omega, ?_⟩
    refine forW_inv (fun t σ D'' => D'' = D' ∧ t ≤ half ∧ ∃ l7 l8 l9, σ = [row, .v (.int (n : Int)), .v (.int (w : Int)), .own (((List.range t).foldl (fun xs t => flyB n (2 * half * i + t) (2 * half * i + half + t) (-(step : Int) * (t : Int)) xs) ys).map (rg w n)), .v (.int (half : Int)), .v (.int (step : Int)), .v (.int ((2 * half * i : Nat) : Int)), l7, l8, l9, l10, l11]) _ 0 _ _ ⟨rfl, by exact Nat.zero_le _, _, _, _, rfl⟩ ?_ ?_
    · rintro t x σ D'' K'' _ hxx ⟨rfl, ht', l7, l8, l9, rfl⟩ hK'' _
      obtain ⟨ht, rfl⟩ := map_at hxx
      rw [Nat.sub_zero] at ht ⊢
      have zlen : ((List.range t).foldl (fun xs t => flyB n (2 * half * i + t) (2 * half * i + half + t) (-(step : Int) * (t : Int)) xs) ys).length = 2 * half * q := by rw [foldl_len fun zs t => flyB_len .., ylen]
      rw [List.range_succ, List.foldl_append, List.foldl_cons, List.foldl_nil] at hK''
      generalize (List.range t).foldl (fun xs t => flyB n (2 * half * i + t) (2 * half * i + half + t) (-(step : Int) * (t : Int)) xs) ys = zs at *
      simp only [ZI, List.set_cons_zero, List.set_cons_succ, nv]
      exact fly_B X hN hw hn (by omega) (by omega) (by omega) fun l8 l9 => hK'' _ _ ⟨rfl, ht, _, _, _, rfl⟩
    · rintro σ D'' ⟨rfl, ht', l7, l8, l9, rfl⟩
      simp only [List.length_map, List.length_range, Nat.zero_add]
      (try dsimp only [Wa, Wb, Wc, Wd, We, Wf, Wg, Wh, Wi, Wj, Wk, Wl, Wm, Wn, Wo, Wp, Wq, Wr, Ws, Wt, Wu, Wv, Ww, Wx, Wy, Wz, WA, WB, WC, WD, WE, WF, WG, WH, WI, WJ, WK, WL, WM, WN, WO, WP, WQ, WR, WS, WT, WU, WV, WW, WX, WY, WZ, W0, W1, W2, W3, W4, Zk, Zl, Zm, Zn, Zo, Zp, Zq, Zr, Zs, Zt, Zu, Zv, Zw, Zx, Zy, Zz, ZA, ZB, ZC, ZD, ZE, ZF, ZG, ZH, ZI, ZJ, setAll, gv0, gv1, gl0, gl0o, gl0d, gl1, gf0, gf1, go0, go1, argsOf, W5, W6, W7, W8, W9, Za, Zb, Zc, Zd, Ze, Zf, Zg, Zh, Zi, Zj, Nat.reduceAdd, Nat.reduceSub]); (try simp only [Zk, Nat.zero_add, Nat.sub_self, Nat.add_zero, Nat.sub_zero, Int.one_mul, Int.toNat_natCast])
      exact hK' _ _ ⟨rfl, hi, _, _, _, _, rfl⟩
  · rintro σ D' ⟨rfl, hi', l6, l7, l8, l9, rfl⟩
    simp only [List.length_map, List.length_range, Nat.zero_add]
    (try dsimp only [Wa, Wb, Wc, Wd, We, Wf, Wg, Wh, Wi, Wj, Wk, Wl, Wm, Wn, Wo, Wp, Wq, Wr, Ws, Wt, Wu, Wv, Ww, Wx, Wy, Wz, WA, WB, WC, WD, WE, WF, WG, WH, WI, WJ, WK, WL, WM, WN, WO, WP, WQ, WR, WS, WT, WU, WV, WW, WX, WY, WZ, W0, W1, W2, W3, W4, Zk, Zl, Zm, Zn, Zo, Zp, Zq, Zr, Zs, Zt, Zu, Zv, Zw, Zx, Zy, Zz, ZA, ZB, ZC, ZD, ZE, ZF, ZG, ZH, ZI, ZJ, setAll, gv0, gv1, gl0, gl0o, gl0d, gl1, gf0, gf1, go0, go1, argsOf, W5, W6, W7, W8, W9, Za, Zb, Zc, Zd, Ze, Zf, Zg, Zh, Zi, Zj, Nat.reduceAdd, Nat.reduceSub]); (try simp only [Zk, Nat.zero_add, Nat.sub_self, Nat.add_zero, Nat.sub_zero, Int.one_mul, Int.toNat_natCast])
    refine ⟨⟨by decide, by omega⟩, ?_⟩
    rw [show (2 : Int) * (half : Int) = ((2 * half : Nat) : Int) by exact (Int.natCast_mul _ _).symm]
    exact hK _ _ _ _

theorem c_forward (X : Txt G0 fa) (hN : 7 ≤ N) (hw : 1 ≤ w ∧ w ≤ 9) (hn : 1 ≤ n ∧ n ≤ 8) {xs : List (Fr2 n)} {e : Nat} (he : e ≤ 3) (hl : xs.length = 2 ^ e) (hQ : Q (rows w n (fwdL n e (2 * n / 2 ^ e) xs)) D) :
    CallOK prog w0 G0 d fa N 16 [rows w n xs, .int (n : Int), .int (w : Int)] D Q := by
  refine CallOK.mono (fn_sound X.gl X.hall (N := 6) (F := fn16) (X.at_ 16 (by decide)) rfl good16 rfl ?_) hN fun _ _ h => h
  have lim' := lim_eq
  have hp := Nat.pow_pos (n := e) (show 0 < 2 by decide)
  have hp8 : 2 ^ e ≤ 8 := Nat.pow_le_pow_right (n := 2) (by decide) he
  (try dsimp only [fn16, mini16, Wa, Wb, Wc, Wd, We, Wf, Wg, Wh, Wi, Wj, Wk, Wl, Wm, Wn, Wo, Wp, Wq, Wr, Ws, Wt, Wu, Wv, Ww, Wx, Wy, Wz, WA, WB, WC, WD, WE, WF, WG, WH, WI, WJ, WK, WL, WM, WN, WO, WP, WQ, WR, WS, WT, WU, WV, WW, WX, WY, WZ, W0, W1, W2, W3, W4, Zk, Zl, Zm, Zn, Zo, Zp, Zq, Zr, Zs, Zt, Zu, Zv, Zw, Zx, Zy, Zz, ZA, ZB, ZC, ZD, ZE, ZF, ZG, ZH, ZI, ZJ, setAll, gv0, gv1, gl0, gl0o, gl0d, gl1, gf0, gf1, go0, go1, argsOf, W5, W6, W7, W8, W9, Za, Zb, Zc, Zd, Ze, Zf, Zg, Zh, Zi, Zj, Nat.reduceAdd, Nat.reduceSub]); (try simp only [fn16, mini16, List.length_map, Zk, Nat.zero_add, Nat.sub_self, Nat.add_zero, Nat.sub_zero, Int.one_mul, Int.toNat_natCast])
  rw [hl, show (2 : Int) * (n : Int) = ((2 * n : Nat) : Int) by exact (Int.natCast_mul _ _).symm, fdiv_nat, show (2 : Int) = ((2 : Nat) : Int) from rfl, fdiv_nat]
  have hd : 2 * n / 2 ^ e ≤ 2 * n := Nat.div_le_self _ _
  refine ⟨⟨by decide, by decide⟩, ⟨by decide, by exact q64c (by assumption)⟩, ⟨by exact qN0 (by assumption), by exact q64a (by assumption)⟩, ?_⟩
  refine whileW_inv (fun k σ D' => D' = D ∧ k ≤ e ∧ ∃ (ys : List (Fr2 n)) (st : Nat) (l6 l7 l8 l9 : Sl), ys.length = 2 ^ e ∧ st * 2 ^ k ≤ 16 ∧ fwdL n k st ys = fwdL n e (2 * n / 2 ^ e) xs ∧
    σ = [.v (rows w n xs), .v (.int (n : Int)), .v (.int (w : Int)), .own (ys.map (rg w n)), .v (.int ((2 ^ k / 2 : Nat) : Int)), .v (.int (st : Int)), l6, l7, l8, l9]) ?_ (n := e) ⟨rfl, by omega, xs, 2 * n / 2 ^ e, _, _, _, _, hl, Nat.le_trans (Nat.div_mul_le_self _ _) (by omega), rfl, rfl⟩
  rintro k σ D' K ⟨rfl, hk, ys, st, l6, l7, l8, l9, hyl, hst, hf, rfl⟩ hK _
  (try dsimp only [c16x0, Wa, Wb, Wc, Wd, We, Wf, Wg, Wh, Wi, Wj, Wk, Wl, Wm, Wn, Wo, Wp, Wq, Wr, Ws, Wt, Wu, Wv, Ww, Wx, Wy, Wz, WA, WB, WC, WD, WE, WF, WG, WH, WI, WJ, WK, WL, WM, WN, WO, WP, WQ, WR, WS, WT, WU, WV, WW, WX, WY, WZ, W0, W1, W2, W3, W4, Zk, Zl, Zm, Zn, Zo, Zp, Zq, Zr, Zs, Zt, Zu, Zv, Zw, Zx, Zy, Zz, ZA, ZB, ZC, ZD, ZE, ZF, ZG, ZH, ZI, ZJ, setAll, gv0, gv1, gl0, gl0o, gl0d, gl1, gf0, gf1, go0, go1, argsOf, W5, W6, W7, W8, W9, Za, Zb, Zc, Zd, Ze, Zf, Zg, Zh, Zi, Zj, Nat.reduceAdd, Nat.reduceSub]); (try simp only [c16x0, Zk, Nat.zero_add, Nat.sub_self, Nat.add_zero, Nat.sub_zero, Int.one_mul, Int.toNat_natCast])
  cases k with
  | zero =>
    rw [show decide (((2 ^ 0 / 2 : Nat) : Int) > 0) = false from rfl]
    rw [fwdL] at hf
    (try dsimp only [Wa, Wb, Wc, Wd, We, Wf, Wg, Wh, Wi, Wj, Wk, Wl, Wm, Wn, Wo, Wp, Wq, Wr, Ws, Wt, Wu, Wv, Ww, Wx, Wy, Wz, WA, WB, WC, WD, WE, WF, WG, WH, WI, WJ, WK, WL, WM, WN, WO, WP, WQ, WR, WS, WT, WU, WV, WW, WX, WY, WZ, W0, W1, W2, W3, W4, Zk, Zl, Zm, Zn, Zo, Zp, Zq, Zr, Zs, Zt, Zu, Zv, Zw, Zx, Zy, Zz, ZA, ZB, ZC, ZD, ZE, ZF, ZG, ZH, ZI, ZJ, setAll, gv0, gv1, gl0, gl0o, gl0d, gl1, gf0, gf1, go0, go1, argsOf, W5, W6, W7, W8, W9, Za, Zb, Zc, Zd, Ze, Zf, Zg, Zh, Zi, Zj, Nat.reduceAdd, Nat.reduceSub]); (try simp only [Zk, Nat.zero_add, Nat.sub_self, Nat.add_zero, Nat.sub_zero, Int.one_mul, Int.toNat_natCast])
    rw [hf]; exact hQ
  | succ k =>
    have hkp := Nat.pow_pos (n := k) (show 0 < 2 by decide)
    have e1 : 2 ^ (k + 1) / 2 = 2 ^ k := by rw [Nat.pow_succ]; omega
    rw [e1]
    rw [show decide (((2 ^ k : Nat) : Int) > 0) = true by simp only [decide_eq_true_eq]; omega]
    (try dsimp only [Wa, Wb, Wc, Wd, We, Wf, Wg, Wh, Wi, Wj, Wk, Wl, Wm, Wn, Wo, Wp, Wq, Wr, Ws, Wt, Wu, Wv, Ww, Wx, Wy, Wz, WA, WB, WC, WD, WE, WF, WG, WH, WI, WJ, WK, WL, WM, WN, WO, WP, WQ, WR, WS, WT, WU, WV, WW, WX, WY, WZ, W0, W1, W2, W3, W4, Zk, Zl, Zm, Zn, Zo, Zp, Zq, Zr, Zs, Zt, Zu, Zv, Zw, Zx, Zy, Zz, ZA, ZB, ZC, ZD, ZE, ZF, ZG, ZH, ZI, ZJ, setAll, gv0, gv1, gl0, gl0o, gl0d, gl1, gf0, gf1, go0, go1, argsOf, W5, W6, W7, W8, W9, Za, Zb, Zc, Zd, Ze, Zf, Zg, Zh, Zi, Zj, Nat.reduceAdd, Nat.reduceSub]); (try simp only [Zk, Nat.zero_add, Nat.sub_self, Nat.add_zero, Nat.sub_zero, Int.one_mul, Int.toNat_natCast])
    obtain ⟨r, hr⟩ := Nat.pow_dvd_pow 2 hk
    have hqe : ys.length / 2 ^ (k + 1) = r := by rw [hyl, hr]; exact Nat.mul_div_cancel_left _ (by exact Nat.pow_pos (by decide))
    have hst2 : st ≤ 16 := Nat.le_trans (Nat.le_mul_of_pos_right _ (Nat.pow_pos (by decide))) hst
    have hr0 : 1 ≤ r := by
      rcases Nat.eq_zero_or_pos r with h | h
      · rw [h, Nat.mul_zero] at hr; omega
      · exact h
    refine lay_F X (by decide) hw (by exact qcc (by assumption)) (q := r) hkp hr0 (by rw [hyl, hr, Nat.pow_succ, Nat.mul_comm 2]) (by omega) (by exact qda (by assumption)) fun l6 l7 l8 l9 => ?_
    refine hK k _ _ (Nat.lt_succ_self k) ⟨rfl, by exact Nat.le_of_lt (by assumption), layF n (2 ^ k) st r ys, 2 * st, l6, l7, l8, l9, by rw [layF_len]; exact hyl, by rw [Nat.pow_succ, ← Nat.mul_assoc] at hst; rw [Nat.mul_assoc, Nat.mul_comm 2]; exact hst, ?_, rfl⟩
    rw [fwdL, hqe] at hf
    exact hf

theorem c_backward (X : Txt G0 fa) (hN : 7 ≤ N) (hw : 1 ≤ w ∧ w ≤ 9) (hn : 1 ≤ n ∧ n ≤ 8) {xs : List (Fr2 n)} {e : Nat} (he : e ≤ 3) (hl : xs.length = 2 ^ e) (hQ : Q (rows w n ((bwdL n e 1 xs).map fun x => x * U n (-(e : Int)))) D) :
    CallOK prog w0 G0 d fa N 17 [rows w n xs, .int (n : Int), .int (w : Int)] D Q := by
  refine CallOK.mono (fn_sound X.gl X.hall (N := 6) (F := fn17) (X.at_ 17 (by decide)) rfl good17 rfl ?_) hN fun _ _ h => h
  have lim' := lim_eq
  have hp := Nat.pow_pos (n := e) (show 0 < 2 by decide)
  have hp8 : 2 ^ e ≤ 8 := Nat.pow_le_pow_right (n := 2) (by decide) he
  (try dsimp only [fn17, mini17, Wa, Wb, Wc, Wd, We, Wf, Wg, Wh, Wi, Wj, Wk, Wl, Wm, Wn, Wo, Wp, Wq, Wr, Ws, Wt, Wu, Wv, Ww, Wx, Wy, Wz, WA, WB, WC, WD, WE, WF, WG, WH, WI, WJ, WK, WL, WM, WN, WO, WP, WQ, WR, WS, WT, WU, WV, WW, WX, WY, WZ, W0, W1, W2, W3, W4, Zk, Zl, Zm, Zn, Zo, Zp, Zq, Zr, Zs, Zt, Zu, Zv, Zw, Zx, Zy, Zz, ZA, ZB, ZC, ZD, ZE, ZF, ZG, ZH, ZI, ZJ, setAll, gv0, gv1, gl0, gl0o, gl0d, gl1, gf0, gf1, go0, go1, argsOf, W5, W6, W7, W8, W9, Za, Zb, Zc, Zd, Ze, Zf, Zg, Zh, Zi, Zj, Nat.reduceAdd, Nat.reduceSub]); (try simp only [fn17, mini17, List.length_map, Zk, Nat.zero_add, Nat.sub_self, Nat.add_zero, Nat.sub_zero, Int.one_mul, Int.toNat_natCast])
  refine whileW_inv (fun k σ D' => D' = D ∧ k ≤ e ∧ ∃ (ys : List (Fr2 n)) (half : Nat) (l5 l6 l7 l8 l9 : Sl), ys.length = 2 ^ e ∧ 2 ^ e = half * 2 ^ k ∧ bwdL n k half ys = bwdL n e 1 xs ∧
    σ = [.v (rows w n xs), .v (.int (n : Int)), .v (.int (w : Int)), .own (ys.map (rg w n)), .v (.int (half : Int)), l5, l6, l7, l8, l9, .un, .un]) ?_ (n := e) ⟨rfl, by omega, xs, 1, _, _, _, _, _, hl, by omega, rfl, rfl⟩
  rintro k σ D' K ⟨rfl, hk, ys, half, l5, l6, l7, l8, l9, hyl, hst, hf, rfl⟩ hK _
  (try dsimp only [c17x0, Wa, Wb, Wc, Wd, We, Wf, Wg, Wh, Wi, Wj, Wk, Wl, Wm, Wn, Wo, Wp, Wq, Wr, Ws, Wt, Wu, Wv, Ww, Wx, Wy, Wz, WA, WB, WC, WD, WE, WF, WG, WH, WI, WJ, WK, WL, WM, WN, WO, WP, WQ, WR, WS, WT, WU, WV, WW, WX, WY, WZ, W0, W1, W2, W3, W4, Zk, Zl, Zm, Zn, Zo, Zp, Zq, Zr, Zs, Zt, Zu, Zv, Zw, Zx, Zy, Zz, ZA, ZB, ZC, ZD, ZE, ZF, ZG, ZH, ZI, ZJ, setAll, gv0, gv1, gl0, gl0o, gl0d, gl1, gf0, gf1, go0, go1, argsOf, W5, W6, W7, W8, W9, Za, Zb, Zc, Zd, Ze, Zf, Zg, Zh, Zi, Zj, Nat.reduceAdd, Nat.reduceSub]); (try simp only [c17x0, List.length_map, Zk, Nat.zero_add, Nat.sub_self, Nat.add_zero, Nat.sub_zero, Int.one_mul, Int.toNat_natCast])
  cases k with
  | zero =>
    rw [show decide ((half : Int) < (ys.length : Int)) = false by simp only [decide_eq_false_iff_not]; omega]
    rw [bwdL] at hf
    (try dsimp only [Wa, Wb, Wc, Wd, We, Wf, Wg, Wh, Wi, Wj, Wk, Wl, Wm, Wn, Wo, Wp, Wq, Wr, Ws, Wt, Wu, Wv, Ww, Wx, Wy, Wz, WA, WB, WC, WD, WE, WF, WG, WH, WI, WJ, WK, WL, WM, WN, WO, WP, WQ, WR, WS, WT, WU, WV, WW, WX, WY, WZ, W0, W1, W2, W3, W4, Zk, Zl, Zm, Zn, Zo, Zp, Zq, Zr, Zs, Zt, Zu, Zv, Zw, Zx, Zy, Zz, ZA, ZB, ZC, ZD, ZE, ZF, ZG, ZH, ZI, ZJ, setAll, gv0, gv1, gl0, gl0o, gl0d, gl1, gf0, gf1, go0, go1, argsOf, W5, W6, W7, W8, W9, Za, Zb, Zc, Zd, Ze, Zf, Zg, Zh, Zi, Zj, Nat.reduceAdd, Nat.reduceSub]); (try simp only [List.length_map, Zk, Nat.zero_add, Nat.sub_self, Nat.add_zero, Nat.sub_zero, Int.one_mul, Int.toNat_natCast])
    refine ⟨by omega, ?_⟩
    have e2 : ((Builtin.Int.intBits ((xs.length : Nat) : Int) : Nat) : Int) - 1 = (e : Int) := by
      rw [hl]
      unfold Builtin.Int.intBits
      rw [if_neg (by rw [beq_iff_eq]; omega), Int.natAbs_natCast, Nat.log2_two_pow]
      omega
    rw [e2]
    refine compW_mapL _ (fun x => rg w n (x * U n (-(e : Int)))) ys (fun y hy K hK => ?_) ?_
    · (try dsimp only [e17x0, Wa, Wb, Wc, Wd, We, Wf, Wg, Wh, Wi, Wj, Wk, Wl, Wm, Wn, Wo, Wp, Wq, Wr, Ws, Wt, Wu, Wv, Ww, Wx, Wy, Wz, WA, WB, WC, WD, WE, WF, WG, WH, WI, WJ, WK, WL, WM, WN, WO, WP, WQ, WR, WS, WT, WU, WV, WW, WX, WY, WZ, W0, W1, W2, W3, W4, Zk, Zl, Zm, Zn, Zo, Zp, Zq, Zr, Zs, Zt, Zu, Zv, Zw, Zx, Zy, Zz, ZA, ZB, ZC, ZD, ZE, ZF, ZG, ZH, ZI, ZJ, setAll, gv0, gv1, gl0, gl0o, gl0d, gl1, gf0, gf1, go0, go1, argsOf, W5, W6, W7, W8, W9, Za, Zb, Zc, Zd, Ze, Zf, Zg, Zh, Zi, Zj, Nat.reduceAdd, Nat.reduceSub]); (try simp only [e17x0, Zk, Nat.zero_add, Nat.sub_self, Nat.add_zero, Nat.sub_zero, Int.one_mul, Int.toNat_natCast])
      exact c_rshift X (by decide) hw (by exact qcc (by assumption)) hK
    · rw [rows, List.map_map] at hQ
      rw [hf]
      exact hQ
  | succ k =>
    have hkp := Nat.pow_pos (n := k) (show 0 < 2 by decide)
    have hh0 : 1 ≤ half := by
      rcases Nat.eq_zero_or_pos half with h | h
      · rw [h, Nat.zero_mul] at hst; omega
      · exact h
    rw [Nat.pow_succ, Nat.mul_comm (2 ^ k), ← Nat.mul_assoc, Nat.mul_comm half] at hst
    have hlt : half < 2 ^ e := by
      rw [hst]
      have : 2 * half * 1 ≤ 2 * half * 2 ^ k := Nat.mul_le_mul_left _ hkp
      omega
    rw [show decide ((half : Int) < (ys.length : Int)) = true by simp only [decide_eq_true_eq]; omega]
    (try dsimp only [Wa, Wb, Wc, Wd, We, Wf, Wg, Wh, Wi, Wj, Wk, Wl, Wm, Wn, Wo, Wp, Wq, Wr, Ws, Wt, Wu, Wv, Ww, Wx, Wy, Wz, WA, WB, WC, WD, WE, WF, WG, WH, WI, WJ, WK, WL, WM, WN, WO, WP, WQ, WR, WS, WT, WU, WV, WW, WX, WY, WZ, W0, W1, W2, W3, W4, Zk, Zl, Zm, Zn, Zo, Zp, Zq, Zr, Zs, Zt, Zu, Zv, Zw, Zx, Zy, Zz, ZA, ZB, ZC, ZD, ZE, ZF, ZG, ZH, ZI, ZJ, setAll, gv0, gv1, gl0, gl0o, gl0d, gl1, gf0, gf1, go0, go1, argsOf, W5, W6, W7, W8, W9, Za, Zb, Zc, Zd, Ze, Zf, Zg, Zh, Zi, Zj, Nat.reduceAdd, Nat.reduceSub]); (try simp only [Zk, Nat.zero_add, Nat.sub_self, Nat.add_zero, Nat.sub_zero, Int.one_mul, Int.toNat_natCast])
    refine lay_B X (by decide) hw (by exact qcc (by assumption)) (q := 2 ^ k) hh0 hkp (by rw [hyl, hst]) (by omega) rfl fun l6 l7 l8 l9 => ?_
    refine hK k _ _ (Nat.lt_succ_self k) ⟨rfl, by exact Nat.le_of_lt (by assumption), layB n half (n / half) (2 ^ k) ys, 2 * half, _, l6, l7, l8, l9, by rw [layB_len]; exact hyl, hst, ?_, rfl⟩
    rw [bwdL] at hf
    exact hf

noncomputable def convL (n e : Nat) (xs ys : List (Fr2 n)) : List (Fr2 n) := (bwdL n e 1 (((fwdL n e (2 * n / 2 ^ e) xs).zip (fwdL n e (2 * n / 2 ^ e) ys)).map fun x => x.1 * x.2)).map fun x => x * U n (-(e : Int))
theorem fwdL_len (n : Nat) : ∀ (e st : Nat) (xs : List (Fr2 n)), (fwdL n e st xs).length = xs.length
  | 0, _, _ => rfl
  | e + 1, st, xs => by rw [fwdL, fwdL_len n e, layF_len]

theorem c_convolved (X : Txt G0 fa) (hN : 8 ≤ N) (hw : 1 ≤ w ∧ w ≤ 9) (hn : 1 ≤ n ∧ n ≤ 8) {xs ys : List (Fr2 n)} {e : Nat} (he : e ≤ 3) (hx : xs.length = 2 ^ e) (hy : ys.length = 2 ^ e) (hQ : Q (rows w n (convL n e xs ys)) D) :
    CallOK prog w0 G0 d fa N 18 [rows w n xs, rows w n ys, .int (n : Int), .int (w : Int), .fn 26] D Q := by
  refine CallOK.mono (fn_sound X.gl X.hall (N := 7) (F := fn18) (X.at_ 18 (by decide)) rfl good18 rfl ?_) hN fun _ _ h => h
  have lim' := lim_eq
  have hp8 : 2 ^ e ≤ 8 := Nat.pow_le_pow_right (n := 2) (by decide) he
  (try dsimp only [fn18, mini18, Wa, Wb, Wc, Wd, We, Wf, Wg, Wh, Wi, Wj, Wk, Wl, Wm, Wn, Wo, Wp, Wq, Wr, Ws, Wt, Wu, Wv, Ww, Wx, Wy, Wz, WA, WB, WC, WD, WE, WF, WG, WH, WI, WJ, WK, WL, WM, WN, WO, WP, WQ, WR, WS, WT, WU, WV, WW, WX, WY, WZ, W0, W1, W2, W3, W4, Zk, Zl, Zm, Zn, Zo, Zp, Zq, Zr, Zs, Zt, Zu, Zv, Zw, Zx, Zy, Zz, ZA, ZB, ZC, ZD, ZE, ZF, ZG, ZH, ZI, ZJ, setAll, gv0, gv1, gl0, gl0o, gl0d, gl1, gf0, gf1, go0, go1, argsOf, W5, W6, W7, W8, W9, Za, Zb, Zc, Zd, Ze, Zf, Zg, Zh, Zi, Zj, Nat.reduceAdd, Nat.reduceSub]); (try simp only [fn18, mini18, List.length_map, Zk, Nat.zero_add, Nat.sub_self, Nat.add_zero, Nat.sub_zero, Int.one_mul, Int.toNat_natCast])
  refine c_forward X (by decide) hw hn he hx ?_
  refine c_forward X (by decide) hw hn he hy ?_
  (try dsimp only [Wa, Wb, Wc, Wd, We, Wf, Wg, Wh, Wi, Wj, Wk, Wl, Wm, Wn, Wo, Wp, Wq, Wr, Ws, Wt, Wu, Wv, Ww, Wx, Wy, Wz, WA, WB, WC, WD, WE, WF, WG, WH, WI, WJ, WK, WL, WM, WN, WO, WP, WQ, WR, WS, WT, WU, WV, WW, WX, WY, WZ, W0, W1, W2, W3, W4, Zk, Zl, Zm, Zn, Zo, Zp, Zq, Zr, Zs, Zt, Zu, Zv, Zw, Zx, Zy, Zz, ZA, ZB, ZC, ZD, ZE, ZF, ZG, ZH, ZI, ZJ, setAll, gv0, gv1, gl0, gl0o, gl0d, gl1, gf0, gf1, go0, go1, argsOf, W5, W6, W7, W8, W9, Za, Zb, Zc, Zd, Ze, Zf, Zg, Zh, Zi, Zj, Nat.reduceAdd, Nat.reduceSub]); (try simp only [Zk, Nat.zero_add, Nat.sub_self, Nat.add_zero, Nat.sub_zero, Int.one_mul, Int.toNat_natCast])
  rw [zip_maps]
  refine ⟨by simp [fwdL_len]; omega, ?_⟩
  refine compW_mapL _ (fun x => rg w n (x.1 * x.2)) _ (fun y hym K hK => ?_) ?_
  · (try dsimp only [e18x0, Wa, Wb, Wc, Wd, We, Wf, Wg, Wh, Wi, Wj, Wk, Wl, Wm, Wn, Wo, Wp, Wq, Wr, Ws, Wt, Wu, Wv, Ww, Wx, Wy, Wz, WA, WB, WC, WD, WE, WF, WG, WH, WI, WJ, WK, WL, WM, WN, WO, WP, WQ, WR, WS, WT, WU, WV, WW, WX, WY, WZ, W0, W1, W2, W3, W4, Zk, Zl, Zm, Zn, Zo, Zp, Zq, Zr, Zs, Zt, Zu, Zv, Zw, Zx, Zy, Zz, ZA, ZB, ZC, ZD, ZE, ZF, ZG, ZH, ZI, ZJ, setAll, gv0, gv1, gl0, gl0o, gl0d, gl1, gf0, gf1, go0, go1, argsOf, W5, W6, W7, W8, W9, Za, Zb, Zc, Zd, Ze, Zf, Zg, Zh, Zi, Zj, Nat.reduceAdd, Nat.reduceSub]); (try simp only [e18x0, Zk, Nat.zero_add, Nat.sub_self, Nat.add_zero, Nat.sub_zero, Int.one_mul, Int.toNat_natCast])
    exact c_rmul X (by decide) hw (by exact qcc (by assumption)) hK
  · have e3 : ((fwdL n e (2 * n / 2 ^ e) xs).zip (fwdL n e (2 * n / 2 ^ e) ys)).map (fun x => rg w n (x.1 * x.2)) = (((fwdL n e (2 * n / 2 ^ e) xs).zip (fwdL n e (2 * n / 2 ^ e) ys)).map fun x => x.1 * x.2).map (rg w n) := by rw [List.map_map]; rfl
    rw [e3]
    exact c_backward X (by decide) hw hn he (by simp [fwdL_len, hx, hy]) hQ
end
end Mine
end

section
namespace Mine
open Lean.Grind

section
variable {n : Nat}
/-- the value of a row at a point -/
noncomputable def ev (p : Fr2 n) : List (Fr2 n) → Fr2 n
  | [] => 0
  | x :: r => x + p * ev p r

theorem U_pow (hn : 1 ≤ n) (a : Int) (i : Nat) : U n (a * (i : Int)) = U n a ^ i := by
  induction i with
  | zero => rw [Int.natCast_zero, Int.mul_zero, U_zero, Semiring.pow_zero]
  | succ i ih => rw [Int.natCast_succ, Int.mul_add, Int.mul_one, U_add hn, ih, Semiring.pow_succ]
theorem U_inv (hn : 1 ≤ n) (a : Int) : U n a * U n (-a) = 1 := by rw [← U_add hn, Int.add_right_neg, U_zero]

theorem ev_wgt' (hn : 1 ≤ n) (p : Fr2 n) (s : Int) : ∀ (xs : List (Fr2 n)) (k : Nat), ev p ((xs.zipIdx k).map fun x => x.1 * U n (s * (x.2 : Int))) = U n s ^ k * ev (U n s * p) xs
  | [], k => by simp only [List.zipIdx_nil, List.map_nil, ev]; grind
  | x :: r, k => by
    rw [List.zipIdx_cons, List.map_cons, ev, ev, ev_wgt' hn p s r (k + 1), U_pow hn, Semiring.pow_succ]
    grind
theorem ev_wgt (hn : 1 ≤ n) (p : Fr2 n) (s : Int) (xs : List (Fr2 n)) : ev p (wgt n s xs) = ev (U n s * p) xs := by
  rw [wgt, ev_wgt' hn, Semiring.pow_zero]; grind

theorem fwd0 (st : Nat) (x0 : Fr2 n) : fwdL n 0 st [x0] = [x0] := rfl

theorem layF1 (hn : 1 ≤ n) (st : Nat) (x0 x1 : Fr2 n) : layF n 1 st 1 [x0, x1] = [x0 + x1, x0 - x1] := by
  simp [layF, flyF, List.range, List.range.loop, U_zero, Semiring.mul_one]
theorem layF12 (hn : 1 ≤ n) (st : Nat) (x0 x1 x2 x3 : Fr2 n) : layF n 1 st 2 [x0, x1, x2, x3] = [x0 + x1, x0 - x1, x2 + x3, x2 - x3] := by
  simp [layF, flyF, List.range, List.range.loop, U_zero, Semiring.mul_one]
theorem layF14 (hn : 1 ≤ n) (st : Nat) (x0 x1 x2 x3 x4 x5 x6 x7 : Fr2 n) : layF n 1 st 4 [x0, x1, x2, x3, x4, x5, x6, x7] = [x0 + x1, x0 - x1, x2 + x3, x2 - x3, x4 + x5, x4 - x5, x6 + x7, x6 - x7] := by
  simp [layF, flyF, List.range, List.range.loop, U_zero, Semiring.mul_one]
theorem layF21 (hn : 1 ≤ n) (st : Nat) (x0 x1 x2 x3 : Fr2 n) : layF n 2 st 1 [x0, x1, x2, x3] = [x0 + x2, x1 + x3, x0 - x2, (x1 - x3) * U n st] := by
  simp [layF, flyF, List.range, List.range.loop, U_zero, Semiring.mul_one]
theorem layF22 (hn : 1 ≤ n) (st : Nat) (x0 x1 x2 x3 x4 x5 x6 x7 : Fr2 n) : layF n 2 st 2 [x0, x1, x2, x3, x4, x5, x6, x7] = [x0 + x2, x1 + x3, x0 - x2, (x1 - x3) * U n st, x4 + x6, x5 + x7, x4 - x6, (x5 - x7) * U n st] := by
  simp [layF, flyF, List.range, List.range.loop, U_zero, Semiring.mul_one]
theorem layF41 (hn : 1 ≤ n) (st : Nat) (x0 x1 x2 x3 x4 x5 x6 x7 : Fr2 n) : layF n 4 st 1 [x0, x1, x2, x3, x4, x5, x6, x7] = [x0 + x4, x1 + x5, x2 + x6, x3 + x7, x0 - x4, (x1 - x5) * U n st, (x2 - x6) * U n ((st * 2 : Nat) : Int), (x3 - x7) * U n ((st * 3 : Nat) : Int)] := by
  simp [layF, flyF, List.range, List.range.loop, U_zero, Semiring.mul_one]
theorem layB1 (hn : 1 ≤ n) (st : Nat) (x0 x1 : Fr2 n) : layB n 1 st 1 [x0, x1] = [x0 + x1, x0 - x1] := by
  simp [layB, flyB, List.range, List.range.loop, U_zero, Semiring.mul_one]
theorem layB12 (hn : 1 ≤ n) (st : Nat) (x0 x1 x2 x3 : Fr2 n) : layB n 1 st 2 [x0, x1, x2, x3] = [x0 + x1, x0 - x1, x2 + x3, x2 - x3] := by
  simp [layB, flyB, List.range, List.range.loop, U_zero, Semiring.mul_one]
theorem layB14 (hn : 1 ≤ n) (st : Nat) (x0 x1 x2 x3 x4 x5 x6 x7 : Fr2 n) : layB n 1 st 4 [x0, x1, x2, x3, x4, x5, x6, x7] = [x0 + x1, x0 - x1, x2 + x3, x2 - x3, x4 + x5, x4 - x5, x6 + x7, x6 - x7] := by
  simp [layB, flyB, List.range, List.range.loop, U_zero, Semiring.mul_one]
theorem layB21 (hn : 1 ≤ n) (st : Nat) (x0 x1 x2 x3 : Fr2 n) : layB n 2 st 1 [x0, x1, x2, x3] = [x0 + x2, x1 + x3 * U n (-(st : Int)), x0 - x2, x1 - x3 * U n (-(st : Int))] := by
  simp [layB, flyB, List.range, List.range.loop, U_zero, Semiring.mul_one]
theorem layB22 (hn : 1 ≤ n) (st : Nat) (x0 x1 x2 x3 x4 x5 x6 x7 : Fr2 n) : layB n 2 st 2 [x0, x1, x2, x3, x4, x5, x6, x7] = [x0 + x2, x1 + x3 * U n (-(st : Int)), x0 - x2, x1 - x3 * U n (-(st : Int)), x4 + x6, x5 + x7 * U n (-(st : Int)), x4 - x6, x5 - x7 * U n (-(st : Int))] := by
  simp [layB, flyB, List.range, List.range.loop, U_zero, Semiring.mul_one]
theorem layB41 (hn : 1 ≤ n) (st : Nat) (x0 x1 x2 x3 x4 x5 x6 x7 : Fr2 n) : layB n 4 st 1 [x0, x1, x2, x3, x4, x5, x6, x7] = [x0 + x4, x1 + x5 * U n (-(st : Int)), x2 + x6 * U n (-(st : Int) * 2), x3 + x7 * U n (-(st : Int) * 3), x0 - x4, x1 - x5 * U n (-(st : Int)), x2 - x6 * U n (-(st : Int) * 2), x3 - x7 * U n (-(st : Int) * 3)] := by
  simp [layB, flyB, List.range, List.range.loop, U_zero, Semiring.mul_one]

theorem tr8 : (List.range 8).map (fun k => tr 10 k 8 0) = [0, 4, 2, 6, 1, 5, 3, 7] := by decide
theorem tr4 : (List.range 4).map (fun k => tr 10 k 4 0) = [0, 2, 1, 3] := by decide
theorem tr2 : (List.range 2).map (fun k => tr 10 k 2 0) = [0, 1] := by decide
theorem tr1 : (List.range 1).map (fun k => tr 10 k 1 0) = [0] := by decide
theorem fwd1 (hn : 1 ≤ n) (st : Nat) (h : st = n) (x0 x1 : Fr2 n) : fwdL n 1 st [x0, x1] = [0, 1].map fun k => ev (U n st ^ k) [x0, x1] := by
  have e1 : U n st = -1 := by rw [h, U_n hn]
  simp only [fwdL, List.length_cons, List.length_nil, Nat.reduceAdd, Nat.reducePow, Nat.reduceDiv, layF1 hn, layF12 hn, layF14 hn, layF21 hn, layF22 hn, layF41 hn, e1]
  simp only [List.map_cons, List.map_nil, ev, List.cons.injEq, and_true]
  refine ⟨?_, ?_⟩ <;> grind
theorem fwd2 (hn : 1 ≤ n) (st : Nat) (h : 2 * st = n) (x0 x1 x2 x3 : Fr2 n) : fwdL n 2 st [x0, x1, x2, x3] = [0, 2, 1, 3].map fun k => ev (U n st ^ k) [x0, x1, x2, x3] := by
  have e1 : U n st ^ 2 = -1 := by rw [← U_pow hn, show (st : Int) * ((2 : Nat) : Int) = (n : Int) by omega, U_n hn]
  simp only [fwdL, List.length_cons, List.length_nil, Nat.reduceAdd, Nat.reducePow, Nat.reduceDiv, layF1 hn, layF12 hn, layF14 hn, layF21 hn, layF22 hn, layF41 hn]
  generalize U n st = r at *
  simp only [List.map_cons, List.map_nil, ev, List.cons.injEq, and_true]
  refine ⟨?_, ?_, ?_, ?_⟩ <;> grind
theorem fwd3 (hn : 1 ≤ n) (st : Nat) (h : 4 * st = n) (x0 x1 x2 x3 x4 x5 x6 x7 : Fr2 n) : fwdL n 3 st [x0, x1, x2, x3, x4, x5, x6, x7] = [0, 4, 2, 6, 1, 5, 3, 7].map fun k => ev (U n st ^ k) [x0, x1, x2, x3, x4, x5, x6, x7] := by
  have e2 : U n ((st * 2 : Nat) : Int) = U n st ^ 2 := by rw [Int.natCast_mul]; exact U_pow hn _ _
  have e3 : U n ((st * 3 : Nat) : Int) = U n st ^ 3 := by rw [Int.natCast_mul]; exact U_pow hn _ _
  have e2' : U n ((2 * st : Nat) : Int) = U n st ^ 2 := by rw [Nat.mul_comm]; exact e2
  have e4 : U n st ^ 4 = -1 := by rw [← U_pow hn, show (st : Int) * ((4 : Nat) : Int) = (n : Int) by omega, U_n hn]
  simp only [fwdL, List.length_cons, List.length_nil, Nat.reduceAdd, Nat.reducePow, Nat.reduceDiv, layF1 hn, layF12 hn, layF14 hn, layF21 hn, layF22 hn, layF41 hn, e2, e3, e2']
  generalize U n st = r at *
  simp only [List.map_cons, List.map_nil, ev, List.cons.injEq, and_true]
  refine ⟨?_, ?_, ?_, ?_, ?_, ?_, ?_, ?_⟩ <;> grind
end
end Mine
end

section
set_option maxRecDepth 100000
namespace Mine
open Lean.Grind

section
variable {n : Nat}
noncomputable def dueRow (n m : Nat) (T : Fr2 n) (i : Nat) (x : Fr2 n) (ys D : List (Fr2 n)) : List (Fr2 n) :=
  ys.zipIdx.foldl (fun D y => D.set ((i + y.2) % m) (D.getD ((i + y.2) % m) 0 + x * y.1 * (if m ≤ i + y.2 then T else 1))) D
/-- the product of two rows, what lies beyond the end times T -/
noncomputable def dueL (n m : Nat) (T : Fr2 n) (xs ys : List (Fr2 n)) : List (Fr2 n) :=
  xs.zipIdx.foldl (fun D x => dueRow n m T x.2 x.1 ys D) (List.replicate m 0)

theorem U_two : U n 1 = 1 + 1 ∨ n = 0 := by
  by_cases h : n = 0
  · exact .inr h
  · left
    rw [show (1 : Int) = ((1 : Nat) : Int) from rfl, U_nat (by omega), show 2 ^ 1 = 1 + 1 from rfl, on_add, on_one]
theorem U_num (hn : 1 ≤ n) : U n 1 = 1 + 1 := by
  rcases @U_two n with h | h
  · exact h
  · omega

theorem row1_0 (T x : Fr2 n) (d0 y0 : Fr2 n) : dueRow n 1 T 0 x [y0] [d0] = [d0 + x * y0] := by simp [dueRow, Semiring.mul_one]
theorem due1 (T : Fr2 n) (x0 y0 : Fr2 n) : dueL n 1 T [x0] [y0] = [0 + x0 * y0] := by
  simp only [dueL, List.zipIdx_cons, List.zipIdx_nil, List.foldl_cons, List.foldl_nil, Nat.reduceAdd, Nat.zero_add, List.replicate_succ, List.replicate_zero, row1_0]
theorem evc1 (p : Fr2 n) (h : p ^ 1 = 1) (x0 y0 : Fr2 n) : ev p (dueL n 1 1 [x0] [y0]) = ev p [x0] * ev p [y0] := by
  rw [due1]
  simp only [ev]
  grind
theorem told1 (hn : 1 ≤ n) (s : Int) (x0 y0 : Fr2 n) : wgt n (-s) (dueL n 1 1 (wgt n s [x0]) (wgt n s [y0])) = dueL n 1 (U n (s * ((1 : Nat) : Int))) [x0] [y0] := by
  have h := U_inv hn s
  simp only [wgt, List.zipIdx_cons, List.zipIdx_nil, List.map_cons, List.map_nil, Nat.reduceAdd, due1, U_pow hn]
  generalize U n s = t at *
  generalize U n (-s) = u at *
  simp only [List.cons.injEq, and_true]
  grind
theorem row2_0 (T x : Fr2 n) (d0 d1 y0 y1 : Fr2 n) : dueRow n 2 T 0 x [y0, y1] [d0, d1] = [d0 + x * y0, d1 + x * y1] := by simp [dueRow, Semiring.mul_one]
theorem row2_1 (T x : Fr2 n) (d0 d1 y0 y1 : Fr2 n) : dueRow n 2 T 1 x [y0, y1] [d0, d1] = [d0 + x * y1 * T, d1 + x * y0] := by simp [dueRow, Semiring.mul_one]
theorem due2 (T : Fr2 n) (x0 x1 y0 y1 : Fr2 n) : dueL n 2 T [x0, x1] [y0, y1] = [0 + x0 * y0 + x1 * y1 * T, 0 + x0 * y1 + x1 * y0] := by
  simp only [dueL, List.zipIdx_cons, List.zipIdx_nil, List.foldl_cons, List.foldl_nil, Nat.reduceAdd, Nat.zero_add, List.replicate_succ, List.replicate_zero, row2_0, row2_1]
theorem evc2 (p : Fr2 n) (h : p ^ 2 = 1) (x0 x1 y0 y1 : Fr2 n) : ev p (dueL n 2 1 [x0, x1] [y0, y1]) = ev p [x0, x1] * ev p [y0, y1] := by
  rw [due2]
  simp only [ev]
  grind
theorem told2 (hn : 1 ≤ n) (s : Int) (x0 x1 y0 y1 : Fr2 n) : wgt n (-s) (dueL n 2 1 (wgt n s [x0, x1]) (wgt n s [y0, y1])) = dueL n 2 (U n (s * ((2 : Nat) : Int))) [x0, x1] [y0, y1] := by
  have h := U_inv hn s
  simp only [wgt, List.zipIdx_cons, List.zipIdx_nil, List.map_cons, List.map_nil, Nat.reduceAdd, due2, U_pow hn]
  generalize U n s = t at *
  generalize U n (-s) = u at *
  simp only [List.cons.injEq, and_true]
  refine ⟨?_, ?_⟩ <;> grind
theorem row4_0 (T x : Fr2 n) (d0 d1 d2 d3 y0 y1 y2 y3 : Fr2 n) : dueRow n 4 T 0 x [y0, y1, y2, y3] [d0, d1, d2, d3] = [d0 + x * y0, d1 + x * y1, d2 + x * y2, d3 + x * y3] := by simp [dueRow, Semiring.mul_one]
theorem row4_1 (T x : Fr2 n) (d0 d1 d2 d3 y0 y1 y2 y3 : Fr2 n) : dueRow n 4 T 1 x [y0, y1, y2, y3] [d0, d1, d2, d3] = [d0 + x * y3 * T, d1 + x * y0, d2 + x * y1, d3 + x * y2] := by simp [dueRow, Semiring.mul_one]
theorem row4_2 (T x : Fr2 n) (d0 d1 d2 d3 y0 y1 y2 y3 : Fr2 n) : dueRow n 4 T 2 x [y0, y1, y2, y3] [d0, d1, d2, d3] = [d0 + x * y2 * T, d1 + x * y3 * T, d2 + x * y0, d3 + x * y1] := by simp [dueRow, Semiring.mul_one]
theorem row4_3 (T x : Fr2 n) (d0 d1 d2 d3 y0 y1 y2 y3 : Fr2 n) : dueRow n 4 T 3 x [y0, y1, y2, y3] [d0, d1, d2, d3] = [d0 + x * y1 * T, d1 + x * y2 * T, d2 + x * y3 * T, d3 + x * y0] := by simp [dueRow, Semiring.mul_one]
theorem due4 (T : Fr2 n) (x0 x1 x2 x3 y0 y1 y2 y3 : Fr2 n) : dueL n 4 T [x0, x1, x2, x3] [y0, y1, y2, y3] = [0 + x0 * y0 + x1 * y3 * T + x2 * y2 * T + x3 * y1 * T, 0 + x0 * y1 + x1 * y0 + x2 * y3 * T + x3 * y2 * T, 0 + x0 * y2 + x1 * y1 + x2 * y0 + x3 * y3 * T, 0 + x0 * y3 + x1 * y2 + x2 * y1 + x3 * y0] := by
  simp only [dueL, List.zipIdx_cons, List.zipIdx_nil, List.foldl_cons, List.foldl_nil, Nat.reduceAdd, Nat.zero_add, List.replicate_succ, List.replicate_zero, row4_0, row4_1, row4_2, row4_3]
theorem evc4 (p : Fr2 n) (h : p ^ 4 = 1) (x0 x1 x2 x3 y0 y1 y2 y3 : Fr2 n) : ev p (dueL n 4 1 [x0, x1, x2, x3] [y0, y1, y2, y3]) = ev p [x0, x1, x2, x3] * ev p [y0, y1, y2, y3] := by
  rw [due4]
  simp only [ev]
  grind
theorem told4 (hn : 1 ≤ n) (s : Int) (x0 x1 x2 x3 y0 y1 y2 y3 : Fr2 n) : wgt n (-s) (dueL n 4 1 (wgt n s [x0, x1, x2, x3]) (wgt n s [y0, y1, y2, y3])) = dueL n 4 (U n (s * ((4 : Nat) : Int))) [x0, x1, x2, x3] [y0, y1, y2, y3] := by
  have h := U_inv hn s
  simp only [wgt, List.zipIdx_cons, List.zipIdx_nil, List.map_cons, List.map_nil, Nat.reduceAdd, due4, U_pow hn]
  generalize U n s = t at *
  generalize U n (-s) = u at *
  simp only [List.cons.injEq, and_true]
  refine ⟨?_, ?_, ?_, ?_⟩ <;> grind
theorem row8_0 (T x : Fr2 n) (d0 d1 d2 d3 d4 d5 d6 d7 y0 y1 y2 y3 y4 y5 y6 y7 : Fr2 n) : dueRow n 8 T 0 x [y0, y1, y2, y3, y4, y5, y6, y7] [d0, d1, d2, d3, d4, d5, d6, d7] = [d0 + x * y0, d1 + x * y1, d2 + x * y2, d3 + x * y3, d4 + x * y4, d5 + x * y5, d6 + x * y6, d7 + x * y7] := by simp [dueRow, Semiring.mul_one]
theorem row8_1 (T x : Fr2 n) (d0 d1 d2 d3 d4 d5 d6 d7 y0 y1 y2 y3 y4 y5 y6 y7 : Fr2 n) : dueRow n 8 T 1 x [y0, y1, y2, y3, y4, y5, y6, y7] [d0, d1, d2, d3, d4, d5, d6, d7] = [d0 + x * y7 * T, d1 + x * y0, d2 + x * y1, d3 + x * y2, d4 + x * y3, d5 + x * y4, d6 + x * y5, d7 + x * y6] := by simp [dueRow, Semiring.mul_one]
theorem row8_2 (T x : Fr2 n) (d0 d1 d2 d3 d4 d5 d6 d7 y0 y1 y2 y3 y4 y5 y6 y7 : Fr2 n) : dueRow n 8 T 2 x [y0, y1, y2, y3, y4, y5, y6, y7] [d0, d1, d2, d3, d4, d5, d6, d7] = [d0 + x * y6 * T, d1 + x * y7 * T, d2 + x * y0, d3 + x * y1, d4 + x * y2, d5 + x * y3, d6 + x * y4, d7 + x * y5] := by simp [dueRow, Semiring.mul_one]
theorem row8_3 (T x : Fr2 n) (d0 d1 d2 d3 d4 d5 d6 d7 y0 y1 y2 y3 y4 y5 y6 y7 : Fr2 n) : dueRow n 8 T 3 x [y0, y1, y2, y3, y4, y5, y6, y7] [d0, d1, d2, d3, d4, d5, d6, d7] = [d0 + x * y5 * T, d1 + x * y6 * T, d2 + x * y7 * T, d3 + x * y0, d4 + x * y1, d5 + x * y2, d6 + x * y3, d7 + x * y4] := by simp [dueRow, Semiring.mul_one]
theorem row8_4 (T x : Fr2 n) (d0 d1 d2 d3 d4 d5 d6 d7 y0 y1 y2 y3 y4 y5 y6 y7 : Fr2 n) : dueRow n 8 T 4 x [y0, y1, y2, y3, y4, y5, y6, y7] [d0, d1, d2, d3, d4, d5, d6, d7] = [d0 + x * y4 * T, d1 + x * y5 * T, d2 + x * y6 * T, d3 + x * y7 * T, d4 + x * y0, d5 + x * y1, d6 + x * y2, d7 + x * y3] := by simp [dueRow, Semiring.mul_one]
theorem row8_5 (T x : Fr2 n) (d0 d1 d2 d3 d4 d5 d6 d7 y0 y1 y2 y3 y4 y5 y6 y7 : Fr2 n) : dueRow n 8 T 5 x [y0, y1, y2, y3, y4, y5, y6, y7] [d0, d1, d2, d3, d4, d5, d6, d7] = [d0 + x * y3 * T, d1 + x * y4 * T, d2 + x * y5 * T, d3 + x * y6 * T, d4 + x * y7 * T, d5 + x * y0, d6 + x * y1, d7 + x * y2] := by simp [dueRow, Semiring.mul_one]
theorem row8_6 (T x : Fr2 n) (d0 d1 d2 d3 d4 d5 d6 d7 y0 y1 y2 y3 y4 y5 y6 y7 : Fr2 n) : dueRow n 8 T 6 x [y0, y1, y2, y3, y4, y5, y6, y7] [d0, d1, d2, d3, d4, d5, d6, d7] = [d0 + x * y2 * T, d1 + x * y3 * T, d2 + x * y4 * T, d3 + x * y5 * T, d4 + x * y6 * T, d5 + x * y7 * T, d6 + x * y0, d7 + x * y1] := by simp [dueRow, Semiring.mul_one]
theorem row8_7 (T x : Fr2 n) (d0 d1 d2 d3 d4 d5 d6 d7 y0 y1 y2 y3 y4 y5 y6 y7 : Fr2 n) : dueRow n 8 T 7 x [y0, y1, y2, y3, y4, y5, y6, y7] [d0, d1, d2, d3, d4, d5, d6, d7] = [d0 + x * y1 * T, d1 + x * y2 * T, d2 + x * y3 * T, d3 + x * y4 * T, d4 + x * y5 * T, d5 + x * y6 * T, d6 + x * y7 * T, d7 + x * y0] := by simp [dueRow, Semiring.mul_one]
theorem due8 (T : Fr2 n) (x0 x1 x2 x3 x4 x5 x6 x7 y0 y1 y2 y3 y4 y5 y6 y7 : Fr2 n) : dueL n 8 T [x0, x1, x2, x3, x4, x5, x6, x7] [y0, y1, y2, y3, y4, y5, y6, y7] = [0 + x0 * y0 + x1 * y7 * T + x2 * y6 * T + x3 * y5 * T + x4 * y4 * T + x5 * y3 * T + x6 * y2 * T + x7 * y1 * T, 0 + x0 * y1 + x1 * y0 + x2 * y7 * T + x3 * y6 * T + x4 * y5 * T + x5 * y4 * T + x6 * y3 * T + x7 * y2 * T, 0 + x0 * y2 + x1 * y1 + x2 * y0 + x3 * y7 * T + x4 * y6 * T + x5 * y5 * T + x6 * y4 * T + x7 * y3 * T, 0 + x0 * y3 + x1 * y2 + x2 * y1 + x3 * y0 + x4 * y7 * T + x5 * y6 * T + x6 * y5 * T + x7 * y4 * T, 0 + x0 * y4 + x1 * y3 + x2 * y2 + x3 * y1 + x4 * y0 + x5 * y7 * T + x6 * y6 * T + x7 * y5 * T, 0 + x0 * y5 + x1 * y4 + x2 * y3 + x3 * y2 + x4 * y1 + x5 * y0 + x6 * y7 * T + x7 * y6 * T, 0 + x0 * y6 + x1 * y5 + x2 * y4 + x3 * y3 + x4 * y2 + x5 * y1 + x6 * y0 + x7 * y7 * T, 0 + x0 * y7 + x1 * y6 + x2 * y5 + x3 * y4 + x4 * y3 + x5 * y2 + x6 * y1 + x7 * y0] := by
  simp only [dueL, List.zipIdx_cons, List.zipIdx_nil, List.foldl_cons, List.foldl_nil, Nat.reduceAdd, Nat.zero_add, List.replicate_succ, List.replicate_zero, row8_0, row8_1, row8_2, row8_3, row8_4, row8_5, row8_6, row8_7]
theorem evc8 (p : Fr2 n) (h : p ^ 8 = 1) (x0 x1 x2 x3 x4 x5 x6 x7 y0 y1 y2 y3 y4 y5 y6 y7 : Fr2 n) : ev p (dueL n 8 1 [x0, x1, x2, x3, x4, x5, x6, x7] [y0, y1, y2, y3, y4, y5, y6, y7]) = ev p [x0, x1, x2, x3, x4, x5, x6, x7] * ev p [y0, y1, y2, y3, y4, y5, y6, y7] := by
  rw [due8]
  simp only [ev]
  grind
theorem told8 (hn : 1 ≤ n) (s : Int) (x0 x1 x2 x3 x4 x5 x6 x7 y0 y1 y2 y3 y4 y5 y6 y7 : Fr2 n) : wgt n (-s) (dueL n 8 1 (wgt n s [x0, x1, x2, x3, x4, x5, x6, x7]) (wgt n s [y0, y1, y2, y3, y4, y5, y6, y7])) = dueL n 8 (U n (s * ((8 : Nat) : Int))) [x0, x1, x2, x3, x4, x5, x6, x7] [y0, y1, y2, y3, y4, y5, y6, y7] := by
  have h := U_inv hn s
  simp only [wgt, List.zipIdx_cons, List.zipIdx_nil, List.map_cons, List.map_nil, Nat.reduceAdd, due8, U_pow hn]
  generalize U n s = t at *
  generalize U n (-s) = u at *
  simp only [List.cons.injEq, and_true]
  refine ⟨?_, ?_, ?_, ?_, ?_, ?_, ?_, ?_⟩ <;> grind
end
end Mine
end

section
set_option maxRecDepth 100000
namespace Mine
open Lean.Grind

section
variable {n : Nat}
theorem bwd1 (hn : 1 ≤ n) (st : Nat) (h : st = n) (x0 x1 : Fr2 n) : bwdL n 1 1 (fwdL n 1 st [x0, x1]) = [x0, x1].map fun x => x * U n 1 := by
  simp only [fwdL, bwdL, List.length_cons, List.length_nil, Nat.reduceAdd, Nat.reducePow, Nat.reduceDiv, layF1 hn, layB1 hn, U_num hn]
  simp only [List.map_cons, List.map_nil, List.cons.injEq, and_true]
  refine ⟨?_, ?_⟩ <;> grind
theorem bwd2 (hn : 1 ≤ n) (st : Nat) (h : 2 * st = n) (x0 x1 x2 x3 : Fr2 n) : bwdL n 2 1 (fwdL n 2 st [x0, x1, x2, x3]) = [x0, x1, x2, x3].map fun x => x * U n 2 := by
  have e1 := U_inv hn st
  have e2 : U n 2 = (1 + 1) * (1 + 1) := by rw [← U_num hn, ← U_add hn]; rfl
  have e3 : n / 2 = st := by omega
  simp only [fwdL, bwdL, List.length_cons, List.length_nil, Nat.reduceAdd, Nat.reduceMul, Nat.reducePow, Nat.reduceDiv, layF1 hn, layF12 hn, layF21 hn, layB1 hn, layB12 hn, layB21 hn, e2, e3]
  generalize U n st = r at *
  generalize U n (-(st : Int)) = s at *
  simp only [List.map_cons, List.map_nil, List.cons.injEq, and_true]
  refine ⟨?_, ?_, ?_, ?_⟩ <;> grind
theorem bwd3 (hn : 1 ≤ n) (st : Nat) (h : 4 * st = n) (x0 x1 x2 x3 x4 x5 x6 x7 : Fr2 n) : bwdL n 3 1 (fwdL n 3 st [x0, x1, x2, x3, x4, x5, x6, x7]) = [x0, x1, x2, x3, x4, x5, x6, x7].map fun x => x * U n 3 := by
  have e1 := U_inv hn st
  have e2 : U n 3 = (1 + 1) * (1 + 1) * (1 + 1) := by rw [← U_num hn, ← U_add hn, ← U_add hn]; rfl
  have e3 : n / 4 = st := by omega
  have e4 : n / 2 = 2 * st := by omega
  have f2 : U n ((st * 2 : Nat) : Int) = U n st ^ 2 := by rw [Int.natCast_mul]; exact U_pow hn _ _
  have f3 : U n ((st * 3 : Nat) : Int) = U n st ^ 3 := by rw [Int.natCast_mul]; exact U_pow hn _ _
  have f2' : U n ((2 * st : Nat) : Int) = U n st ^ 2 := by rw [Nat.mul_comm]; exact f2
  have g2 : U n (-(st : Int) * 2) = U n (-(st : Int)) ^ 2 := U_pow hn (-(st : Int)) 2
  have g3 : U n (-(st : Int) * 3) = U n (-(st : Int)) ^ 3 := U_pow hn (-(st : Int)) 3
  have g2' : U n (-((2 * st : Nat) : Int)) = U n (-(st : Int)) ^ 2 := by rw [← g2]; congr 1; omega
  simp only [fwdL, bwdL, List.length_cons, List.length_nil, Nat.reduceAdd, Nat.reduceMul, Nat.reducePow, Nat.reduceDiv, layF14 hn, layF22 hn, layF41 hn, layB14 hn, layB22 hn, layB41 hn, e2, e3, e4, f2, f3, f2', g2, g3, g2']
  generalize U n st = r at *
  generalize U n (-(st : Int)) = s at *
  simp only [List.map_cons, List.map_nil, List.cons.injEq, and_true]
  refine ⟨?_, ?_, ?_, ?_, ?_, ?_, ?_, ?_⟩ <;> grind

theorem len8 {α : Type} {xs : List α} (h : xs.length = 8) : ∃ a b c d e f g i, xs = [a, b, c, d, e, f, g, i] := by
  obtain ⟨a, r, e1, h⟩ := lenS h; obtain ⟨b, r, e2, h⟩ := lenS h; obtain ⟨c, r, e3, h⟩ := lenS h; obtain ⟨d, e, f, g, i, h⟩ := len5 h
  exact ⟨a, b, c, d, e, f, g, i, by rw [e1, e2, e3, h]⟩

/-- the steps that the law builds -/
noncomputable def StOk (n e : Nat) : Prop := e = 0 ∨ 2 ^ e * (n / 2 ^ e) = n
theorem e_cases {e : Nat} (he : e ≤ 3) : e = 0 ∨ e = 1 ∨ e = 2 ∨ e = 3 := by omega

theorem map_tr {β : Type} {m : Nat} {is : List Nat} (h : (List.range m).map (fun k => tr 10 k m 0) = is) (f : Nat → β) : (List.range m).map (fun k => f (tr 10 k m 0)) = is.map f := by
  rw [← h, List.map_map]; rfl

/-- the step of the transform -/
noncomputable def sT (n e : Nat) : Nat := 2 * n / 2 ^ e
theorem fwd_ev (hn : 1 ≤ n) {e : Nat} (he : e ≤ 3) (ho : StOk n e) {xs : List (Fr2 n)} (hl : xs.length = 2 ^ e) :
    fwdL n e (sT n e) xs = (List.range (2 ^ e)).map fun k => ev (U n (sT n e) ^ tr 10 k (2 ^ e) 0) xs := by
  rcases e_cases he with rfl | rfl | rfl | rfl
  · obtain ⟨a, rfl⟩ := len1 hl
    show [a] = [ev _ [a]]
    simp only [ev, List.cons.injEq, and_true]
    grind
  · obtain ⟨a, b, rfl⟩ := len2 hl
    have hs : sT n 1 = n := by unfold sT; omega
    refine Eq.trans ?_ (map_tr tr2 fun k => ev (U n (sT n 1) ^ k) [a, b]).symm
    exact fwd1 hn _ hs a b
  · obtain ⟨a, b, c, d, rfl⟩ := len4 hl
    have hs : 2 * sT n 2 = n := by unfold sT; rcases ho with h | h <;> omega
    refine Eq.trans ?_ (map_tr tr4 fun k => ev (U n (sT n 2) ^ k) [a, b, c, d]).symm
    exact fwd2 hn _ hs a b c d
  · obtain ⟨x0, x1, x2, x3, x4, x5, x6, x7, rfl⟩ := len8 hl
    have hs : 4 * sT n 3 = n := by unfold sT; rcases ho with h | h <;> omega
    refine Eq.trans ?_ (map_tr tr8 fun k => ev (U n (sT n 3) ^ k) [x0, x1, x2, x3, x4, x5, x6, x7]).symm
    exact fwd3 hn _ hs x0 x1 x2 x3 x4 x5 x6 x7
theorem bwd_fwd (hn : 1 ≤ n) {e : Nat} (he : e ≤ 3) (ho : StOk n e) {xs : List (Fr2 n)} (hl : xs.length = 2 ^ e) :
    bwdL n e 1 (fwdL n e (sT n e) xs) = xs.map fun x => x * U n e := by
  rcases e_cases he with rfl | rfl | rfl | rfl
  · obtain ⟨a, rfl⟩ := len1 hl
    show [a] = [a * U n 0]
    rw [U_zero, Semiring.mul_one]
  · obtain ⟨a, b, rfl⟩ := len2 hl
    have hs : sT n 1 = n := by unfold sT; omega
    exact bwd1 hn _ hs a b
  · obtain ⟨a, b, c, d, rfl⟩ := len4 hl
    have hs : 2 * sT n 2 = n := by unfold sT; rcases ho with h | h <;> omega
    exact bwd2 hn _ hs a b c d
  · obtain ⟨x0, x1, x2, x3, x4, x5, x6, x7, rfl⟩ := len8 hl
    have hs : 4 * sT n 3 = n := by unfold sT; rcases ho with h | h <;> omega
    exact bwd3 hn _ hs x0 x1 x2 x3 x4 x5 x6 x7
theorem root_one (hn : 1 ≤ n) {e : Nat} (he : e ≤ 3) (ho : StOk n e) (k : Nat) : (U n (sT n e) ^ k) ^ 2 ^ e = 1 := by
  rw [← U_pow hn, ← U_pow hn]
  have e1 : (sT n e : Int) * (k : Int) * ((2 ^ e : Nat) : Int) = ((2 * n * k : Nat) : Int) := by
    have : sT n e * 2 ^ e = 2 * n := by
      unfold sT
      rcases e_cases he with rfl | rfl | rfl | rfl <;> rcases ho with h | h <;> omega
    rw [← this]
    push_cast
    grind
  rw [e1, U_nat hn, two_pow_mul]
theorem evc (hn : 1 ≤ n) {e : Nat} (he : e ≤ 3) (p : Fr2 n) (h : p ^ 2 ^ e = 1) {xs ys : List (Fr2 n)} (hx : xs.length = 2 ^ e) (hy : ys.length = 2 ^ e) : ev p (dueL n (2 ^ e) 1 xs ys) = ev p xs * ev p ys := by
  rcases e_cases he with rfl | rfl | rfl | rfl
  · obtain ⟨a, rfl⟩ := len1 hx
    obtain ⟨b, rfl⟩ := len1 hy
    exact evc1 p h a b
  · obtain ⟨a0, a1, rfl⟩ := len2 hx
    obtain ⟨b0, b1, rfl⟩ := len2 hy
    exact evc2 p h ..
  · obtain ⟨a0, a1, a2, a3, rfl⟩ := len4 hx
    obtain ⟨b0, b1, b2, b3, rfl⟩ := len4 hy
    exact evc4 p h ..
  · obtain ⟨a0, a1, a2, a3, a4, a5, a6, a7, rfl⟩ := len8 hx
    obtain ⟨b0, b1, b2, b3, b4, b5, b6, b7, rfl⟩ := len8 hy
    exact evc8 p h ..
theorem told (hn : 1 ≤ n) {e : Nat} (he : e ≤ 3) (s : Int) {xs ys : List (Fr2 n)} (hx : xs.length = 2 ^ e) (hy : ys.length = 2 ^ e) :
    wgt n (-s) (dueL n (2 ^ e) 1 (wgt n s xs) (wgt n s ys)) = dueL n (2 ^ e) (U n (s * ((2 ^ e : Nat) : Int))) xs ys := by
  rcases e_cases he with rfl | rfl | rfl | rfl
  · obtain ⟨a, rfl⟩ := len1 hx
    obtain ⟨b, rfl⟩ := len1 hy
    exact told1 hn ..
  · obtain ⟨a0, a1, rfl⟩ := len2 hx
    obtain ⟨b0, b1, rfl⟩ := len2 hy
    exact told2 hn ..
  · obtain ⟨a0, a1, a2, a3, rfl⟩ := len4 hx
    obtain ⟨b0, b1, b2, b3, rfl⟩ := len4 hy
    exact told4 hn ..
  · obtain ⟨a0, a1, a2, a3, a4, a5, a6, a7, rfl⟩ := len8 hx
    obtain ⟨b0, b1, b2, b3, b4, b5, b6, b7, rfl⟩ := len8 hy
    exact told8 hn ..
theorem dueRow_len (m : Nat) (T : Fr2 n) (i : Nat) (x : Fr2 n) (ys D : List (Fr2 n)) : (dueRow n m T i x ys D).length = D.length := foldl_len (fun ys i => by simp) _ _
theorem dueL_len (m : Nat) (T : Fr2 n) (xs ys : List (Fr2 n)) : (dueL n m T xs ys).length = m := by
  unfold dueL
  rw [foldl_len (fun D x => dueRow_len ..), List.length_replicate]
theorem wgt_len (s : Int) (xs : List (Fr2 n)) : (wgt n s xs).length = xs.length := by simp [wgt]
theorem conv_eq (hn : 1 ≤ n) {e : Nat} (he : e ≤ 3) (ho : StOk n e) {xs ys : List (Fr2 n)} (hx : xs.length = 2 ^ e) (hy : ys.length = 2 ^ e) : convL n e xs ys = dueL n (2 ^ e) 1 xs ys := by
  have hs : 2 * n / 2 ^ e = sT n e := rfl
  unfold convL
  rw [hs, fwd_ev hn he ho hx, fwd_ev hn he ho hy, List.zip_map, List.map_map]
  have hc := dueL_len (n := n) (2 ^ e) 1 xs ys
  have e1 : ((List.range (2 ^ e)).zip (List.range (2 ^ e))).map ((fun x : Fr2 n × Fr2 n => x.1 * x.2) ∘ Prod.map (fun k => ev (U n (sT n e) ^ tr 10 k (2 ^ e) 0) xs) (fun k => ev (U n (sT n e) ^ tr 10 k (2 ^ e) 0) ys)) = fwdL n e (sT n e) (dueL n (2 ^ e) 1 xs ys) := by
    rw [fwd_ev hn he ho hc, List.zip_eq_zipWith, List.zipWith_self, List.map_map]
    apply List.map_congr_left
    intro k _
    show ev _ xs * ev _ ys = _
    rw [evc hn he _ (root_one hn he ho _) hx hy]
  rw [e1, bwd_fwd hn he ho hc, List.map_map]
  conv => rhs; rw [← List.map_id (dueL n (2 ^ e) 1 xs ys)]
  apply List.map_congr_left
  intro x _
  show x * U n e * U n (-(e : Int)) = x
  rw [Semiring.mul_assoc, U_inv hn, Semiring.mul_one]
theorem round_eq (hn : 1 ≤ n) {e : Nat} (he : e ≤ 3) (ho : StOk n e) (s : Int) {xs ys : List (Fr2 n)} (hx : xs.length = 2 ^ e) (hy : ys.length = 2 ^ e) :
    wgt n (-s) (convL n e (wgt n s xs) (wgt n s ys)) = dueL n (2 ^ e) (U n (s * ((2 ^ e : Nat) : Int))) xs ys := by
  rw [conv_eq hn he ho (by rw [wgt_len, hx]) (by rw [wgt_len, hy]), told hn he s hx hy]
theorem values_eq (hn : 1 ≤ n) {e : Nat} (he : e ≤ 3) (ho : StOk n e) (s : Int) {xs : List (Fr2 n)} (hl : xs.length = 2 ^ e) :
    fwdL n e (sT n e) (wgt n s xs) = (List.range (2 ^ e)).map fun k => ev (U n (s + (sT n e : Int) * (tr 10 k (2 ^ e) 0 : Int))) xs := by
  rw [fwd_ev hn he ho (by rw [wgt_len, hl])]
  apply List.map_congr_left
  intro k _
  rw [ev_wgt hn, ← U_pow hn, ← U_add hn]
theorem wgt_inv (hn : 1 ≤ n) (s : Int) (xs : List (Fr2 n)) : wgt n (-s) (wgt n s xs) = xs := by
  have key : ∀ (xs : List (Fr2 n)) (k : Nat), ((((xs.zipIdx k).map fun x => x.1 * U n (s * (x.2 : Int))).zipIdx k).map fun x => x.1 * U n (-s * (x.2 : Int))) = xs := by
    intro xs
    induction xs with
    | nil => intro k; rfl
    | cons x r ih =>
      intro k
      rw [List.zipIdx_cons, List.map_cons, List.zipIdx_cons, List.map_cons, ih]
      congr 1
      rw [Semiring.mul_assoc, Int.neg_mul, U_inv hn, Semiring.mul_one]
  exact key xs 0
end
end Mine
end

section
open PySem PySem.W PyProof.Rows
set_option maxRecDepth 100000
namespace Mine
/-- a row's elements as whole numbers -/
noncomputable abbrev vals {n : Nat} (xs : List (Fr2 n)) : PV := .list (xs.map fun x => nv x.val)

theorem intsOf_nvs {α : Type} (f : α → Nat) (xs : List α) : intsOf (xs.map fun x => nv (f x)) = some (xs.map fun x => ((f x : Nat) : Int)) := by
  have := intsOf_nv (xs.map f)
  rw [List.map_map, List.map_map] at this
  exact this
theorem intsOf_ints {α : Type} (f : α → Int) (xs : List α) : intsOf (xs.map fun x => PV.int (f x)) = some (xs.map f) := by
  have := intsOf_map (xs.map f)
  rw [List.map_map] at this
  exact this

noncomputable def evN (n : Nat) (p : Fr2 n) : Nat → List (Fr2 n) → Int
  | _, [] => 0
  | k, x :: r => (x.val : Int) * (p.val : Int) ^ k + evN n p (k + 1) r
theorem evN_sum {n : Nat} (p : Fr2 n) : ∀ (xs : List (Fr2 n)) (k : Nat), ((xs.zipIdx k).map fun x => (x.1.val : Int) * (p.val : Int) ^ x.2).sum = evN n p k xs
  | [], k => rfl
  | x :: r, k => by rw [List.zipIdx_cons, List.map_cons, List.sum_cons, evN_sum p r (k + 1), evN]
theorem evN_ev {n : Nat} (p : Fr2 n) : ∀ (xs : List (Fr2 n)) (k : Nat), ∃ v : Nat, evN n p k xs = (v : Int) ∧ on n v = p ^ k * ev p xs
  | [], k => ⟨0, rfl, by rw [on_zero, ev]; grind⟩
  | x :: r, k => by
    obtain ⟨v, h1, h2⟩ := evN_ev p r (k + 1)
    refine ⟨x.val * p.val ^ k + v, ?_, ?_⟩
    · rw [evN, h1, Int.natCast_add, Int.natCast_mul, Int.natCast_pow]
    · rw [on_add, on_mul, on_pow, on_of_val, on_of_val, h2, ev, Lean.Grind.Semiring.pow_succ]
      grind
theorem ev_mod {n : Nat} (p : Fr2 n) (xs : List (Fr2 n)) : ((xs.zipIdx.map fun x => (x.1.val : Int) * (p.val : Int) ^ x.2).sum).fmod (2 ^ n + 1) = (((ev p xs).val : Nat) : Int) := by
  obtain ⟨v, h1, h2⟩ := evN_ev p xs 0
  rw [evN_sum, h1, ipow_nat, show ((2 ^ n : Nat) : Int) + 1 = ((2 ^ n + 1 : Nat) : Int) by exact (Int.natCast_add _ _).symm, fmod_nat, ← on_val, h2]
  congr 2
  rw [Lean.Grind.Semiring.pow_zero]; grind

section
variable {prog : Program} {w0 : World} {G0 : Frz} {d : Option Addr} {fa : Nat → Addr} {N : Nat} {w n : Nat} {D : DS} {Q : PV → DS → Prop}

theorem val_64 {n : Nat} (hn : n ≤ 20) (x : Fr2 n) : x.val < 2 ^ 64 := Nat.lt_of_lt_of_le (fin_lt x) (Nat.pow_le_pow_right (by decide) (by exact qda (by assumption)))

theorem c_sameR (X : Txt G0 fa) (hN : 2 ≤ N) (hw : 1 ≤ w ∧ w ≤ 9) (hn : n ≤ 20) {xs : List (Fr2 n)} (hl : xs.length < 1000) (hQ : Q (.bool true) D) : CallOK prog w0 G0 d fa N 33 [rows w n xs, vals xs, .int (w : Int)] D Q := by
  have := c_same (prog := prog) (w0 := w0) (d := d) (D := D) (Q := Q) X hN hw (vs := xs.map fun x => x.val) (by rw [List.length_map]; exact hl) (fun v hv => by
    obtain ⟨x, _, rfl⟩ := List.mem_map.mp hv
    exact val_64 hn x) hQ
  unfold nums at this
  rw [List.map_map, List.map_map] at this
  exact this

theorem row_fin (X : Txt G0 fa) (hN : 1 ≤ N) (hw : 1 ≤ w ∧ w ≤ 9) (hn : n ≤ 100) {x : Fr2 n} (hQ : Q (rg w n x) D) : CallOK prog w0 G0 d fa N 30 [nv x.val, .int (w : Int)] D Q :=
  c_row X hN hw (num_len hw (k := n + 1) (by exact qda (by assumption)) (fin_lt x)) hQ

theorem c_values (X : Txt G0 fa) (hN : 8 ≤ N) (hw : 1 ≤ w ∧ w ≤ 9) (hn : 1 ≤ n ∧ n ≤ 8) {e : Nat} (he : e ≤ 3) (ho : StOk n e) {xs : List (Fr2 n)} {s : Int} (hs : s.natAbs ≤ 16) (hl : xs.length = 2 ^ e) (hQ : Q (.bool true) D) :
    CallOK prog w0 G0 d fa N 36 [vals xs, .int s, .int (n : Int), .int (w : Int)] D Q := by
  refine CallOK.mono (fn_sound X.gl X.hall (N := 7) (F := fn36) (X.at_ 36 (by decide)) rfl good36 rfl ?_) hN fun _ _ h => h
  have lim' := lim_eq
  have hp := Nat.pow_pos (n := n) (show 0 < 2 by decide)
  have hp8 : 2 ^ e ≤ 8 := Nat.pow_le_pow_right (n := 2) (by decide) he
  have hp1 := Nat.pow_pos (n := e) (show 0 < 2 by decide)
  have hpn : 2 ^ n ≤ 256 := Nat.pow_le_pow_right (n := 2) (by decide) hn.2
  have hM : (2 : Int) ^ n + 1 = ((2 ^ n + 1 : Nat) : Int) := by rw [ipow_nat]; omega
  (try dsimp only [fn36, mini36, Wa, Wb, Wc, Wd, We, Wf, Wg, Wh, Wi, Wj, Wk, Wl, Wm, Wn, Wo, Wp, Wq, Wr, Ws, Wt, Wu, Wv, Ww, Wx, Wy, Wz, WA, WB, WC, WD, WE, WF, WG, WH, WI, WJ, WK, WL, WM, WN, WO, WP, WQ, WR, WS, WT, WU, WV, WW, WX, WY, WZ, W0, W1, W2, W3, W4, Zk, Zl, Zm, Zn, Zo, Zp, Zq, Zr, Zs, Zt, Zu, Zv, Zw, Zx, Zy, Zz, ZA, ZB, ZC, ZD, ZE, ZF, ZG, ZH, ZI, ZJ, setAll, gv0, gv1, gl0, gl0o, gl0d, gl1, gf0, gf1, go0, go1, argsOf, W5, W6, W7, W8, W9, Za, Zb, Zc, Zd, Ze, Zf, Zg, Zh, Zi, Zj, Nat.reduceAdd, Nat.reduceSub]); (try simp only [fn36, mini36, List.length_map, Zk, Nat.zero_add, Nat.sub_self, Nat.add_zero, Nat.sub_zero, Int.one_mul, Int.toNat_natCast])
  refine ⟨⟨by exact Int.natCast_nonneg _, by exact q6c (by assumption), by decide⟩, by omega, ?_⟩
  refine compW_mapL _ (fun x => rg w n x) xs (fun x hx K hK => ?_) ?_
  · (try dsimp only [e36x0, Wa, Wb, Wc, Wd, We, Wf, Wg, Wh, Wi, Wj, Wk, Wl, Wm, Wn, Wo, Wp, Wq, Wr, Ws, Wt, Wu, Wv, Ww, Wx, Wy, Wz, WA, WB, WC, WD, WE, WF, WG, WH, WI, WJ, WK, WL, WM, WN, WO, WP, WQ, WR, WS, WT, WU, WV, WW, WX, WY, WZ, W0, W1, W2, W3, W4, Zk, Zl, Zm, Zn, Zo, Zp, Zq, Zr, Zs, Zt, Zu, Zv, Zw, Zx, Zy, Zz, ZA, ZB, ZC, ZD, ZE, ZF, ZG, ZH, ZI, ZJ, setAll, gv0, gv1, gl0, gl0o, gl0d, gl1, gf0, gf1, go0, go1, argsOf, W5, W6, W7, W8, W9, Za, Zb, Zc, Zd, Ze, Zf, Zg, Zh, Zi, Zj, Nat.reduceAdd, Nat.reduceSub]); (try simp only [e36x0, Zk, Nat.zero_add, Nat.sub_self, Nat.add_zero, Nat.sub_zero, Int.one_mul, Int.toNat_natCast])
    exact row_fin X (by decide) hw (by exact qbc (by assumption)) hK
  refine c_weighted X (by decide) hw (by exact qcc (by assumption)) (by exact qda (by assumption)) (by omega) ?_
  (try dsimp only [Wa, Wb, Wc, Wd, We, Wf, Wg, Wh, Wi, Wj, Wk, Wl, Wm, Wn, Wo, Wp, Wq, Wr, Ws, Wt, Wu, Wv, Ww, Wx, Wy, Wz, WA, WB, WC, WD, WE, WF, WG, WH, WI, WJ, WK, WL, WM, WN, WO, WP, WQ, WR, WS, WT, WU, WV, WW, WX, WY, WZ, W0, W1, W2, W3, W4, Zk, Zl, Zm, Zn, Zo, Zp, Zq, Zr, Zs, Zt, Zu, Zv, Zw, Zx, Zy, Zz, ZA, ZB, ZC, ZD, ZE, ZF, ZG, ZH, ZI, ZJ, setAll, gv0, gv1, gl0, gl0o, gl0d, gl1, gf0, gf1, go0, go1, argsOf, W5, W6, W7, W8, W9, Za, Zb, Zc, Zd, Ze, Zf, Zg, Zh, Zi, Zj, Nat.reduceAdd, Nat.reduceSub]); (try simp only [List.length_map, List.length_zipIdx, Zk, Nat.zero_add, Nat.sub_self, Nat.add_zero, Nat.sub_zero, Int.one_mul, Int.toNat_natCast])
  refine ⟨by omega, ?_⟩
  rw [enum_map]
  refine compW_mapL _ (fun x => nv (x.1 * U n (s * (x.2 : Int))).val) xs.zipIdx (fun x hx K hK => ?_) ?_
  · obtain ⟨hi, _⟩ := mem_enum (y := x.1) (i := x.2) hx
    (try dsimp only [e36x1, nv, Wa, Wb, Wc, Wd, We, Wf, Wg, Wh, Wi, Wj, Wk, Wl, Wm, Wn, Wo, Wp, Wq, Wr, Ws, Wt, Wu, Wv, Ww, Wx, Wy, Wz, WA, WB, WC, WD, WE, WF, WG, WH, WI, WJ, WK, WL, WM, WN, WO, WP, WQ, WR, WS, WT, WU, WV, WW, WX, WY, WZ, W0, W1, W2, W3, W4, Zk, Zl, Zm, Zn, Zo, Zp, Zq, Zr, Zs, Zt, Zu, Zv, Zw, Zx, Zy, Zz, ZA, ZB, ZC, ZD, ZE, ZF, ZG, ZH, ZI, ZJ, setAll, gv0, gv1, gl0, gl0o, gl0d, gl1, gf0, gf1, go0, go1, argsOf, W5, W6, W7, W8, W9, Za, Zb, Zc, Zd, Ze, Zf, Zg, Zh, Zi, Zj, Nat.reduceAdd, Nat.reduceSub]); (try simp only [e36x1, nv, Zk, Nat.zero_add, Nat.sub_self, Nat.add_zero, Nat.sub_zero, Int.one_mul, Int.toNat_natCast])
    refine ⟨⟨by exact q64a (by assumption), by omega⟩, c_power X (by decide) (by exact qcc (by assumption)) ?_⟩
    (try dsimp only [nv, Wa, Wb, Wc, Wd, We, Wf, Wg, Wh, Wi, Wj, Wk, Wl, Wm, Wn, Wo, Wp, Wq, Wr, Ws, Wt, Wu, Wv, Ww, Wx, Wy, Wz, WA, WB, WC, WD, WE, WF, WG, WH, WI, WJ, WK, WL, WM, WN, WO, WP, WQ, WR, WS, WT, WU, WV, WW, WX, WY, WZ, W0, W1, W2, W3, W4, Zk, Zl, Zm, Zn, Zo, Zp, Zq, Zr, Zs, Zt, Zu, Zv, Zw, Zx, Zy, Zz, ZA, ZB, ZC, ZD, ZE, ZF, ZG, ZH, ZI, ZJ, setAll, gv0, gv1, gl0, gl0o, gl0d, gl1, gf0, gf1, go0, go1, argsOf, W5, W6, W7, W8, W9, Za, Zb, Zc, Zd, Ze, Zf, Zg, Zh, Zi, Zj, Nat.reduceAdd, Nat.reduceSub]); (try simp only [nv, Zk, Nat.zero_add, Nat.sub_self, Nat.add_zero, Nat.sub_zero, Int.one_mul, Int.toNat_natCast])
    have h1 := x.1.isLt
    have h2 := (U n (s * (x.2 : Int))).isLt
    refine ⟨⟨by omega, by omega⟩, by exact qp1, ?_⟩
    rw [hM, show ((x.1.val : Nat) : Int) * (((U n (s * (x.2 : Int))).val : Nat) : Int) = ((x.1.val * (U n (s * (x.2 : Int))).val : Nat) : Int) by push_cast; rfl, fmod_nat]
    exact hK
  have ew : (xs.zipIdx.map fun x => nv (x.1 * U n (s * (x.2 : Int))).val) = (wgt n s xs).map fun x => nv x.val := by rw [wgt, List.map_map]; rfl
  rw [ew]
  have wl := wgt_len (n := n) s xs
  refine c_sameR X (by decide) hw (by exact qbc (by assumption)) (by omega) ?_
  (try dsimp only [Wa, Wb, Wc, Wd, We, Wf, Wg, Wh, Wi, Wj, Wk, Wl, Wm, Wn, Wo, Wp, Wq, Wr, Ws, Wt, Wu, Wv, Ww, Wx, Wy, Wz, WA, WB, WC, WD, WE, WF, WG, WH, WI, WJ, WK, WL, WM, WN, WO, WP, WQ, WR, WS, WT, WU, WV, WW, WX, WY, WZ, W0, W1, W2, W3, W4, Zk, Zl, Zm, Zn, Zo, Zp, Zq, Zr, Zs, Zt, Zu, Zv, Zw, Zx, Zy, Zz, ZA, ZB, ZC, ZD, ZE, ZF, ZG, ZH, ZI, ZJ, setAll, gv0, gv1, gl0, gl0o, gl0d, gl1, gf0, gf1, go0, go1, argsOf, W5, W6, W7, W8, W9, Za, Zb, Zc, Zd, Ze, Zf, Zg, Zh, Zi, Zj, Nat.reduceAdd, Nat.reduceSub]); (try simp only [Bool.not_true, Zk, Nat.zero_add, Nat.sub_self, Nat.add_zero, Nat.sub_zero, Int.one_mul, Int.toNat_natCast])
  refine c_weighted X (by decide) hw (by exact qcc (by assumption)) (by omega) (by omega) ?_
  rw [wgt_inv hn.1]
  refine c_sameR X (by decide) hw (by exact qbc (by assumption)) (by omega) ?_
  (try dsimp only [Wa, Wb, Wc, Wd, We, Wf, Wg, Wh, Wi, Wj, Wk, Wl, Wm, Wn, Wo, Wp, Wq, Wr, Ws, Wt, Wu, Wv, Ww, Wx, Wy, Wz, WA, WB, WC, WD, WE, WF, WG, WH, WI, WJ, WK, WL, WM, WN, WO, WP, WQ, WR, WS, WT, WU, WV, WW, WX, WY, WZ, W0, W1, W2, W3, W4, Zk, Zl, Zm, Zn, Zo, Zp, Zq, Zr, Zs, Zt, Zu, Zv, Zw, Zx, Zy, Zz, ZA, ZB, ZC, ZD, ZE, ZF, ZG, ZH, ZI, ZJ, setAll, gv0, gv1, gl0, gl0o, gl0d, gl1, gf0, gf1, go0, go1, argsOf, W5, W6, W7, W8, W9, Za, Zb, Zc, Zd, Ze, Zf, Zg, Zh, Zi, Zj, Nat.reduceAdd, Nat.reduceSub]); (try simp only [Bool.not_true, hl, Zk, Nat.zero_add, Nat.sub_self, Nat.add_zero, Nat.sub_zero, Int.one_mul, Int.toNat_natCast])
  rw [range_up, range_up_len]
  refine ⟨by decide, by exact qla (by assumption), by exact qla (by assumption), ?_⟩
  have hd : 2 * n / 2 ^ e ≤ 2 * n := Nat.div_le_self _ _
  have htr : ∀ k : Nat, tr 10 k (2 ^ e) 0 < 1024 := fun k => by
    have key : ∀ (j a m f : Nat), tr j a m f < (f + 1) * 2 ^ j := by
      intro j
      induction j with
      | zero => intro a m f; simp [tr]
      | succ j ih =>
        intro a m f
        rw [tr]
        split
        · have := ih (a / 2) (m / 2) (2 * f + a % 2)
          have h2 : (2 * f + a % 2 + 1) * 2 ^ j ≤ (2 * (f + 1)) * 2 ^ j := Nat.mul_le_mul_right _ (by omega)
          rw [Nat.pow_succ]
          have h3 : (f + 1) * (2 ^ j * 2) = 2 * (f + 1) * 2 ^ j := by grind
          omega
        · exact Nat.lt_of_lt_of_le (Nat.lt_succ_self f) (Nat.le_mul_of_pos_right _ (Nat.pow_pos (by decide)))
    have := key 10 k (2 ^ e) 0
    simpa using this
  refine forW_inv (fun j σ D' => D' = D ∧ j ≤ 2 ^ e ∧ ∃ l8 l9 : Sl, σ = [.v (vals xs), .v (.int s), .v (.int (n : Int)), .v (.int (w : Int)), .v (.int ((2 ^ e : Nat) : Int)), .v (.int (2 ^ n + 1)), .v (rows w n (wgt n s xs)),
      .own ((List.range j).map fun k => nv (ev (U n (s + (sT n e : Int) * (tr 10 k (2 ^ e) 0 : Int))) xs).val), l8, l9, .un, .un, .un, .un, .un, .un, .un, .un, .un]) _ 0 _ _ ⟨rfl, by exact Nat.zero_le _, _, _, rfl⟩ ?_ ?_
  · rintro j x σ D' K _ hxx ⟨rfl, hj', l8, l9, rfl⟩ hK _
    obtain ⟨hj, rfl⟩ := map_at hxx
    rw [Nat.sub_zero] at hj ⊢
    (try dsimp only [b36x0, nv, List.length_range, Wa, Wb, Wc, Wd, We, Wf, Wg, Wh, Wi, Wj, Wk, Wl, Wm, Wn, Wo, Wp, Wq, Wr, Ws, Wt, Wu, Wv, Ww, Wx, Wy, Wz, WA, WB, WC, WD, WE, WF, WG, WH, WI, WJ, WK, WL, WM, WN, WO, WP, WQ, WR, WS, WT, WU, WV, WW, WX, WY, WZ, W0, W1, W2, W3, W4, Zk, Zl, Zm, Zn, Zo, Zp, Zq, Zr, Zs, Zt, Zu, Zv, Zw, Zx, Zy, Zz, ZA, ZB, ZC, ZD, ZE, ZF, ZG, ZH, ZI, ZJ, setAll, gv0, gv1, gl0, gl0o, gl0d, gl1, gf0, gf1, go0, go1, argsOf, W5, W6, W7, W8, W9, Za, Zb, Zc, Zd, Ze, Zf, Zg, Zh, Zi, Zj, Nat.reduceAdd, Nat.reduceSub]); (try simp only [b36x0, nv, List.length_map, List.length_range, List.length_zipIdx, Zk, Nat.zero_add, Nat.sub_self, Nat.add_zero, Nat.sub_zero, Int.one_mul, Int.toNat_natCast])
    rw [show (2 : Int) * (n : Int) = ((2 * n : Nat) : Int) by exact (Int.natCast_mul _ _).symm, fdiv_nat]
    refine ⟨⟨by decide, by exact q64c (by assumption)⟩, ⟨by exact qN0 (by assumption), by exact q64a (by assumption)⟩, ?_⟩
    refine c_turned X (by decide) (by exact qda (by assumption)) ?_
    have h1 := htr j
    (try dsimp only [nv, Wa, Wb, Wc, Wd, We, Wf, Wg, Wh, Wi, Wj, Wk, Wl, Wm, Wn, Wo, Wp, Wq, Wr, Ws, Wt, Wu, Wv, Ww, Wx, Wy, Wz, WA, WB, WC, WD, WE, WF, WG, WH, WI, WJ, WK, WL, WM, WN, WO, WP, WQ, WR, WS, WT, WU, WV, WW, WX, WY, WZ, W0, W1, W2, W3, W4, Zk, Zl, Zm, Zn, Zo, Zp, Zq, Zr, Zs, Zt, Zu, Zv, Zw, Zx, Zy, Zz, ZA, ZB, ZC, ZD, ZE, ZF, ZG, ZH, ZI, ZJ, setAll, gv0, gv1, gl0, gl0o, gl0d, gl1, gf0, gf1, go0, go1, argsOf, W5, W6, W7, W8, W9, Za, Zb, Zc, Zd, Ze, Zf, Zg, Zh, Zi, Zj, Nat.reduceAdd, Nat.reduceSub]); (try simp only [nv, Zk, Nat.zero_add, Nat.sub_self, Nat.add_zero, Nat.sub_zero, Int.one_mul, Int.toNat_natCast])
    have hsT : sT n e = 2 * n / 2 ^ e := rfl
    rw [← hsT] at hd ⊢
    refine ⟨⟨by omega, by exact q64b (by assumption)⟩, ?_⟩
    refine c_power X (by decide) (by exact qcc (by assumption)) ?_
    (try dsimp only [nv, Wa, Wb, Wc, Wd, We, Wf, Wg, Wh, Wi, Wj, Wk, Wl, Wm, Wn, Wo, Wp, Wq, Wr, Ws, Wt, Wu, Wv, Ww, Wx, Wy, Wz, WA, WB, WC, WD, WE, WF, WG, WH, WI, WJ, WK, WL, WM, WN, WO, WP, WQ, WR, WS, WT, WU, WV, WW, WX, WY, WZ, W0, W1, W2, W3, W4, Zk, Zl, Zm, Zn, Zo, Zp, Zq, Zr, Zs, Zt, Zu, Zv, Zw, Zx, Zy, Zz, ZA, ZB, ZC, ZD, ZE, ZF, ZG, ZH, ZI, ZJ, setAll, gv0, gv1, gl0, gl0o, gl0d, gl1, gf0, gf1, go0, go1, argsOf, W5, W6, W7, W8, W9, Za, Zb, Zc, Zd, Ze, Zf, Zg, Zh, Zi, Zj, Nat.reduceAdd, Nat.reduceSub]); (try simp only [nv, List.length_zipIdx, Zk, Nat.zero_add, Nat.sub_self, Nat.add_zero, Nat.sub_zero, Int.one_mul, Int.toNat_natCast])
    refine ⟨by omega, ?_⟩
    rw [enum_map]
    generalize hpt : U n (s + (sT n e : Int) * (tr 10 j (2 ^ e) 0 : Int)) = p at *
    refine compW_mapL _ (fun x => .int ((x.1.val : Int) * (p.val : Int) ^ x.2)) xs.zipIdx (fun x hx K hK => ?_) ?_
    · obtain ⟨hi, _⟩ := mem_enum (y := x.1) (i := x.2) hx
      (try dsimp only [e36x2, nv, Wa, Wb, Wc, Wd, We, Wf, Wg, Wh, Wi, Wj, Wk, Wl, Wm, Wn, Wo, Wp, Wq, Wr, Ws, Wt, Wu, Wv, Ww, Wx, Wy, Wz, WA, WB, WC, WD, WE, WF, WG, WH, WI, WJ, WK, WL, WM, WN, WO, WP, WQ, WR, WS, WT, WU, WV, WW, WX, WY, WZ, W0, W1, W2, W3, W4, Zk, Zl, Zm, Zn, Zo, Zp, Zq, Zr, Zs, Zt, Zu, Zv, Zw, Zx, Zy, Zz, ZA, ZB, ZC, ZD, ZE, ZF, ZG, ZH, ZI, ZJ, setAll, gv0, gv1, gl0, gl0o, gl0d, gl1, gf0, gf1, go0, go1, argsOf, W5, W6, W7, W8, W9, Za, Zb, Zc, Zd, Ze, Zf, Zg, Zh, Zi, Zj, Nat.reduceAdd, Nat.reduceSub]); (try simp only [e36x2, nv, Zk, Nat.zero_add, Nat.sub_self, Nat.add_zero, Nat.sub_zero, Int.one_mul, Int.toNat_natCast])
      have hx1 := x.1.isLt
      have hp1 := p.isLt
      have hpw : p.val ^ x.2 ≤ 256 ^ 7 := Nat.le_trans (Nat.pow_le_pow_left (show p.val ≤ 256 by omega) _) (Nat.pow_le_pow_right (by decide) (by omega))
      refine ⟨⟨by exact Int.natCast_nonneg _, by omega, by omega⟩, ⟨by omega, ?_⟩, ?_⟩
      · rw [← Int.natCast_pow, Int.natAbs_natCast]
        exact Nat.lt_of_le_of_lt hpw (by decide)
      · exact hK
    · rw [intsOf_ints]
      (try dsimp only [Wa, Wb, Wc, Wd, We, Wf, Wg, Wh, Wi, Wj, Wk, Wl, Wm, Wn, Wo, Wp, Wq, Wr, Ws, Wt, Wu, Wv, Ww, Wx, Wy, Wz, WA, WB, WC, WD, WE, WF, WG, WH, WI, WJ, WK, WL, WM, WN, WO, WP, WQ, WR, WS, WT, WU, WV, WW, WX, WY, WZ, W0, W1, W2, W3, W4, Zk, Zl, Zm, Zn, Zo, Zp, Zq, Zr, Zs, Zt, Zu, Zv, Zw, Zx, Zy, Zz, ZA, ZB, ZC, ZD, ZE, ZF, ZG, ZH, ZI, ZJ, setAll, gv0, gv1, gl0, gl0o, gl0d, gl1, gf0, gf1, go0, go1, argsOf, W5, W6, W7, W8, W9, Za, Zb, Zc, Zd, Ze, Zf, Zg, Zh, Zi, Zj, Nat.reduceAdd, Nat.reduceSub]); (try simp only [Zk, Nat.zero_add, Nat.sub_self, Nat.add_zero, Nat.sub_zero, Int.one_mul, Int.toNat_natCast])
      refine ⟨by exact qp1, by omega, ?_⟩
      rw [ev_mod]
      refine hK _ _ ⟨rfl, hj, .v (.int (j : Int)), .v (.int (p.val : Int)), ?_⟩
      rw [List.range_succ, List.map_append, List.map_singleton, hpt]
      rfl
  · rintro σ D' ⟨rfl, hj', l8, l9, rfl⟩
    simp only [List.length_map, List.length_range, Nat.zero_add]
    (try dsimp only [Wa, Wb, Wc, Wd, We, Wf, Wg, Wh, Wi, Wj, Wk, Wl, Wm, Wn, Wo, Wp, Wq, Wr, Ws, Wt, Wu, Wv, Ww, Wx, Wy, Wz, WA, WB, WC, WD, WE, WF, WG, WH, WI, WJ, WK, WL, WM, WN, WO, WP, WQ, WR, WS, WT, WU, WV, WW, WX, WY, WZ, W0, W1, W2, W3, W4, Zk, Zl, Zm, Zn, Zo, Zp, Zq, Zr, Zs, Zt, Zu, Zv, Zw, Zx, Zy, Zz, ZA, ZB, ZC, ZD, ZE, ZF, ZG, ZH, ZI, ZJ, setAll, gv0, gv1, gl0, gl0o, gl0d, gl1, gf0, gf1, go0, go1, argsOf, W5, W6, W7, W8, W9, Za, Zb, Zc, Zd, Ze, Zf, Zg, Zh, Zi, Zj, Nat.reduceAdd, Nat.reduceSub]); (try simp only [Zk, Nat.zero_add, Nat.sub_self, Nat.add_zero, Nat.sub_zero, Int.one_mul, Int.toNat_natCast])
    rw [range_up]
    refine ⟨by exact qla (by assumption), by simp; omega, ?_⟩
    refine compW_mapL _ (fun k => nv (tr 10 k (2 ^ e) 0)) (List.range (2 ^ e)) (fun k hk K hK => ?_) ?_
    · (try dsimp only [e36x3, nv, Wa, Wb, Wc, Wd, We, Wf, Wg, Wh, Wi, Wj, Wk, Wl, Wm, Wn, Wo, Wp, Wq, Wr, Ws, Wt, Wu, Wv, Ww, Wx, Wy, Wz, WA, WB, WC, WD, WE, WF, WG, WH, WI, WJ, WK, WL, WM, WN, WO, WP, WQ, WR, WS, WT, WU, WV, WW, WX, WY, WZ, W0, W1, W2, W3, W4, Zk, Zl, Zm, Zn, Zo, Zp, Zq, Zr, Zs, Zt, Zu, Zv, Zw, Zx, Zy, Zz, ZA, ZB, ZC, ZD, ZE, ZF, ZG, ZH, ZI, ZJ, setAll, gv0, gv1, gl0, gl0o, gl0d, gl1, gf0, gf1, go0, go1, argsOf, W5, W6, W7, W8, W9, Za, Zb, Zc, Zd, Ze, Zf, Zg, Zh, Zi, Zj, Nat.reduceAdd, Nat.reduceSub]); (try simp only [e36x3, nv, Zk, Nat.zero_add, Nat.sub_self, Nat.add_zero, Nat.sub_zero, Int.one_mul, Int.toNat_natCast])
      exact c_turned_about X (by decide) (by exact qda (by assumption)) hK
    refine ⟨by exact qla (by assumption), by omega, ?_⟩
    refine compW_mapL _ (fun k => nv (tr 10 k (2 ^ e) 0)) (List.range (2 ^ e)) (fun k hk K hK => ?_) ?_
    · (try dsimp only [e36x4, nv, Wa, Wb, Wc, Wd, We, Wf, Wg, Wh, Wi, Wj, Wk, Wl, Wm, Wn, Wo, Wp, Wq, Wr, Ws, Wt, Wu, Wv, Ww, Wx, Wy, Wz, WA, WB, WC, WD, WE, WF, WG, WH, WI, WJ, WK, WL, WM, WN, WO, WP, WQ, WR, WS, WT, WU, WV, WW, WX, WY, WZ, W0, W1, W2, W3, W4, Zk, Zl, Zm, Zn, Zo, Zp, Zq, Zr, Zs, Zt, Zu, Zv, Zw, Zx, Zy, Zz, ZA, ZB, ZC, ZD, ZE, ZF, ZG, ZH, ZI, ZJ, setAll, gv0, gv1, gl0, gl0o, gl0d, gl1, gf0, gf1, go0, go1, argsOf, W5, W6, W7, W8, W9, Za, Zb, Zc, Zd, Ze, Zf, Zg, Zh, Zi, Zj, Nat.reduceAdd, Nat.reduceSub]); (try simp only [e36x4, nv, Zk, Nat.zero_add, Nat.sub_self, Nat.add_zero, Nat.sub_zero, Int.one_mul, Int.toNat_natCast])
      exact c_turned X (by decide) (by exact qda (by assumption)) hK
    (try dsimp only [Wa, Wb, Wc, Wd, We, Wf, Wg, Wh, Wi, Wj, Wk, Wl, Wm, Wn, Wo, Wp, Wq, Wr, Ws, Wt, Wu, Wv, Ww, Wx, Wy, Wz, WA, WB, WC, WD, WE, WF, WG, WH, WI, WJ, WK, WL, WM, WN, WO, WP, WQ, WR, WS, WT, WU, WV, WW, WX, WY, WZ, W0, W1, W2, W3, W4, Zk, Zl, Zm, Zn, Zo, Zp, Zq, Zr, Zs, Zt, Zu, Zv, Zw, Zx, Zy, Zz, ZA, ZB, ZC, ZD, ZE, ZF, ZG, ZH, ZI, ZJ, setAll, gv0, gv1, gl0, gl0o, gl0d, gl1, gf0, gf1, go0, go1, argsOf, W5, W6, W7, W8, W9, Za, Zb, Zc, Zd, Ze, Zf, Zg, Zh, Zi, Zj, Nat.reduceAdd, Nat.reduceSub]); (try simp only [ZK, intsOf_nvs, decide_true, Bool.not_true, Zk, Nat.zero_add, Nat.sub_self, Nat.add_zero, Nat.sub_zero, Int.one_mul, Int.toNat_natCast])
    refine ⟨by exact qla (by assumption), by omega, ?_⟩
    refine compW_mapL _ (fun k : Nat => nv (U n ((sT n e : Int) * (k : Int))).val) (List.range (2 ^ e)) (fun k hk K hK => ?_) ?_
    · have := List.mem_range.mp hk
      (try dsimp only [e36x5, nv, Wa, Wb, Wc, Wd, We, Wf, Wg, Wh, Wi, Wj, Wk, Wl, Wm, Wn, Wo, Wp, Wq, Wr, Ws, Wt, Wu, Wv, Ww, Wx, Wy, Wz, WA, WB, WC, WD, WE, WF, WG, WH, WI, WJ, WK, WL, WM, WN, WO, WP, WQ, WR, WS, WT, WU, WV, WW, WX, WY, WZ, W0, W1, W2, W3, W4, Zk, Zl, Zm, Zn, Zo, Zp, Zq, Zr, Zs, Zt, Zu, Zv, Zw, Zx, Zy, Zz, ZA, ZB, ZC, ZD, ZE, ZF, ZG, ZH, ZI, ZJ, setAll, gv0, gv1, gl0, gl0o, gl0d, gl1, gf0, gf1, go0, go1, argsOf, W5, W6, W7, W8, W9, Za, Zb, Zc, Zd, Ze, Zf, Zg, Zh, Zi, Zj, Nat.reduceAdd, Nat.reduceSub]); (try simp only [e36x5, nv, Zk, Nat.zero_add, Nat.sub_self, Nat.add_zero, Nat.sub_zero, Int.one_mul, Int.toNat_natCast])
      rw [show (2 : Int) * (n : Int) = ((2 * n : Nat) : Int) by exact (Int.natCast_mul _ _).symm, fdiv_nat]
      have hsT : sT n e = 2 * n / 2 ^ e := rfl
      rw [← hsT] at hd ⊢
      refine ⟨⟨by decide, by exact q64c (by assumption)⟩, ⟨by exact qN0 (by assumption), by exact q64a (by assumption)⟩, ⟨by omega, by omega⟩, ?_⟩
      exact c_power X (by decide) (by exact qcc (by assumption)) hK
    (try dsimp only [Wa, Wb, Wc, Wd, We, Wf, Wg, Wh, Wi, Wj, Wk, Wl, Wm, Wn, Wo, Wp, Wq, Wr, Ws, Wt, Wu, Wv, Ww, Wx, Wy, Wz, WA, WB, WC, WD, WE, WF, WG, WH, WI, WJ, WK, WL, WM, WN, WO, WP, WQ, WR, WS, WT, WU, WV, WW, WX, WY, WZ, W0, W1, W2, W3, W4, Zk, Zl, Zm, Zn, Zo, Zp, Zq, Zr, Zs, Zt, Zu, Zv, Zw, Zx, Zy, Zz, ZA, ZB, ZC, ZD, ZE, ZF, ZG, ZH, ZI, ZJ, setAll, gv0, gv1, gl0, gl0o, gl0d, gl1, gf0, gf1, go0, go1, argsOf, W5, W6, W7, W8, W9, Za, Zb, Zc, Zd, Ze, Zf, Zg, Zh, Zi, Zj, Nat.reduceAdd, Nat.reduceSub]); (try simp only [Zk, Nat.zero_add, Nat.sub_self, Nat.add_zero, Nat.sub_zero, Int.one_mul, Int.toNat_natCast])
    refine c_forward X (by decide) hw hn he (by omega) ?_
    have hsT : 2 * n / 2 ^ e = sT n e := rfl
    rw [hsT, values_eq hn.1 he ho s hl]
    have e1 : ((List.range (2 ^ e)).map fun k => nv (ev (U n (s + (sT n e : Int) * (tr 10 k (2 ^ e) 0 : Int))) xs).val) = ((List.range (2 ^ e)).map fun k => ev (U n (s + (sT n e : Int) * (tr 10 k (2 ^ e) 0 : Int))) xs).map fun x => nv x.val := by rw [List.map_map]; rfl
    rw [e1]
    refine c_sameR X (by decide) hw (by exact qbc (by assumption)) (by simp; omega) ?_
    (try dsimp only [Wa, Wb, Wc, Wd, We, Wf, Wg, Wh, Wi, Wj, Wk, Wl, Wm, Wn, Wo, Wp, Wq, Wr, Ws, Wt, Wu, Wv, Ww, Wx, Wy, Wz, WA, WB, WC, WD, WE, WF, WG, WH, WI, WJ, WK, WL, WM, WN, WO, WP, WQ, WR, WS, WT, WU, WV, WW, WX, WY, WZ, W0, W1, W2, W3, W4, Zk, Zl, Zm, Zn, Zo, Zp, Zq, Zr, Zs, Zt, Zu, Zv, Zw, Zx, Zy, Zz, ZA, ZB, ZC, ZD, ZE, ZF, ZG, ZH, ZI, ZJ, setAll, gv0, gv1, gl0, gl0o, gl0d, gl1, gf0, gf1, go0, go1, argsOf, W5, W6, W7, W8, W9, Za, Zb, Zc, Zd, Ze, Zf, Zg, Zh, Zi, Zj, Nat.reduceAdd, Nat.reduceSub]); (try simp only [Zk, Nat.zero_add, Nat.sub_self, Nat.add_zero, Nat.sub_zero, Int.one_mul, Int.toNat_natCast])
    refine c_root_powers X (by decide) hw (by exact qcc (by assumption)) (by omega) ?_
    have e2 : ((List.range (2 ^ e)).map fun k : Nat => nv (U n ((sT n e : Int) * (k : Int))).val) = ((List.range (2 ^ e)).map fun k : Nat => U n ((sT n e : Int) * (k : Int))).map fun x => nv x.val := by rw [List.map_map]; rfl
    rw [e2, hsT]
    exact c_sameR X (by decide) hw (by exact qbc (by assumption)) (by simp; omega) hQ
end
end Mine
end

section
open PySem PySem.W PyProof.Rows
set_option maxRecDepth 100000
namespace Mine
theorem take_fold {α β : Type} (f : β → α → β) (b : β) (xs : List α) (j : Nat) (h : j < xs.length) : (xs.take (j + 1)).foldl f b = f ((xs.take j).foldl f b) xs[j] := by
  rw [List.take_succ_eq_append_getElem h, List.foldl_append, List.foldl_cons, List.foldl_nil]

section
variable {prog : Program} {w0 : World} {G0 : Frz} {d : Option Addr} {fa : Nat → Addr} {N : Nat} {w n : Nat} {D : DS} {Q : PV → DS → Prop}

theorem c_round (X : Txt G0 fa) (hN : 9 ≤ N) (hw : 1 ≤ w ∧ w ≤ 9) (hn : 1 ≤ n ∧ n ≤ 8) {e : Nat} (he : e ≤ 3) (ho : StOk n e) {xs ys : List (Fr2 n)} {s : Int} (hs : s.natAbs ≤ 16) (hl : xs.length = 2 ^ e) (hl2 : ys.length = 2 ^ e) (hQ : Q (.bool true) D) :
    CallOK prog w0 G0 d fa N 37 [vals xs, vals ys, .int s, .int (n : Int), .int (w : Int)] D Q := by
  refine CallOK.mono (fn_sound X.gl X.hall (N := 8) (F := fn37) (X.at_ 37 (by decide)) rfl good37 rfl ?_) hN fun _ _ h => h
  have lim' := lim_eq
  have hp := Nat.pow_pos (n := n) (show 0 < 2 by decide)
  have hp8 : 2 ^ e ≤ 8 := Nat.pow_le_pow_right (n := 2) (by decide) he
  have hp1 := Nat.pow_pos (n := e) (show 0 < 2 by decide)
  have hpn : 2 ^ n ≤ 256 := Nat.pow_le_pow_right (n := 2) (by decide) hn.2
  have hM : (2 : Int) ^ n + 1 = ((2 ^ n + 1 : Nat) : Int) := by rw [ipow_nat]; omega
  have step : ∀ {zs : List (Fr2 n)} (K : PV → DS → Prop) {a0 a1 a5 a6 : Sl} {D : DS}, zs.length = 2 ^ e → K (rows w n (wgt n s zs)) D →
      wpE (CallOK prog w0 G0 d fa 8) e37x1 [a0, a1, .v (.int s), .v (.int (n : Int)), .v (.int (w : Int)), a5, a6, .un, .un, .un, .un, .un, .un, .un, .un, .un, .v (vals zs), .un] D K := by
    intro zs K a0 a1 a5 a6 D hz hK
    (try dsimp only [e37x1, Wa, Wb, Wc, Wd, We, Wf, Wg, Wh, Wi, Wj, Wk, Wl, Wm, Wn, Wo, Wp, Wq, Wr, Ws, Wt, Wu, Wv, Ww, Wx, Wy, Wz, WA, WB, WC, WD, WE, WF, WG, WH, WI, WJ, WK, WL, WM, WN, WO, WP, WQ, WR, WS, WT, WU, WV, WW, WX, WY, WZ, W0, W1, W2, W3, W4, Zk, Zl, Zm, Zn, Zo, Zp, Zq, Zr, Zs, Zt, Zu, Zv, Zw, Zx, Zy, Zz, ZA, ZB, ZC, ZD, ZE, ZF, ZG, ZH, ZI, ZJ, setAll, gv0, gv1, gl0, gl0o, gl0d, gl1, gf0, gf1, go0, go1, argsOf, W5, W6, W7, W8, W9, Za, Zb, Zc, Zd, Ze, Zf, Zg, Zh, Zi, Zj, Nat.reduceAdd, Nat.reduceSub]); (try simp only [e37x1, List.length_map, Zk, Nat.zero_add, Nat.sub_self, Nat.add_zero, Nat.sub_zero, Int.one_mul, Int.toNat_natCast])
    refine ⟨by omega, ?_⟩
    refine compW_mapL _ (fun x => rg w n x) zs (fun x hx K hK => ?_) ?_
    · (try dsimp only [e37x0, Wa, Wb, Wc, Wd, We, Wf, Wg, Wh, Wi, Wj, Wk, Wl, Wm, Wn, Wo, Wp, Wq, Wr, Ws, Wt, Wu, Wv, Ww, Wx, Wy, Wz, WA, WB, WC, WD, WE, WF, WG, WH, WI, WJ, WK, WL, WM, WN, WO, WP, WQ, WR, WS, WT, WU, WV, WW, WX, WY, WZ, W0, W1, W2, W3, W4, Zk, Zl, Zm, Zn, Zo, Zp, Zq, Zr, Zs, Zt, Zu, Zv, Zw, Zx, Zy, Zz, ZA, ZB, ZC, ZD, ZE, ZF, ZG, ZH, ZI, ZJ, setAll, gv0, gv1, gl0, gl0o, gl0d, gl1, gf0, gf1, go0, go1, argsOf, W5, W6, W7, W8, W9, Za, Zb, Zc, Zd, Ze, Zf, Zg, Zh, Zi, Zj, Nat.reduceAdd, Nat.reduceSub]); (try simp only [e37x0, Zk, Nat.zero_add, Nat.sub_self, Nat.add_zero, Nat.sub_zero, Int.one_mul, Int.toNat_natCast])
      exact row_fin X (by decide) hw (by exact qbc (by assumption)) hK
    exact c_weighted X (by decide) hw (by exact qcc (by assumption)) (by exact qda (by assumption)) (by omega) hK
  (try dsimp only [fn37, mini37, Wa, Wb, Wc, Wd, We, Wf, Wg, Wh, Wi, Wj, Wk, Wl, Wm, Wn, Wo, Wp, Wq, Wr, Ws, Wt, Wu, Wv, Ww, Wx, Wy, Wz, WA, WB, WC, WD, WE, WF, WG, WH, WI, WJ, WK, WL, WM, WN, WO, WP, WQ, WR, WS, WT, WU, WV, WW, WX, WY, WZ, W0, W1, W2, W3, W4, Zk, Zl, Zm, Zn, Zo, Zp, Zq, Zr, Zs, Zt, Zu, Zv, Zw, Zx, Zy, Zz, ZA, ZB, ZC, ZD, ZE, ZF, ZG, ZH, ZI, ZJ, setAll, gv0, gv1, gl0, gl0o, gl0d, gl1, gf0, gf1, go0, go1, argsOf, W5, W6, W7, W8, W9, Za, Zb, Zc, Zd, Ze, Zf, Zg, Zh, Zi, Zj, Nat.reduceAdd, Nat.reduceSub]); (try simp only [fn37, mini37, List.length_map, Zk, Nat.zero_add, Nat.sub_self, Nat.add_zero, Nat.sub_zero, Int.one_mul, Int.toNat_natCast])
  refine ⟨⟨by exact Int.natCast_nonneg _, by exact q6c (by assumption), by decide⟩, by decide, by decide, ?_⟩
  unfold compW
  refine step _ hl ?_
  show compW _ [vals ys] _ [rows w n (wgt n s xs)] _
  unfold compW
  refine step _ hl2 ?_
  show compW _ [] _ [rows w n (wgt n s xs), rows w n (wgt n s ys)] _
  unfold compW
  refine c_convolved X (by decide) hw hn he (by rw [wgt_len, hl]) (by rw [wgt_len, hl2]) ?_
  have clen : (convL n e (wgt n s xs) (wgt n s ys)).length = 2 ^ e := by rw [conv_eq hn.1 he ho (by rw [wgt_len, hl]) (by rw [wgt_len, hl2]), dueL_len]
  refine c_weighted X (by decide) hw (by exact qcc (by assumption)) (by omega) (by omega) ?_
  rw [round_eq hn.1 he ho s hl hl2]
  generalize hT : U n (s * ((2 ^ e : Nat) : Int)) = T at *
  have enumE : ∀ zs : List (Fr2 n), ((zs.map fun x => nv x.val).zipIdx.map fun x => PV.tup [.int x.2, x.1]) = zs.zipIdx.map fun x => PV.tup [.int x.2, nv x.1.val] := fun zs => enum_map _ zs
  rw [enumE, List.length_zipIdx, List.length_map, hl]
  refine ⟨by omega, by exact qla (by assumption), ?_⟩
  have Tb := T.isLt
  -- the inner loop
  have inner : ∀ (i : Nat) (x : Fr2 n) (Z : List (Fr2 n)) (K : Fl → Sg → DS → Prop) {a7 a8 a9 l13 l14 l15 l16 l17 : Sl} {D : DS}, i < 2 ^ e → Z.length = 2 ^ e →
      (∀ l13 l14 l15, K .next [.v (vals xs), .v (vals ys), .v (.int s), .v (.int (n : Int)), .v (.int (w : Int)), .v (.int ((2 ^ e : Nat) : Int)), .v (.int (2 ^ n + 1)), a7, a8, a9, .own ((dueRow n (2 ^ e) T i x ys Z).map fun x => nv x.val), .v (.int (i : Int)), .v (nv x.val), l13, l14, l15, l16, l17] D) →
      wpSs (CallOK prog w0 G0 d fa 8) b37x1 [.v (vals xs), .v (vals ys), .v (.int s), .v (.int (n : Int)), .v (.int (w : Int)), .v (.int ((2 ^ e : Nat) : Int)), .v (.int (2 ^ n + 1)), a7, a8, a9, .own (Z.map fun x => nv x.val), .v (.int (i : Int)), .v (nv x.val), l13, l14, l15, l16, l17] D K := by
    intro i x Z K a7 a8 a9 l13 l14 l15 l16 l17 D hi hZ hK
    (try dsimp only [b37x1, Wa, Wb, Wc, Wd, We, Wf, Wg, Wh, Wi, Wj, Wk, Wl, Wm, Wn, Wo, Wp, Wq, Wr, Ws, Wt, Wu, Wv, Ww, Wx, Wy, Wz, WA, WB, WC, WD, WE, WF, WG, WH, WI, WJ, WK, WL, WM, WN, WO, WP, WQ, WR, WS, WT, WU, WV, WW, WX, WY, WZ, W0, W1, W2, W3, W4, Zk, Zl, Zm, Zn, Zo, Zp, Zq, Zr, Zs, Zt, Zu, Zv, Zw, Zx, Zy, Zz, ZA, ZB, ZC, ZD, ZE, ZF, ZG, ZH, ZI, ZJ, setAll, gv0, gv1, gl0, gl0o, gl0d, gl1, gf0, gf1, go0, go1, argsOf, W5, W6, W7, W8, W9, Za, Zb, Zc, Zd, Ze, Zf, Zg, Zh, Zi, Zj, Nat.reduceAdd, Nat.reduceSub]); (try simp only [b37x1, Zk, Nat.zero_add, Nat.sub_self, Nat.add_zero, Nat.sub_zero, Int.one_mul, Int.toNat_natCast])
    rw [enumE, List.length_map, List.length_zipIdx]
    refine ⟨by omega, ?_⟩
    let g : List (Fr2 n) → Fr2 n × Nat → List (Fr2 n) := fun D y => D.set ((i + y.2) % 2 ^ e) (D.getD ((i + y.2) % 2 ^ e) 0 + x * y.1 * (if 2 ^ e ≤ i + y.2 then T else 1))
    have glen : ∀ zs y, (g zs y).length = zs.length := fun zs y => List.length_set
    refine forW_inv (fun j σ D' => D' = D ∧ j ≤ ys.length ∧ ∃ l13 l14 l15 : Sl, σ = [.v (vals xs), .v (vals ys), .v (.int s), .v (.int (n : Int)), .v (.int (w : Int)), .v (.int ((2 ^ e : Nat) : Int)), .v (.int (2 ^ n + 1)), a7, a8, a9, .own (((ys.zipIdx.take j).foldl g Z).map fun x => nv x.val), .v (.int (i : Int)), .v (nv x.val), l13, l14, l15, l16, l17]) _ 0 _ _ ⟨rfl, by exact Nat.zero_le _, _, _, _, rfl⟩ ?_ ?_
    · rintro j p σ D' K' _ hxx ⟨rfl, hj', l13, l14, l15, rfl⟩ hK' _
      rw [Nat.sub_zero, List.getElem?_map] at hxx
      obtain ⟨y, hy, rfl⟩ := Option.map_eq_some_iff.mp hxx
      obtain ⟨hjz, hyj⟩ := List.getElem?_eq_some_iff.mp hy
      have hj : j < ys.length := by rwa [List.length_zipIdx] at hjz
      have hy2 : y.2 = j := by rw [← hyj]; simp
      obtain ⟨y, j'⟩ := y
      have hy2 : j' = j := hy2
      subst hy2
      have hf := take_fold g Z ys.zipIdx j' hjz
      rw [hyj] at hf
      rw [hf] at hK'
      have zlen : ((ys.zipIdx.take j').foldl g Z).length = 2 ^ e := by rw [foldl_len glen, hZ]
      generalize (ys.zipIdx.take j').foldl g Z = Y at *
      have xb := x.isLt
      have yb := y.isLt
      have hm := Nat.mod_lt (i + j') hp1
      have iY : (i + j') % 2 ^ e < Y.length := by omega
      have hYg : (Y.map fun x => nv x.val)[(i + j') % 2 ^ e]? = some (nv (Y.getD ((i + j') % 2 ^ e) 0).val) := by
        rw [List.getElem?_map, List.getElem?_eq_getElem iY, List.getD_eq_getElem?_getD, List.getElem?_eq_getElem iY]; rfl
      have hxy : x.val * y.val ≤ 256 * 256 := Nat.mul_le_mul (by omega) (by omega)
      have exy : ((x.val : Nat) : Int) * ((y.val : Nat) : Int) = ((x.val * y.val : Nat) : Int) := by push_cast; rfl
      have fin : ∀ (t : Fr2 n) (l15 : Sl), t = (if 2 ^ e ≤ i + j' then T else 1) →
          K' .next [.v (vals xs), .v (vals ys), .v (.int s), .v (.int (n : Int)), .v (.int (w : Int)), .v (.int ((2 ^ e : Nat) : Int)), .v (.int (2 ^ n + 1)), a7, a8, a9, .own ((Y.map fun x => nv x.val).set ((i + j') % 2 ^ e) (.int (((((Y.getD ((i + j') % 2 ^ e) 0).val : Nat) : Int) + ((x.val * y.val : Nat) : Int) * ((t.val : Nat) : Int)).fmod (2 ^ n + 1)))), .v (.int (i : Int)), .v (nv x.val), .v (.int (j' : Int)), .v (nv y.val), l15, l16, l17] D' := by
        intro t l15 ht
        have e1 : ((((Y.getD ((i + j') % 2 ^ e) 0).val : Nat) : Int) + ((x.val * y.val : Nat) : Int) * ((t.val : Nat) : Int)).fmod (2 ^ n + 1) = (((Y.getD ((i + j') % 2 ^ e) 0 + x * y * t).val : Nat) : Int) := by
          rw [hM, ← Int.natCast_mul, ← Int.natCast_add, fmod_nat, ← on_val, on_add, on_mul, on_mul, on_of_val, on_of_val, on_of_val, on_of_val]
        rw [e1]
        refine hK' _ _ ⟨rfl, hj, .v (.int (j' : Int)), .v (nv y.val), l15, ?_⟩
        show _ = [_, _, _, _, _, _, _, _, _, _, Sl.own ((Y.set ((i + j') % 2 ^ e) (Y.getD ((i + j') % 2 ^ e) 0 + x * y * (if 2 ^ e ≤ i + j' then T else 1))).map fun x => nv x.val), _, _, _, _, _, _, _]
        rw [← ht, List.map_set]
        rfl
      have eij : (i : Int) + (j' : Int) = ((i + j' : Nat) : Int) := by exact (Int.natCast_add _ _).symm
      (try dsimp only [b37x0, ZH, Wa, Wb, Wc, Wd, We, Wf, Wg, Wh, Wi, Wj, Wk, Wl, Wm, Wn, Wo, Wp, Wq, Wr, Ws, Wt, Wu, Wv, Ww, Wx, Wy, Wz, WA, WB, WC, WD, WE, WF, WG, WH, WI, WJ, WK, WL, WM, WN, WO, WP, WQ, WR, WS, WT, WU, WV, WW, WX, WY, WZ, W0, W1, W2, W3, W4, Zk, Zl, Zm, Zn, Zo, Zp, Zq, Zr, Zs, Zt, Zu, Zv, Zw, Zx, Zy, Zz, ZA, ZB, ZC, ZD, ZE, ZF, ZG, ZH, ZI, ZJ, setAll, gv0, gv1, gl0, gl0o, gl0d, gl1, gf0, gf1, go0, go1, argsOf, W5, W6, W7, W8, W9, Za, Zb, Zc, Zd, Ze, Zf, Zg, Zh, Zi, Zj, Nat.reduceAdd, Nat.reduceSub]); (try simp only [b37x0, ZH, Zk, Nat.zero_add, Nat.sub_self, Nat.add_zero, Nat.sub_zero, Int.one_mul, Int.toNat_natCast])
      by_cases hge : 2 ^ e ≤ i + j'
      · rw [show decide ((i : Int) + (j' : Int) ≥ ((2 ^ e : Nat) : Int)) = true by simp only [decide_eq_true_eq]; omega]
        (try dsimp only [Wa, Wb, Wc, Wd, We, Wf, Wg, Wh, Wi, Wj, Wk, Wl, Wm, Wn, Wo, Wp, Wq, Wr, Ws, Wt, Wu, Wv, Ww, Wx, Wy, Wz, WA, WB, WC, WD, WE, WF, WG, WH, WI, WJ, WK, WL, WM, WN, WO, WP, WQ, WR, WS, WT, WU, WV, WW, WX, WY, WZ, W0, W1, W2, W3, W4, Zk, Zl, Zm, Zn, Zo, Zp, Zq, Zr, Zs, Zt, Zu, Zv, Zw, Zx, Zy, Zz, ZA, ZB, ZC, ZD, ZE, ZF, ZG, ZH, ZI, ZJ, setAll, gv0, gv1, gl0, gl0o, gl0d, gl1, gf0, gf1, go0, go1, argsOf, W5, W6, W7, W8, W9, Za, Zb, Zc, Zd, Ze, Zf, Zg, Zh, Zi, Zj, Nat.reduceAdd, Nat.reduceSub]); (try simp only [Zk, Nat.zero_add, Nat.sub_self, Nat.add_zero, Nat.sub_zero, Int.one_mul, Int.toNat_natCast])
        refine ⟨⟨by exact q64a (by assumption), by omega⟩, ?_⟩
        refine c_power X (by decide) (by exact qcc (by assumption)) ?_
        rw [hT, eij, fmod_nat]
        refine ⟨by exact qN0 (by assumption), ?_⟩
        refine idx_rule ((i + j') % 2 ^ e) rfl hYg ?_
        (try dsimp only [nv, Wa, Wb, Wc, Wd, We, Wf, Wg, Wh, Wi, Wj, Wk, Wl, Wm, Wn, Wo, Wp, Wq, Wr, Ws, Wt, Wu, Wv, Ww, Wx, Wy, Wz, WA, WB, WC, WD, WE, WF, WG, WH, WI, WJ, WK, WL, WM, WN, WO, WP, WQ, WR, WS, WT, WU, WV, WW, WX, WY, WZ, W0, W1, W2, W3, W4, Zk, Zl, Zm, Zn, Zo, Zp, Zq, Zr, Zs, Zt, Zu, Zv, Zw, Zx, Zy, Zz, ZA, ZB, ZC, ZD, ZE, ZF, ZG, ZH, ZI, ZJ, setAll, gv0, gv1, gl0, gl0o, gl0d, gl1, gf0, gf1, go0, go1, argsOf, W5, W6, W7, W8, W9, Za, Zb, Zc, Zd, Ze, Zf, Zg, Zh, Zi, Zj, Nat.reduceAdd, Nat.reduceSub]); (try simp only [nv, List.length_map, Zk, Nat.zero_add, Nat.sub_self, Nat.add_zero, Nat.sub_zero, Int.one_mul, Int.toNat_natCast])
        rw [exy]
        refine ⟨⟨by omega, by omega⟩, ⟨by exact q64a (by assumption), by omega⟩, by exact qp1, by exact qN0 (by assumption), ⟨by exact Int.natCast_nonneg _, by omega⟩, ?_⟩
        exact fin T (.v (nv T.val)) (by rw [if_pos hge])
      · rw [show decide ((i : Int) + (j' : Int) ≥ ((2 ^ e : Nat) : Int)) = false by simp only [decide_eq_false_iff_not]; omega]
        (try dsimp only [Wa, Wb, Wc, Wd, We, Wf, Wg, Wh, Wi, Wj, Wk, Wl, Wm, Wn, Wo, Wp, Wq, Wr, Ws, Wt, Wu, Wv, Ww, Wx, Wy, Wz, WA, WB, WC, WD, WE, WF, WG, WH, WI, WJ, WK, WL, WM, WN, WO, WP, WQ, WR, WS, WT, WU, WV, WW, WX, WY, WZ, W0, W1, W2, W3, W4, Zk, Zl, Zm, Zn, Zo, Zp, Zq, Zr, Zs, Zt, Zu, Zv, Zw, Zx, Zy, Zz, ZA, ZB, ZC, ZD, ZE, ZF, ZG, ZH, ZI, ZJ, setAll, gv0, gv1, gl0, gl0o, gl0d, gl1, gf0, gf1, go0, go1, argsOf, W5, W6, W7, W8, W9, Za, Zb, Zc, Zd, Ze, Zf, Zg, Zh, Zi, Zj, Nat.reduceAdd, Nat.reduceSub]); (try simp only [Zk, Nat.zero_add, Nat.sub_self, Nat.add_zero, Nat.sub_zero, Int.one_mul, Int.toNat_natCast])
        rw [eij, fmod_nat]
        refine ⟨by exact qN0 (by assumption), ?_⟩
        refine idx_rule ((i + j') % 2 ^ e) rfl hYg ?_
        (try dsimp only [nv, Wa, Wb, Wc, Wd, We, Wf, Wg, Wh, Wi, Wj, Wk, Wl, Wm, Wn, Wo, Wp, Wq, Wr, Ws, Wt, Wu, Wv, Ww, Wx, Wy, Wz, WA, WB, WC, WD, WE, WF, WG, WH, WI, WJ, WK, WL, WM, WN, WO, WP, WQ, WR, WS, WT, WU, WV, WW, WX, WY, WZ, W0, W1, W2, W3, W4, Zk, Zl, Zm, Zn, Zo, Zp, Zq, Zr, Zs, Zt, Zu, Zv, Zw, Zx, Zy, Zz, ZA, ZB, ZC, ZD, ZE, ZF, ZG, ZH, ZI, ZJ, setAll, gv0, gv1, gl0, gl0o, gl0d, gl1, gf0, gf1, go0, go1, argsOf, W5, W6, W7, W8, W9, Za, Zb, Zc, Zd, Ze, Zf, Zg, Zh, Zi, Zj, Nat.reduceAdd, Nat.reduceSub]); (try simp only [nv, List.length_map, Zk, Nat.zero_add, Nat.sub_self, Nat.add_zero, Nat.sub_zero, Int.one_mul, Int.toNat_natCast])
        rw [exy]
        refine ⟨⟨by omega, by omega⟩, ⟨by exact q64a (by assumption), by decide⟩, by exact qp1, by exact qN0 (by assumption), ⟨by exact Int.natCast_nonneg _, by omega⟩, ?_⟩
        have := fin 1 (.v (.int 1)) (by rw [if_neg hge])
        rw [one_val hn.1] at this
        exact this
    · rintro σ D' ⟨rfl, hj', l13, l14, l15, rfl⟩
      simp only [List.length_map, List.length_zipIdx, Nat.zero_add]
      rw [← List.length_zipIdx, List.take_length]
      exact hK _ _ _
  refine forW_inv (fun i σ D' => D' = D ∧ i ≤ xs.length ∧ ∃ l11 l12 l13 l14 l15 l16 l17 : Sl, σ = [.v (vals xs), .v (vals ys), .v (.int s), .v (.int (n : Int)), .v (.int (w : Int)), .v (.int ((2 ^ e : Nat) : Int)), .v (.int (2 ^ n + 1)), .v (rows w n (wgt n s xs)), .v (rows w n (wgt n s ys)), .v (rows w n (dueL n (2 ^ e) T xs ys)),
      .own (((xs.zipIdx.take i).foldl (fun D x => dueRow n (2 ^ e) T x.2 x.1 ys D) (List.replicate (2 ^ e) 0)).map fun x => nv x.val), l11, l12, l13, l14, l15, l16, l17]) _ 0 _ _ ⟨rfl, by exact Nat.zero_le _, _, _, _, _, _, _, _, by rw [List.take_zero, List.foldl_nil, List.map_replicate]; rfl⟩ ?_ ?_
  · rintro i p σ D' K' _ hxx ⟨rfl, hi', l11, l12, l13, l14, l15, l16, l17, rfl⟩ hK' _
    rw [Nat.sub_zero, List.getElem?_map] at hxx
    obtain ⟨x, hx, rfl⟩ := Option.map_eq_some_iff.mp hxx
    obtain ⟨hiz, hxi⟩ := List.getElem?_eq_some_iff.mp hx
    have hi : i < xs.length := by rwa [List.length_zipIdx] at hiz
    have hx2 : x.2 = i := by rw [← hxi]; simp
    have hf := take_fold (fun D x => dueRow n (2 ^ e) T x.2 x.1 ys D) (List.replicate (2 ^ e) 0) xs.zipIdx i hiz
    rw [hxi, hx2] at hf
    rw [hf] at hK'
    have zlen : ((xs.zipIdx.take i).foldl (fun D x => dueRow n (2 ^ e) T x.2 x.1 ys D) (List.replicate (2 ^ e) 0)).length = 2 ^ e := by rw [foldl_len fun zs x => dueRow_len .., List.length_replicate]
    generalize (xs.zipIdx.take i).foldl (fun D x => dueRow n (2 ^ e) T x.2 x.1 ys D) (List.replicate (2 ^ e) 0) = Z at *
    simp only [ZJ, List.set_cons_zero, List.set_cons_succ, hx2]
    refine inner i x.1 Z _ (by omega) zlen fun l13 l14 l15 => ?_
    exact hK' _ _ ⟨rfl, hi, _, _, _, _, _, _, _, rfl⟩
  · rintro σ D' ⟨rfl, hi', l11, l12, l13, l14, l15, l16, l17, rfl⟩
    simp only [List.length_map, List.length_zipIdx, Nat.zero_add]
    rw [← List.length_zipIdx, List.take_length]
    (try dsimp only [Wa, Wb, Wc, Wd, We, Wf, Wg, Wh, Wi, Wj, Wk, Wl, Wm, Wn, Wo, Wp, Wq, Wr, Ws, Wt, Wu, Wv, Ww, Wx, Wy, Wz, WA, WB, WC, WD, WE, WF, WG, WH, WI, WJ, WK, WL, WM, WN, WO, WP, WQ, WR, WS, WT, WU, WV, WW, WX, WY, WZ, W0, W1, W2, W3, W4, Zk, Zl, Zm, Zn, Zo, Zp, Zq, Zr, Zs, Zt, Zu, Zv, Zw, Zx, Zy, Zz, ZA, ZB, ZC, ZD, ZE, ZF, ZG, ZH, ZI, ZJ, setAll, gv0, gv1, gl0, gl0o, gl0d, gl1, gf0, gf1, go0, go1, argsOf, W5, W6, W7, W8, W9, Za, Zb, Zc, Zd, Ze, Zf, Zg, Zh, Zi, Zj, Nat.reduceAdd, Nat.reduceSub]); (try simp only [Zk, Nat.zero_add, Nat.sub_self, Nat.add_zero, Nat.sub_zero, Int.one_mul, Int.toNat_natCast])
    exact c_sameR X (by decide) hw (by exact qbc (by assumption)) (by rw [dueL_len]; omega) hQ
end
end Mine
end

section
open PySem PySem.W PyProof.Rows
set_option maxRecDepth 100000
namespace Mine
theorem val_pieces {B : Nat} : ∀ (m v : Nat), val B ((List.range m).map fun i => v / B ^ i % B) = v % B ^ m
  | 0, v => by simp [val, Nat.mod_one]
  | m + 1, v => by
    rw [List.range_succ, List.map_append, List.map_singleton, val_snoc, val_pieces m v, List.length_map, List.length_range, mod_pow_succ]
theorem sdSum_eq {n : Nat} (z : Nat) : ∀ (xs : List (Fr2 n)) (k : Nat), ((xs.zipIdx k).map fun x => sd n x.1.val * 2 ^ (z * x.2)).sum = sdSum n z k (xs.map fun x => x.val)
  | [], k => rfl
  | x :: r, k => by rw [List.zipIdx_cons, List.map_cons, List.sum_cons, sdSum_eq z r (k + 1)]; rfl

section
variable {prog : Program} {w0 : World} {G0 : Frz} {d : Option Addr} {fa : Nat → Addr} {N : Nat} {w n : Nat} {D : DS} {Q : PV → DS → Prop}

theorem c_pieces (X : Txt G0 fa) (hN : 8 ≤ N) (hw : 1 ≤ w ∧ w ≤ 9) (hn : 1 ≤ n ∧ n ≤ 8) {xs : List (Fr2 n)} (hl : xs.length ≤ 8) (hD : DealOk D) (hQ : ∀ D', Q (.bool true) D') :
    CallOK prog w0 G0 d fa N 38 [.deal, vals xs, .int (n : Int), .int (w : Int)] D Q := by
  refine CallOK.mono (fn_sound X.gl X.hall (N := 7) (F := fn38) (X.at_ 38 (by decide)) rfl good38 rfl ?_) hN fun _ _ h => h
  have lim' := lim_eq
  have hp := Nat.pow_pos (n := n) (show 0 < 2 by decide)
  have hpn : 2 ^ n ≤ 256 := Nat.pow_le_pow_right (n := 2) (by decide) hn.2
  (try dsimp only [fn38, mini38, Wa, Wb, Wc, Wd, We, Wf, Wg, Wh, Wi, Wj, Wk, Wl, Wm, Wn, Wo, Wp, Wq, Wr, Ws, Wt, Wu, Wv, Ww, Wx, Wy, Wz, WA, WB, WC, WD, WE, WF, WG, WH, WI, WJ, WK, WL, WM, WN, WO, WP, WQ, WR, WS, WT, WU, WV, WW, WX, WY, WZ, W0, W1, W2, W3, W4, Zk, Zl, Zm, Zn, Zo, Zp, Zq, Zr, Zs, Zt, Zu, Zv, Zw, Zx, Zy, Zz, ZA, ZB, ZC, ZD, ZE, ZF, ZG, ZH, ZI, ZJ, setAll, gv0, gv1, gl0, gl0o, gl0d, gl1, gf0, gf1, go0, go1, argsOf, W5, W6, W7, W8, W9, Za, Zb, Zc, Zd, Ze, Zf, Zg, Zh, Zi, Zj, Nat.reduceAdd, Nat.reduceSub]); (try simp only [fn38, mini38, Zk, Nat.zero_add, Nat.sub_self, Nat.add_zero, Nat.sub_zero, Int.one_mul, Int.toNat_natCast])
  refine c_take X (m := 9) (by decide) (by decide) hD fun a D1 ha hD1 => ?_
  (try dsimp only [Wa, Wb, Wc, Wd, We, Wf, Wg, Wh, Wi, Wj, Wk, Wl, Wm, Wn, Wo, Wp, Wq, Wr, Ws, Wt, Wu, Wv, Ww, Wx, Wy, Wz, WA, WB, WC, WD, WE, WF, WG, WH, WI, WJ, WK, WL, WM, WN, WO, WP, WQ, WR, WS, WT, WU, WV, WW, WX, WY, WZ, W0, W1, W2, W3, W4, Zk, Zl, Zm, Zn, Zo, Zp, Zq, Zr, Zs, Zt, Zu, Zv, Zw, Zx, Zy, Zz, ZA, ZB, ZC, ZD, ZE, ZF, ZG, ZH, ZI, ZJ, setAll, gv0, gv1, gl0, gl0o, gl0d, gl1, gf0, gf1, go0, go1, argsOf, W5, W6, W7, W8, W9, Za, Zb, Zc, Zd, Ze, Zf, Zg, Zh, Zi, Zj, Nat.reduceAdd, Nat.reduceSub]); (try simp only [Zk, Nat.zero_add, Nat.sub_self, Nat.add_zero, Nat.sub_zero, Int.one_mul, Int.toNat_natCast])
  refine c_take X (m := 5) (by decide) (by decide) hD1 fun b D2 hb hD2 => ?_
  (try dsimp only [Wa, Wb, Wc, Wd, We, Wf, Wg, Wh, Wi, Wj, Wk, Wl, Wm, Wn, Wo, Wp, Wq, Wr, Ws, Wt, Wu, Wv, Ww, Wx, Wy, Wz, WA, WB, WC, WD, WE, WF, WG, WH, WI, WJ, WK, WL, WM, WN, WO, WP, WQ, WR, WS, WT, WU, WV, WW, WX, WY, WZ, W0, W1, W2, W3, W4, Zk, Zl, Zm, Zn, Zo, Zp, Zq, Zr, Zs, Zt, Zu, Zv, Zw, Zx, Zy, Zz, ZA, ZB, ZC, ZD, ZE, ZF, ZG, ZH, ZI, ZJ, setAll, gv0, gv1, gl0, gl0o, gl0d, gl1, gf0, gf1, go0, go1, argsOf, W5, W6, W7, W8, W9, Za, Zb, Zc, Zd, Ze, Zf, Zg, Zh, Zi, Zj, Nat.reduceAdd, Nat.reduceSub]); (try simp only [Zk, Nat.zero_add, Nat.sub_self, Nat.add_zero, Nat.sub_zero, Int.one_mul, Int.toNat_natCast])
  rw [show (1 : Int) + (a : Int) = ((a + 1 : Nat) : Int) by omega, show (1 : Int) + (b : Int) = ((b + 1 : Nat) : Int) by omega]
  have hz : a + 1 ≤ 9 := by assumption
  have hz1 : 1 ≤ a + 1 := by omega
  have hm : b + 1 ≤ 5 := by assumption
  generalize a + 1 = z at *
  generalize b + 1 = m at *
  have hzm : z * m ≤ 45 := Nat.mul_le_mul hz hm
  refine ⟨⟨by exact q64a (by assumption), by exact q64a (by assumption)⟩, ?_⟩
  rw [show (z : Int) * (m : Int) = ((z * m : Nat) : Int) by push_cast; rfl]
  refine c_great X (by decide) hzm hD2 fun v D3 hv hD3 => ?_
  (try dsimp only [Wa, Wb, Wc, Wd, We, Wf, Wg, Wh, Wi, Wj, Wk, Wl, Wm, Wn, Wo, Wp, Wq, Wr, Ws, Wt, Wu, Wv, Ww, Wx, Wy, Wz, WA, WB, WC, WD, WE, WF, WG, WH, WI, WJ, WK, WL, WM, WN, WO, WP, WQ, WR, WS, WT, WU, WV, WW, WX, WY, WZ, W0, W1, W2, W3, W4, Zk, Zl, Zm, Zn, Zo, Zp, Zq, Zr, Zs, Zt, Zu, Zv, Zw, Zx, Zy, Zz, ZA, ZB, ZC, ZD, ZE, ZF, ZG, ZH, ZI, ZJ, setAll, gv0, gv1, gl0, gl0o, gl0d, gl1, gf0, gf1, go0, go1, argsOf, W5, W6, W7, W8, W9, Za, Zb, Zc, Zd, Ze, Zf, Zg, Zh, Zi, Zj, Nat.reduceAdd, Nat.reduceSub]); (try simp only [Zk, Nat.zero_add, Nat.sub_self, Nat.add_zero, Nat.sub_zero, Int.one_mul, Int.toNat_natCast])
  refine c_take X (m := 12) (by decide) (by decide) hD3 fun c D4 hc hD4 => ?_
  (try dsimp only [Wa, Wb, Wc, Wd, We, Wf, Wg, Wh, Wi, Wj, Wk, Wl, Wm, Wn, Wo, Wp, Wq, Wr, Ws, Wt, Wu, Wv, Ww, Wx, Wy, Wz, WA, WB, WC, WD, WE, WF, WG, WH, WI, WJ, WK, WL, WM, WN, WO, WP, WQ, WR, WS, WT, WU, WV, WW, WX, WY, WZ, W0, W1, W2, W3, W4, Zk, Zl, Zm, Zn, Zo, Zp, Zq, Zr, Zs, Zt, Zu, Zv, Zw, Zx, Zy, Zz, ZA, ZB, ZC, ZD, ZE, ZF, ZG, ZH, ZI, ZJ, setAll, gv0, gv1, gl0, gl0o, gl0d, gl1, gf0, gf1, go0, go1, argsOf, W5, W6, W7, W8, W9, Za, Zb, Zc, Zd, Ze, Zf, Zg, Zh, Zi, Zj, Nat.reduceAdd, Nat.reduceSub]); (try simp only [Zk, Nat.zero_add, Nat.sub_self, Nat.add_zero, Nat.sub_zero, Int.one_mul, Int.toNat_natCast])
  rw [show (n : Int) + (c : Int) = ((n + c : Nat) : Int) by exact (Int.natCast_add _ _).symm]
  have ho : 1 ≤ n + c ∧ n + c ≤ 19 := by omega
  generalize n + c = o at *
  have hv45 : v < 2 ^ 45 := Nat.lt_of_lt_of_le hv (Nat.pow_le_pow_right (by decide) hzm)
  have hv900 : v < 2 ^ 900 := Nat.lt_trans hv45 (by decide)
  refine c_row X (by decide) hw (num_len hw (k := 45) (by decide) hv45) ?_
  refine c_in_pieces X (by decide) hw hv900 (by exact qda (by assumption)) (by exact qda (by assumption)) ?_
  (try dsimp only [tl38c, Wa, Wb, Wc, Wd, We, Wf, Wg, Wh, Wi, Wj, Wk, Wl, Wm, Wn, Wo, Wp, Wq, Wr, Ws, Wt, Wu, Wv, Ww, Wx, Wy, Wz, WA, WB, WC, WD, WE, WF, WG, WH, WI, WJ, WK, WL, WM, WN, WO, WP, WQ, WR, WS, WT, WU, WV, WW, WX, WY, WZ, W0, W1, W2, W3, W4, Zk, Zl, Zm, Zn, Zo, Zp, Zq, Zr, Zs, Zt, Zu, Zv, Zw, Zx, Zy, Zz, ZA, ZB, ZC, ZD, ZE, ZF, ZG, ZH, ZI, ZJ, setAll, gv0, gv1, gl0, gl0o, gl0d, gl1, gf0, gf1, go0, go1, argsOf, W5, W6, W7, W8, W9, Za, Zb, Zc, Zd, Ze, Zf, Zg, Zh, Zi, Zj, Nat.reduceAdd, Nat.reduceSub]); (try simp only [Zk, Nat.zero_add, Nat.sub_self, Nat.add_zero, Nat.sub_zero, Int.one_mul, Int.toNat_natCast])
  rw [range_up, List.length_map, List.length_range]
  refine ⟨by exact qla (by assumption), by exact qla (by assumption), ?_⟩
  refine compW_mapL _ (fun i => nv (v / 2 ^ (z * i) % 2 ^ z)) (List.range m) (fun i hi K hK => ?_) ?_
  · have hi' := List.mem_range.mp hi
    have hzi : z * i ≤ 36 := Nat.mul_le_mul hz (show i ≤ 4 by omega)
    have hzi2 : 2 ^ (z * i) ≤ 2 ^ 36 := Nat.pow_le_pow_right (by decide) hzi
    have hzi3 := Nat.pow_pos (n := z * i) (show 0 < 2 by decide)
    have hz3 := Nat.pow_pos (n := z) (show 0 < 2 by decide)
    (try dsimp only [e38x0, nv, tl38c, Wa, Wb, Wc, Wd, We, Wf, Wg, Wh, Wi, Wj, Wk, Wl, Wm, Wn, Wo, Wp, Wq, Wr, Ws, Wt, Wu, Wv, Ww, Wx, Wy, Wz, WA, WB, WC, WD, WE, WF, WG, WH, WI, WJ, WK, WL, WM, WN, WO, WP, WQ, WR, WS, WT, WU, WV, WW, WX, WY, WZ, W0, W1, W2, W3, W4, Zk, Zl, Zm, Zn, Zo, Zp, Zq, Zr, Zs, Zt, Zu, Zv, Zw, Zx, Zy, Zz, ZA, ZB, ZC, ZD, ZE, ZF, ZG, ZH, ZI, ZJ, setAll, gv0, gv1, gl0, gl0o, gl0d, gl1, gf0, gf1, go0, go1, argsOf, W5, W6, W7, W8, W9, Za, Zb, Zc, Zd, Ze, Zf, Zg, Zh, Zi, Zj, Nat.reduceAdd, Nat.reduceSub]); (try simp only [e38x0, nv, Zk, Nat.zero_add, Nat.sub_self, Nat.add_zero, Nat.sub_zero, Int.one_mul, Int.toNat_natCast])
    rw [show (z : Int) * (i : Int) = ((z * i : Nat) : Int) by push_cast; rfl, Int.toNat_natCast, ipow_nat (z * i), ipow_nat z, fdiv_nat, fmod_nat]
    exact ⟨⟨by exact q64a (by assumption), by omega⟩, ⟨by exact Int.natCast_nonneg _, by exact q6a (by assumption), by decide⟩, ⟨by exact qN0 (by assumption), by exact qda (by assumption)⟩, ⟨by exact Int.natCast_nonneg _, by exact q6a (by assumption), by decide⟩, by exact qN0 (by assumption), hK⟩
  have e1 : ((List.range m).map fun i => nv (v / 2 ^ (z * i) % 2 ^ z)) = ((List.range m).map fun i => v / 2 ^ (z * i) % 2 ^ z).map nv := by rw [List.map_map]; rfl
  rw [e1]
  have h64 : ∀ u ∈ (List.range m).map fun i => v / 2 ^ (z * i) % 2 ^ z, u < 2 ^ 64 := fun u hu => by
    obtain ⟨i, _, rfl⟩ := List.mem_map.mp hu
    have h1 := Nat.mod_le (v / 2 ^ (z * i)) (2 ^ z)
    have h2 := Nat.div_le_self v (2 ^ (z * i))
    exact Nat.lt_of_le_of_lt (Nat.le_trans h1 h2) (Nat.lt_trans hv45 (by decide))
  have hval : val (2 ^ z) ((List.range m).map fun i => v / 2 ^ (z * i) % 2 ^ z) = v := by
    have e2 : ((List.range m).map fun i => v / 2 ^ (z * i) % 2 ^ z) = (List.range m).map fun i => v / (2 ^ z) ^ i % 2 ^ z := by
      apply List.map_congr_left
      intro i _
      rw [Nat.pow_mul]
    rw [e2, val_pieces, ← Nat.pow_mul, Nat.mod_eq_of_lt hv]
  refine c_same X (by decide) hw (by simp; omega) h64 ?_
  (try dsimp only [tl38c, Wa, Wb, Wc, Wd, We, Wf, Wg, Wh, Wi, Wj, Wk, Wl, Wm, Wn, Wo, Wp, Wq, Wr, Ws, Wt, Wu, Wv, Ww, Wx, Wy, Wz, WA, WB, WC, WD, WE, WF, WG, WH, WI, WJ, WK, WL, WM, WN, WO, WP, WQ, WR, WS, WT, WU, WV, WW, WX, WY, WZ, W0, W1, W2, W3, W4, Zk, Zl, Zm, Zn, Zo, Zp, Zq, Zr, Zs, Zt, Zu, Zv, Zw, Zx, Zy, Zz, ZA, ZB, ZC, ZD, ZE, ZF, ZG, ZH, ZI, ZJ, setAll, gv0, gv1, gl0, gl0o, gl0d, gl1, gf0, gf1, go0, go1, argsOf, W5, W6, W7, W8, W9, Za, Zb, Zc, Zd, Ze, Zf, Zg, Zh, Zi, Zj, Nat.reduceAdd, Nat.reduceSub]); (try simp only [Bool.not_true, Zk, Nat.zero_add, Nat.sub_self, Nat.add_zero, Nat.sub_zero, Int.one_mul, Int.toNat_natCast])
  refine c_put_together X (by decide) hw (by exact qda (by assumption)) (by simp; omega) (by rw [hval]; exact Nat.lt_trans hv45 (by decide)) ?_
  rw [hval]
  refine c_value X (by decide) hw (Nat.lt_trans hv45 (by decide)) ?_
  (try dsimp only [tl38c, tl38e, tl38f, Wa, Wb, Wc, Wd, We, Wf, Wg, Wh, Wi, Wj, Wk, Wl, Wm, Wn, Wo, Wp, Wq, Wr, Ws, Wt, Wu, Wv, Ww, Wx, Wy, Wz, WA, WB, WC, WD, WE, WF, WG, WH, WI, WJ, WK, WL, WM, WN, WO, WP, WQ, WR, WS, WT, WU, WV, WW, WX, WY, WZ, W0, W1, W2, W3, W4, Zk, Zl, Zm, Zn, Zo, Zp, Zq, Zr, Zs, Zt, Zu, Zv, Zw, Zx, Zy, Zz, ZA, ZB, ZC, ZD, ZE, ZF, ZG, ZH, ZI, ZJ, setAll, gv0, gv1, gl0, gl0o, gl0d, gl1, gf0, gf1, go0, go1, argsOf, W5, W6, W7, W8, W9, Za, Zb, Zc, Zd, Ze, Zf, Zg, Zh, Zi, Zj, Nat.reduceAdd, Nat.reduceSub]); (try simp only [bne_self_eq_false, List.length_map, List.length_zipIdx, Zk, Nat.zero_add, Nat.sub_self, Nat.add_zero, Nat.sub_zero, Int.one_mul, Int.toNat_natCast])
  refine ⟨by exact qla (by assumption), ?_⟩
  refine compW_mapL _ (fun x => .int (sd n x.val)) xs (fun x hx K hK => ?_) ?_
  · (try dsimp only [e38x1, nv, tl38c, tl38e, tl38f, Wa, Wb, Wc, Wd, We, Wf, Wg, Wh, Wi, Wj, Wk, Wl, Wm, Wn, Wo, Wp, Wq, Wr, Ws, Wt, Wu, Wv, Ww, Wx, Wy, Wz, WA, WB, WC, WD, WE, WF, WG, WH, WI, WJ, WK, WL, WM, WN, WO, WP, WQ, WR, WS, WT, WU, WV, WW, WX, WY, WZ, W0, W1, W2, W3, W4, Zk, Zl, Zm, Zn, Zo, Zp, Zq, Zr, Zs, Zt, Zu, Zv, Zw, Zx, Zy, Zz, ZA, ZB, ZC, ZD, ZE, ZF, ZG, ZH, ZI, ZJ, setAll, gv0, gv1, gl0, gl0o, gl0d, gl1, gf0, gf1, go0, go1, argsOf, W5, W6, W7, W8, W9, Za, Zb, Zc, Zd, Ze, Zf, Zg, Zh, Zi, Zj, Nat.reduceAdd, Nat.reduceSub]); (try simp only [e38x1, nv, Zk, Nat.zero_add, Nat.sub_self, Nat.add_zero, Nat.sub_zero, Int.one_mul, Int.toNat_natCast])
    refine ⟨⟨by omega, by omega, by decide⟩, ?_⟩
    rw [show ((n : Int) - 1).toNat = n - 1 by omega, ipow_nat (n - 1)]
    unfold sd at hK
    by_cases h : 2 ^ (n - 1) ≤ x.val
    · rw [show decide (((x.val : Nat) : Int) ≥ ((2 ^ (n - 1) : Nat) : Int)) = true by simp only [decide_eq_true_eq]; omega]
      rw [if_pos h] at hK
      (try dsimp only [tl38c, tl38e, tl38f, Wa, Wb, Wc, Wd, We, Wf, Wg, Wh, Wi, Wj, Wk, Wl, Wm, Wn, Wo, Wp, Wq, Wr, Ws, Wt, Wu, Wv, Ww, Wx, Wy, Wz, WA, WB, WC, WD, WE, WF, WG, WH, WI, WJ, WK, WL, WM, WN, WO, WP, WQ, WR, WS, WT, WU, WV, WW, WX, WY, WZ, W0, W1, W2, W3, W4, Zk, Zl, Zm, Zn, Zo, Zp, Zq, Zr, Zs, Zt, Zu, Zv, Zw, Zx, Zy, Zz, ZA, ZB, ZC, ZD, ZE, ZF, ZG, ZH, ZI, ZJ, setAll, gv0, gv1, gl0, gl0o, gl0d, gl1, gf0, gf1, go0, go1, argsOf, W5, W6, W7, W8, W9, Za, Zb, Zc, Zd, Ze, Zf, Zg, Zh, Zi, Zj, Nat.reduceAdd, Nat.reduceSub]); (try simp only [Zk, Nat.zero_add, Nat.sub_self, Nat.add_zero, Nat.sub_zero, Int.one_mul, Int.toNat_natCast])
      exact ⟨⟨by exact Int.natCast_nonneg _, by exact q6c (by assumption), by decide⟩, hK⟩
    · rw [show decide (((x.val : Nat) : Int) ≥ ((2 ^ (n - 1) : Nat) : Int)) = false by simp only [decide_eq_false_iff_not]; omega]
      rw [if_neg h] at hK
      (try dsimp only [tl38c, tl38e, tl38f, Wa, Wb, Wc, Wd, We, Wf, Wg, Wh, Wi, Wj, Wk, Wl, Wm, Wn, Wo, Wp, Wq, Wr, Ws, Wt, Wu, Wv, Ww, Wx, Wy, Wz, WA, WB, WC, WD, WE, WF, WG, WH, WI, WJ, WK, WL, WM, WN, WO, WP, WQ, WR, WS, WT, WU, WV, WW, WX, WY, WZ, W0, W1, W2, W3, W4, Zk, Zl, Zm, Zn, Zo, Zp, Zq, Zr, Zs, Zt, Zu, Zv, Zw, Zx, Zy, Zz, ZA, ZB, ZC, ZD, ZE, ZF, ZG, ZH, ZI, ZJ, setAll, gv0, gv1, gl0, gl0o, gl0d, gl1, gf0, gf1, go0, go1, argsOf, W5, W6, W7, W8, W9, Za, Zb, Zc, Zd, Ze, Zf, Zg, Zh, Zi, Zj, Nat.reduceAdd, Nat.reduceSub]); (try simp only [Zk, Nat.zero_add, Nat.sub_self, Nat.add_zero, Nat.sub_zero, Int.one_mul, Int.toNat_natCast])
      exact hK
  rw [List.length_map]
  refine ⟨by exact qla (by assumption), ?_⟩
  rw [enum_map]
  refine compW_mapL _ (fun x => .int (sd n x.1.val * 2 ^ (z * x.2))) xs.zipIdx (fun x hx K hK => ?_) ?_
  · obtain ⟨hi, _⟩ := mem_enum (y := x.1) (i := x.2) hx
    have hzi : z * x.2 ≤ 63 := Nat.mul_le_mul hz (show x.2 ≤ 7 by omega)
    have hzi2 : 2 ^ (z * x.2) ≤ 2 ^ 63 := Nat.pow_le_pow_right (by decide) hzi
    have hx1 := x.1.isLt
    (try dsimp only [e38x2, nv, tl38c, tl38e, tl38f, Wa, Wb, Wc, Wd, We, Wf, Wg, Wh, Wi, Wj, Wk, Wl, Wm, Wn, Wo, Wp, Wq, Wr, Ws, Wt, Wu, Wv, Ww, Wx, Wy, Wz, WA, WB, WC, WD, WE, WF, WG, WH, WI, WJ, WK, WL, WM, WN, WO, WP, WQ, WR, WS, WT, WU, WV, WW, WX, WY, WZ, W0, W1, W2, W3, W4, Zk, Zl, Zm, Zn, Zo, Zp, Zq, Zr, Zs, Zt, Zu, Zv, Zw, Zx, Zy, Zz, ZA, ZB, ZC, ZD, ZE, ZF, ZG, ZH, ZI, ZJ, setAll, gv0, gv1, gl0, gl0o, gl0d, gl1, gf0, gf1, go0, go1, argsOf, W5, W6, W7, W8, W9, Za, Zb, Zc, Zd, Ze, Zf, Zg, Zh, Zi, Zj, Nat.reduceAdd, Nat.reduceSub]); (try simp only [e38x2, nv, Zk, Nat.zero_add, Nat.sub_self, Nat.add_zero, Nat.sub_zero, Int.one_mul, Int.toNat_natCast])
    rw [show (z : Int) * (x.2 : Int) = ((z * x.2 : Nat) : Int) by push_cast; rfl, Int.toNat_natCast]
    refine ⟨⟨by exact q64a (by assumption), by omega⟩, ⟨by exact Int.natCast_nonneg _, by exact q6a (by assumption), by decide⟩, ⟨?_, ?_⟩, hK⟩
    · unfold sd
      rw [ipow_nat]
      split <;> omega
    · rw [ipow_nat, Int.natAbs_natCast]
      exact Nat.lt_of_le_of_lt hzi2 (by decide)
  rw [intsOf_ints]
  have hop := Nat.pow_pos (n := o) (show 0 < 2 by decide)
  have hM : (2 : Int) ^ o + 1 = ((2 ^ o + 1 : Nat) : Int) := by rw [ipow_nat]; omega
  (try dsimp only [tl38c, tl38e, tl38f, tl38g, Wa, Wb, Wc, Wd, We, Wf, Wg, Wh, Wi, Wj, Wk, Wl, Wm, Wn, Wo, Wp, Wq, Wr, Ws, Wt, Wu, Wv, Ww, Wx, Wy, Wz, WA, WB, WC, WD, WE, WF, WG, WH, WI, WJ, WK, WL, WM, WN, WO, WP, WQ, WR, WS, WT, WU, WV, WW, WX, WY, WZ, W0, W1, W2, W3, W4, Zk, Zl, Zm, Zn, Zo, Zp, Zq, Zr, Zs, Zt, Zu, Zv, Zw, Zx, Zy, Zz, ZA, ZB, ZC, ZD, ZE, ZF, ZG, ZH, ZI, ZJ, setAll, gv0, gv1, gl0, gl0o, gl0d, gl1, gf0, gf1, go0, go1, argsOf, W5, W6, W7, W8, W9, Za, Zb, Zc, Zd, Ze, Zf, Zg, Zh, Zi, Zj, Nat.reduceAdd, Nat.reduceSub]); (try simp only [List.length_map, Zk, Nat.zero_add, Nat.sub_self, Nat.add_zero, Nat.sub_zero, Int.one_mul, Int.toNat_natCast])
  rw [sdSum_eq, hM]
  refine ⟨⟨by exact Int.natCast_nonneg _, by exact q6c (by assumption), by decide⟩, by exact qp1, by exact qla (by assumption), ?_⟩
  refine compW_mapL _ (fun x => rg w n x) xs (fun x hx K hK => ?_) ?_
  · (try dsimp only [e38x3, tl38c, tl38e, tl38f, tl38g, Wa, Wb, Wc, Wd, We, Wf, Wg, Wh, Wi, Wj, Wk, Wl, Wm, Wn, Wo, Wp, Wq, Wr, Ws, Wt, Wu, Wv, Ww, Wx, Wy, Wz, WA, WB, WC, WD, WE, WF, WG, WH, WI, WJ, WK, WL, WM, WN, WO, WP, WQ, WR, WS, WT, WU, WV, WW, WX, WY, WZ, W0, W1, W2, W3, W4, Zk, Zl, Zm, Zn, Zo, Zp, Zq, Zr, Zs, Zt, Zu, Zv, Zw, Zx, Zy, Zz, ZA, ZB, ZC, ZD, ZE, ZF, ZG, ZH, ZI, ZJ, setAll, gv0, gv1, gl0, gl0o, gl0d, gl1, gf0, gf1, go0, go1, argsOf, W5, W6, W7, W8, W9, Za, Zb, Zc, Zd, Ze, Zf, Zg, Zh, Zi, Zj, Nat.reduceAdd, Nat.reduceSub]); (try simp only [e38x3, Zk, Nat.zero_add, Nat.sub_self, Nat.add_zero, Nat.sub_zero, Int.one_mul, Int.toNat_natCast])
    exact row_fin X (by decide) hw (by exact qbc (by assumption)) hK
  refine c_signed_sum X (by decide) hw hn hl hz (by exact qcc (by assumption)) fun f hf => ?_
  refine c_value X (by decide) hw (val_64 (by exact qbc (by assumption)) f) ?_
  rw [hf, Int.fmod_eq_emod_of_nonneg _ (by exact Int.natCast_nonneg _)]
  (try dsimp only [tl38c, tl38e, tl38f, tl38g, Wa, Wb, Wc, Wd, We, Wf, Wg, Wh, Wi, Wj, Wk, Wl, Wm, Wn, Wo, Wp, Wq, Wr, Ws, Wt, Wu, Wv, Ww, Wx, Wy, Wz, WA, WB, WC, WD, WE, WF, WG, WH, WI, WJ, WK, WL, WM, WN, WO, WP, WQ, WR, WS, WT, WU, WV, WW, WX, WY, WZ, W0, W1, W2, W3, W4, Zk, Zl, Zm, Zn, Zo, Zp, Zq, Zr, Zs, Zt, Zu, Zv, Zw, Zx, Zy, Zz, ZA, ZB, ZC, ZD, ZE, ZF, ZG, ZH, ZI, ZJ, setAll, gv0, gv1, gl0, gl0o, gl0d, gl1, gf0, gf1, go0, go1, argsOf, W5, W6, W7, W8, W9, Za, Zb, Zc, Zd, Ze, Zf, Zg, Zh, Zi, Zj, Nat.reduceAdd, Nat.reduceSub]); (try simp only [bne_self_eq_false, Zk, Nat.zero_add, Nat.sub_self, Nat.add_zero, Nat.sub_zero, Int.one_mul, Int.toNat_natCast])
  refine c_take X (m := 90) (by decide) (by decide) hD4 fun r D5 hr hD5 => ?_
  (try dsimp only [tl38c, tl38e, tl38f, tl38g, tl38i, Wa, Wb, Wc, Wd, We, Wf, Wg, Wh, Wi, Wj, Wk, Wl, Wm, Wn, Wo, Wp, Wq, Wr, Ws, Wt, Wu, Wv, Ww, Wx, Wy, Wz, WA, WB, WC, WD, WE, WF, WG, WH, WI, WJ, WK, WL, WM, WN, WO, WP, WQ, WR, WS, WT, WU, WV, WW, WX, WY, WZ, W0, W1, W2, W3, W4, Zk, Zl, Zm, Zn, Zo, Zp, Zq, Zr, Zs, Zt, Zu, Zv, Zw, Zx, Zy, Zz, ZA, ZB, ZC, ZD, ZE, ZF, ZG, ZH, ZI, ZJ, setAll, gv0, gv1, gl0, gl0o, gl0d, gl1, gf0, gf1, go0, go1, argsOf, W5, W6, W7, W8, W9, Za, Zb, Zc, Zd, Ze, Zf, Zg, Zh, Zi, Zj, Nat.reduceAdd, Nat.reduceSub]); (try simp only [Zk, Nat.zero_add, Nat.sub_self, Nat.add_zero, Nat.sub_zero, Int.one_mul, Int.toNat_natCast])
  refine c_element_of X (by decide) hw (by exact qcc (by assumption)) (by omega) fun g hg => ?_
  refine c_value X (by decide) hw (val_64 (by exact qbc (by assumption)) g) ?_
  have hM2 : (2 : Int) ^ n + 1 = ((2 ^ n + 1 : Nat) : Int) := by rw [ipow_nat]; omega
  rw [hg, hM2]
  (try dsimp only [tl38c, tl38e, tl38f, tl38g, tl38i, Wa, Wb, Wc, Wd, We, Wf, Wg, Wh, Wi, Wj, Wk, Wl, Wm, Wn, Wo, Wp, Wq, Wr, Ws, Wt, Wu, Wv, Ww, Wx, Wy, Wz, WA, WB, WC, WD, WE, WF, WG, WH, WI, WJ, WK, WL, WM, WN, WO, WP, WQ, WR, WS, WT, WU, WV, WW, WX, WY, WZ, W0, W1, W2, W3, W4, Zk, Zl, Zm, Zn, Zo, Zp, Zq, Zr, Zs, Zt, Zu, Zv, Zw, Zx, Zy, Zz, ZA, ZB, ZC, ZD, ZE, ZF, ZG, ZH, ZI, ZJ, setAll, gv0, gv1, gl0, gl0o, gl0d, gl1, gf0, gf1, go0, go1, argsOf, W5, W6, W7, W8, W9, Za, Zb, Zc, Zd, Ze, Zf, Zg, Zh, Zi, Zj, Nat.reduceAdd, Nat.reduceSub]); (try simp only [Zk, Nat.zero_add, Nat.sub_self, Nat.add_zero, Nat.sub_zero, Int.one_mul, Int.toNat_natCast])
  refine ⟨⟨by exact Int.natCast_nonneg _, by exact q6c (by assumption), by decide⟩, by exact qp1, ?_⟩
  rw [Int.fmod_eq_emod_of_nonneg _ (by exact Int.natCast_nonneg _), beq_self_eq_true]
  exact hQ D5
end
end Mine
end

section
open PySem PySem.W PyProof.Rows
set_option maxRecDepth 100000
namespace Mine
noncomputable def dealInit : MSs := match mini27 with
  | .cons a (.cons b (.cons c _)) => .cons a (.cons b (.cons c .nil))
  | r => r
noncomputable def dealRet : ME := .list (.cons (.var 1) (.cons (.int 0) (.cons (.var 2) .nil)))
noncomputable def lawTail : MSs := match mini39 with
  | .cons _ r => r
  | r => r

theorem deal_split : ∃ init v pos, fn27.body = init ++ [.Return (some v) pos] ∧ okSs dealInit fn27.cx init = true ∧ okE dealRet fn27.cx v = true := by
  refine ⟨fn27.body.take 3, _, _, rfl, ?_, ?_⟩
  · decide +kernel
  · decide +kernel
theorem law_split : ∃ nd np id fp e1 es ap pos rest, fn39.body = .Assign [.Name nd np] (.Call (.Name id fp) (e1 :: es) [] ap) pos :: rest ∧ fn39.cx.isVar 1 nd = true ∧ fn39.cx.isFn 27 id = true ∧ okEs (.cons (.var 0) .nil) fn39.cx (e1 :: es) = true ∧ okSs lawTail fn39.cx rest = true := by
  refine ⟨_, _, _, _, _, _, _, _, _, rfl, ?_, ?_, ?_, ?_⟩
  · decide +kernel
  · decide +kernel
  · decide +kernel
  · decide +kernel

section
variable {prog : Program} {w0 : World} {G0 : Frz} {fa : Nat → Addr} {N : Nat}

theorem c_deal (X : Txt G0 fa) {d : Option Addr} {ns : List Int} (hl : ns.length < 1000) {D : DS} : OwnOK prog w0 G0 d fa (N + 1) 27 [LI ns] D fun xs _ => DealOk xs := by
  obtain ⟨init, v, pos, hb, ok1, ok2⟩ := deal_split
  refine fn_own X.gl X.hall (F := fn27) (X.at_ 27 (by decide)) rfl good27 rfl hb ok1 ok2 rfl ?_
  have lim' := lim_eq
  (try dsimp only [dealInit, dealRet, fn27, mini27, Wa, Wb, Wc, Wd, We, Wf, Wg, Wh, Wi, Wj, Wk, Wl, Wm, Wn, Wo, Wp, Wq, Wr, Ws, Wt, Wu, Wv, Ww, Wx, Wy, Wz, WA, WB, WC, WD, WE, WF, WG, WH, WI, WJ, WK, WL, WM, WN, WO, WP, WQ, WR, WS, WT, WU, WV, WW, WX, WY, WZ, W0, W1, W2, W3, W4, Zk, Zl, Zm, Zn, Zo, Zp, Zq, Zr, Zs, Zt, Zu, Zv, Zw, Zx, Zy, Zz, ZA, ZB, ZC, ZD, ZE, ZF, ZG, ZH, ZI, ZJ, setAll, gv0, gv1, gl0, gl0o, gl0d, gl1, gf0, gf1, go0, go1, argsOf, W5, W6, W7, W8, W9, Za, Zb, Zc, Zd, Ze, Zf, Zg, Zh, Zi, Zj, Nat.reduceAdd, Nat.reduceSub]); (try simp only [dealInit, dealRet, fn27, mini27, Zk, Nat.zero_add, Nat.sub_self, Nat.add_zero, Nat.sub_zero, Int.one_mul, Int.toNat_natCast])
  refine ⟨by exact Int.natCast_nonneg _, ?_⟩
  rw [show (24 : Int).toNat = 24 from rfl, ← List.map_take]
  refine ⟨by simp; omega, ?_⟩
  refine compW_mapL _ (fun i => .int (if i < 0 then -i else i)) (ns.take 24) (fun i hi K hK => ?_) ?_
  · (try dsimp only [e27x0, Wa, Wb, Wc, Wd, We, Wf, Wg, Wh, Wi, Wj, Wk, Wl, Wm, Wn, Wo, Wp, Wq, Wr, Ws, Wt, Wu, Wv, Ww, Wx, Wy, Wz, WA, WB, WC, WD, WE, WF, WG, WH, WI, WJ, WK, WL, WM, WN, WO, WP, WQ, WR, WS, WT, WU, WV, WW, WX, WY, WZ, W0, W1, W2, W3, W4, Zk, Zl, Zm, Zn, Zo, Zp, Zq, Zr, Zs, Zt, Zu, Zv, Zw, Zx, Zy, Zz, ZA, ZB, ZC, ZD, ZE, ZF, ZG, ZH, ZI, ZJ, setAll, gv0, gv1, gl0, gl0o, gl0d, gl1, gf0, gf1, go0, go1, argsOf, W5, W6, W7, W8, W9, Za, Zb, Zc, Zd, Ze, Zf, Zg, Zh, Zi, Zj, Nat.reduceAdd, Nat.reduceSub]); (try simp only [e27x0, Zk, Nat.zero_add, Nat.sub_self, Nat.add_zero, Nat.sub_zero, Int.one_mul, Int.toNat_natCast])
    exact hK
  (try dsimp only [Wa, Wb, Wc, Wd, We, Wf, Wg, Wh, Wi, Wj, Wk, Wl, Wm, Wn, Wo, Wp, Wq, Wr, Ws, Wt, Wu, Wv, Ww, Wx, Wy, Wz, WA, WB, WC, WD, WE, WF, WG, WH, WI, WJ, WK, WL, WM, WN, WO, WP, WQ, WR, WS, WT, WU, WV, WW, WX, WY, WZ, W0, W1, W2, W3, W4, Zk, Zl, Zm, Zn, Zo, Zp, Zq, Zr, Zs, Zt, Zu, Zv, Zw, Zx, Zy, Zz, ZA, ZB, ZC, ZD, ZE, ZF, ZG, ZH, ZI, ZJ, setAll, gv0, gv1, gl0, gl0o, gl0d, gl1, gf0, gf1, go0, go1, argsOf, W5, W6, W7, W8, W9, Za, Zb, Zc, Zd, Ze, Zf, Zg, Zh, Zi, Zj, Nat.reduceAdd, Nat.reduceSub]); (try simp only [List.length_map, Zk, Nat.zero_add, Nat.sub_self, Nat.add_zero, Nat.sub_zero, Int.one_mul, Int.toNat_natCast])
  refine ⟨by simp; omega, ?_⟩
  refine forW_inv (fun j σ D' => ∃ (s : Nat) (l3 l4 : Sl), s < 2147483647 ∧ σ = [.v (LI ns), .v (.list ((ns.take 24).map fun i => PV.int (if i < 0 then -i else i))), .v (.int (s : Int)), l3, l4]) _ 0 _ _ ⟨54, _, _, by decide, rfl⟩ ?_ ?_
  · rintro j x σ D' K _ hxx ⟨s, l3, l4, hs, rfl⟩ hK _
    rw [Nat.sub_zero, List.getElem?_map] at hxx
    obtain ⟨y, hy, rfl⟩ := Option.map_eq_some_iff.mp hxx
    (try dsimp only [b27x0, Wa, Wb, Wc, Wd, We, Wf, Wg, Wh, Wi, Wj, Wk, Wl, Wm, Wn, Wo, Wp, Wq, Wr, Ws, Wt, Wu, Wv, Ww, Wx, Wy, Wz, WA, WB, WC, WD, WE, WF, WG, WH, WI, WJ, WK, WL, WM, WN, WO, WP, WQ, WR, WS, WT, WU, WV, WW, WX, WY, WZ, W0, W1, W2, W3, W4, Zk, Zl, Zm, Zn, Zo, Zp, Zq, Zr, Zs, Zt, Zu, Zv, Zw, Zx, Zy, Zz, ZA, ZB, ZC, ZD, ZE, ZF, ZG, ZH, ZI, ZJ, setAll, gv0, gv1, gl0, gl0o, gl0d, gl1, gf0, gf1, go0, go1, argsOf, W5, W6, W7, W8, W9, Za, Zb, Zc, Zd, Ze, Zf, Zg, Zh, Zi, Zj, Nat.reduceAdd, Nat.reduceSub]); (try simp only [b27x0, Zk, Nat.zero_add, Nat.sub_self, Nat.add_zero, Nat.sub_zero, Int.one_mul, Int.toNat_natCast])
    refine ⟨⟨by exact q64b (by assumption), by decide⟩, by decide, by decide, ?_⟩
    have h0 := Int.emod_nonneg ((s : Int) * 16807 + (if y < 0 then -y else y).fmod 1000003 + 23) (b := 2147483647) (by decide)
    have h1 := Int.emod_lt_of_pos ((s : Int) * 16807 + (if y < 0 then -y else y).fmod 1000003 + 23) (b := 2147483647) (by exact Int.natCast_nonneg _)
    rw [Int.fmod_eq_emod_of_nonneg _ (show (0 : Int) ≤ 2147483647 by exact Int.natCast_nonneg _)]
    generalize ((s : Int) * 16807 + (if y < 0 then -y else y).fmod 1000003 + 23) % 2147483647 = q at *
    obtain ⟨t, rfl⟩ := Int.eq_ofNat_of_zero_le h0
    exact hK _ _ ⟨t, _, _, by omega, rfl⟩
  · rintro σ D' ⟨s, l3, l4, hs, rfl⟩
    (try dsimp only [Wa, Wb, Wc, Wd, We, Wf, Wg, Wh, Wi, Wj, Wk, Wl, Wm, Wn, Wo, Wp, Wq, Wr, Ws, Wt, Wu, Wv, Ww, Wx, Wy, Wz, WA, WB, WC, WD, WE, WF, WG, WH, WI, WJ, WK, WL, WM, WN, WO, WP, WQ, WR, WS, WT, WU, WV, WW, WX, WY, WZ, W0, W1, W2, W3, W4, Zk, Zl, Zm, Zn, Zo, Zp, Zq, Zr, Zs, Zt, Zu, Zv, Zw, Zx, Zy, Zz, ZA, ZB, ZC, ZD, ZE, ZF, ZG, ZH, ZI, ZJ, setAll, gv0, gv1, gl0, gl0o, gl0d, gl1, gf0, gf1, go0, go1, argsOf, W5, W6, W7, W8, W9, Za, Zb, Zc, Zd, Ze, Zf, Zg, Zh, Zi, Zj, Nat.reduceAdd, Nat.reduceSub]); (try simp only [Zk, Nat.zero_add, Nat.sub_self, Nat.add_zero, Nat.sub_zero, Int.one_mul, Int.toNat_natCast])
    refine ⟨by decide, (ns.take 24).map (fun i => if i < 0 then -i else i), 0, s, ⟨by simp; omega, hs⟩, ?_⟩
    rw [List.map_map]; rfl

noncomputable def lawA : MS := match mini39 with
  | .cons _ (.cons a _) => a
  | _ => .fail
noncomputable def lawB : MS := match mini39 with
  | .cons _ (.cons _ (.cons b _)) => b
  | _ => .fail
noncomputable def lawT : MSs := match mini39 with
  | .cons _ (.cons _ (.cons _ r)) => r
  | r => r
theorem lawTail_eq : lawTail = .cons lawA (.cons lawB lawT) := rfl

theorem pick {n : Nat} {ys : List PV} (h : ∀ y ∈ ys, ∃ r : Nat, r < 2 ^ n + 1 ∧ y = nv r) : ∃ xs : List (Fr2 n), ys = xs.map fun x => nv x.val := by
  induction ys with
  | nil => exact ⟨[], rfl⟩
  | cons y r ih =>
    obtain ⟨xs, hx⟩ := ih fun z hz => h z (List.mem_cons_of_mem _ hz)
    obtain ⟨v, hv, rfl⟩ := h y List.mem_cons_self
    exact ⟨⟨v, hv⟩ :: xs, by rw [hx]; rfl⟩

theorem c_lawT (X : Txt G0 fa) {z : Addr} {arg : PV} {D : DS} (hD : DealOk D) {w n e : Nat} (hw : 1 ≤ w ∧ w ≤ 9) (hn : 1 ≤ n ∧ n ≤ 8) (he : e ≤ 3) (ho : StOk n e) {l5 l6 l7 l8 l9 : Sl} :
    wpSs (CallOK prog w0 G0 (some z) fa 10) lawT [.v arg, .v .deal, .v (.int ((2 ^ e : Nat) : Int)), .v (.int (w : Int)), .v (.int (n : Int)), l5, l6, l7, l8, l9] D fun fl _ _ => match fl with | .ret (.bool true) => True | _ => False := by
  have lim' := lim_eq
  have hp8 : 2 ^ e ≤ 8 := Nat.pow_le_pow_right (n := 2) (by decide) he
  (try dsimp only [lawT, mini39, Wa, Wb, Wc, Wd, We, Wf, Wg, Wh, Wi, Wj, Wk, Wl, Wm, Wn, Wo, Wp, Wq, Wr, Ws, Wt, Wu, Wv, Ww, Wx, Wy, Wz, WA, WB, WC, WD, WE, WF, WG, WH, WI, WJ, WK, WL, WM, WN, WO, WP, WQ, WR, WS, WT, WU, WV, WW, WX, WY, WZ, W0, W1, W2, W3, W4, Zk, Zl, Zm, Zn, Zo, Zp, Zq, Zr, Zs, Zt, Zu, Zv, Zw, Zx, Zy, Zz, ZA, ZB, ZC, ZD, ZE, ZF, ZG, ZH, ZI, ZJ, setAll, gv0, gv1, gl0, gl0o, gl0d, gl1, gf0, gf1, go0, go1, argsOf, W5, W6, W7, W8, W9, Za, Zb, Zc, Zd, Ze, Zf, Zg, Zh, Zi, Zj, Nat.reduceAdd, Nat.reduceSub]); (try simp only [lawT, mini39, Zk, Nat.zero_add, Nat.sub_self, Nat.add_zero, Nat.sub_zero, Int.one_mul, Int.toNat_natCast])
  refine ⟨⟨by decide, by exact q64c (by assumption)⟩, ?_⟩
  rw [show (4 : Int) * (n : Int) = ((4 * n : Nat) : Int) by exact (Int.natCast_mul _ _).symm]
  refine c_take X (by decide) (by omega) hD fun q D1 hq hD1 => ?_
  (try dsimp only [Wa, Wb, Wc, Wd, We, Wf, Wg, Wh, Wi, Wj, Wk, Wl, Wm, Wn, Wo, Wp, Wq, Wr, Ws, Wt, Wu, Wv, Ww, Wx, Wy, Wz, WA, WB, WC, WD, WE, WF, WG, WH, WI, WJ, WK, WL, WM, WN, WO, WP, WQ, WR, WS, WT, WU, WV, WW, WX, WY, WZ, W0, W1, W2, W3, W4, Zk, Zl, Zm, Zn, Zo, Zp, Zq, Zr, Zs, Zt, Zu, Zv, Zw, Zx, Zy, Zz, ZA, ZB, ZC, ZD, ZE, ZF, ZG, ZH, ZI, ZJ, setAll, gv0, gv1, gl0, gl0o, gl0d, gl1, gf0, gf1, go0, go1, argsOf, W5, W6, W7, W8, W9, Za, Zb, Zc, Zd, Ze, Zf, Zg, Zh, Zi, Zj, Nat.reduceAdd, Nat.reduceSub]); (try simp only [List.length_map, Zk, Nat.zero_add, Nat.sub_self, Nat.add_zero, Nat.sub_zero, Int.one_mul, Int.toNat_natCast])
  have hna : ((2 ^ e : Nat) : Int).natAbs < lim := by rw [Int.natAbs_natCast]; omega
  rw [range_up, range_up_len]
  refine ⟨⟨by decide, by exact q64c (by assumption)⟩, hna, by assumption, ?_⟩
  refine compW_deal DealOk (fun v => ∃ r : Nat, r < 2 ^ n + 1 ∧ v = nv r) _ [] hD1 (fun x _ D hD K hK => ?_) fun ys D2 hl1 hP1 hD2 => ?_
  · (try dsimp only [e39x0, Wa, Wb, Wc, Wd, We, Wf, Wg, Wh, Wi, Wj, Wk, Wl, Wm, Wn, Wo, Wp, Wq, Wr, Ws, Wt, Wu, Wv, Ww, Wx, Wy, Wz, WA, WB, WC, WD, WE, WF, WG, WH, WI, WJ, WK, WL, WM, WN, WO, WP, WQ, WR, WS, WT, WU, WV, WW, WX, WY, WZ, W0, W1, W2, W3, W4, Zk, Zl, Zm, Zn, Zo, Zp, Zq, Zr, Zs, Zt, Zu, Zv, Zw, Zx, Zy, Zz, ZA, ZB, ZC, ZD, ZE, ZF, ZG, ZH, ZI, ZJ, setAll, gv0, gv1, gl0, gl0o, gl0d, gl1, gf0, gf1, go0, go1, argsOf, W5, W6, W7, W8, W9, Za, Zb, Zc, Zd, Ze, Zf, Zg, Zh, Zi, Zj, Nat.reduceAdd, Nat.reduceSub]); (try simp only [e39x0, Zk, Nat.zero_add, Nat.sub_self, Nat.add_zero, Nat.sub_zero, Int.one_mul, Int.toNat_natCast])
    exact c_element X (by decide) (by exact qbc (by assumption)) hD fun r D' hr hD' => hK _ _ ⟨r, hr, rfl⟩ hD'
  obtain ⟨xs, rfl⟩ := pick hP1
  (try dsimp only [Wa, Wb, Wc, Wd, We, Wf, Wg, Wh, Wi, Wj, Wk, Wl, Wm, Wn, Wo, Wp, Wq, Wr, Ws, Wt, Wu, Wv, Ww, Wx, Wy, Wz, WA, WB, WC, WD, WE, WF, WG, WH, WI, WJ, WK, WL, WM, WN, WO, WP, WQ, WR, WS, WT, WU, WV, WW, WX, WY, WZ, W0, W1, W2, W3, W4, Zk, Zl, Zm, Zn, Zo, Zp, Zq, Zr, Zs, Zt, Zu, Zv, Zw, Zx, Zy, Zz, ZA, ZB, ZC, ZD, ZE, ZF, ZG, ZH, ZI, ZJ, setAll, gv0, gv1, gl0, gl0o, gl0d, gl1, gf0, gf1, go0, go1, argsOf, W5, W6, W7, W8, W9, Za, Zb, Zc, Zd, Ze, Zf, Zg, Zh, Zi, Zj, Nat.reduceAdd, Nat.reduceSub]); (try simp only [Zk, Nat.zero_add, Nat.sub_self, Nat.add_zero, Nat.sub_zero, Int.one_mul, Int.toNat_natCast])
  refine ⟨hna, by assumption, ?_⟩
  refine compW_deal DealOk (fun v => ∃ r : Nat, r < 2 ^ n + 1 ∧ v = nv r) _ [] hD2 (fun x _ D hD K hK => ?_) fun ys D3 hl2 hP2 hD3 => ?_
  · (try dsimp only [e39x1, Wa, Wb, Wc, Wd, We, Wf, Wg, Wh, Wi, Wj, Wk, Wl, Wm, Wn, Wo, Wp, Wq, Wr, Ws, Wt, Wu, Wv, Ww, Wx, Wy, Wz, WA, WB, WC, WD, WE, WF, WG, WH, WI, WJ, WK, WL, WM, WN, WO, WP, WQ, WR, WS, WT, WU, WV, WW, WX, WY, WZ, W0, W1, W2, W3, W4, Zk, Zl, Zm, Zn, Zo, Zp, Zq, Zr, Zs, Zt, Zu, Zv, Zw, Zx, Zy, Zz, ZA, ZB, ZC, ZD, ZE, ZF, ZG, ZH, ZI, ZJ, setAll, gv0, gv1, gl0, gl0o, gl0d, gl1, gf0, gf1, go0, go1, argsOf, W5, W6, W7, W8, W9, Za, Zb, Zc, Zd, Ze, Zf, Zg, Zh, Zi, Zj, Nat.reduceAdd, Nat.reduceSub]); (try simp only [e39x1, Zk, Nat.zero_add, Nat.sub_self, Nat.add_zero, Nat.sub_zero, Int.one_mul, Int.toNat_natCast])
    exact c_element X (by decide) (by exact qbc (by assumption)) hD fun r D' hr hD' => hK _ _ ⟨r, hr, rfl⟩ hD'
  obtain ⟨xs2, rfl⟩ := pick hP2
  rw [List.length_map, List.length_map, List.length_range] at hl1 hl2
  (try dsimp only [Wa, Wb, Wc, Wd, We, Wf, Wg, Wh, Wi, Wj, Wk, Wl, Wm, Wn, Wo, Wp, Wq, Wr, Ws, Wt, Wu, Wv, Ww, Wx, Wy, Wz, WA, WB, WC, WD, WE, WF, WG, WH, WI, WJ, WK, WL, WM, WN, WO, WP, WQ, WR, WS, WT, WU, WV, WW, WX, WY, WZ, W0, W1, W2, W3, W4, Zk, Zl, Zm, Zn, Zo, Zp, Zq, Zr, Zs, Zt, Zu, Zv, Zw, Zx, Zy, Zz, ZA, ZB, ZC, ZD, ZE, ZF, ZG, ZH, ZI, ZJ, setAll, gv0, gv1, gl0, gl0o, gl0d, gl1, gf0, gf1, go0, go1, argsOf, W5, W6, W7, W8, W9, Za, Zb, Zc, Zd, Ze, Zf, Zg, Zh, Zi, Zj, Nat.reduceAdd, Nat.reduceSub]); (try simp only [Zk, Nat.zero_add, Nat.sub_self, Nat.add_zero, Nat.sub_zero, Int.one_mul, Int.toNat_natCast])
  refine c_values X (by decide) hw hn he ho (by omega) hl1 ?_
  (try dsimp only [Wa, Wb, Wc, Wd, We, Wf, Wg, Wh, Wi, Wj, Wk, Wl, Wm, Wn, Wo, Wp, Wq, Wr, Ws, Wt, Wu, Wv, Ww, Wx, Wy, Wz, WA, WB, WC, WD, WE, WF, WG, WH, WI, WJ, WK, WL, WM, WN, WO, WP, WQ, WR, WS, WT, WU, WV, WW, WX, WY, WZ, W0, W1, W2, W3, W4, Zk, Zl, Zm, Zn, Zo, Zp, Zq, Zr, Zs, Zt, Zu, Zv, Zw, Zx, Zy, Zz, ZA, ZB, ZC, ZD, ZE, ZF, ZG, ZH, ZI, ZJ, setAll, gv0, gv1, gl0, gl0o, gl0d, gl1, gf0, gf1, go0, go1, argsOf, W5, W6, W7, W8, W9, Za, Zb, Zc, Zd, Ze, Zf, Zg, Zh, Zi, Zj, Nat.reduceAdd, Nat.reduceSub]); (try simp only [Bool.not_true, Zk, Nat.zero_add, Nat.sub_self, Nat.add_zero, Nat.sub_zero, Int.one_mul, Int.toNat_natCast])
  refine c_round X (by decide) hw hn he ho (by omega) hl1 hl2 ?_
  (try dsimp only [Wa, Wb, Wc, Wd, We, Wf, Wg, Wh, Wi, Wj, Wk, Wl, Wm, Wn, Wo, Wp, Wq, Wr, Ws, Wt, Wu, Wv, Ww, Wx, Wy, Wz, WA, WB, WC, WD, WE, WF, WG, WH, WI, WJ, WK, WL, WM, WN, WO, WP, WQ, WR, WS, WT, WU, WV, WW, WX, WY, WZ, W0, W1, W2, W3, W4, Zk, Zl, Zm, Zn, Zo, Zp, Zq, Zr, Zs, Zt, Zu, Zv, Zw, Zx, Zy, Zz, ZA, ZB, ZC, ZD, ZE, ZF, ZG, ZH, ZI, ZJ, setAll, gv0, gv1, gl0, gl0o, gl0d, gl1, gf0, gf1, go0, go1, argsOf, W5, W6, W7, W8, W9, Za, Zb, Zc, Zd, Ze, Zf, Zg, Zh, Zi, Zj, Nat.reduceAdd, Nat.reduceSub]); (try simp only [Bool.not_true, Zk, Nat.zero_add, Nat.sub_self, Nat.add_zero, Nat.sub_zero, Int.one_mul, Int.toNat_natCast])
  exact c_pieces X (by decide) hw hn (by omega) hD3 fun D' => trivial

theorem c_law (X : Txt G0 fa) {z : Addr} {arg : PV} {D : DS} (hD : DealOk D) : wpSs (CallOK prog w0 G0 (some z) fa 10) lawTail ((argsOf fn39 [arg]).set 1 (.v .deal)) D fun fl _ _ => match fl with | .ret (.bool true) => True | _ => False := by
  have lim' := lim_eq
  rw [lawTail_eq]
  (try dsimp only [lawA, lawB, mini39, fn39, Wa, Wb, Wc, Wd, We, Wf, Wg, Wh, Wi, Wj, Wk, Wl, Wm, Wn, Wo, Wp, Wq, Wr, Ws, Wt, Wu, Wv, Ww, Wx, Wy, Wz, WA, WB, WC, WD, WE, WF, WG, WH, WI, WJ, WK, WL, WM, WN, WO, WP, WQ, WR, WS, WT, WU, WV, WW, WX, WY, WZ, W0, W1, W2, W3, W4, Zk, Zl, Zm, Zn, Zo, Zp, Zq, Zr, Zs, Zt, Zu, Zv, Zw, Zx, Zy, Zz, ZA, ZB, ZC, ZD, ZE, ZF, ZG, ZH, ZI, ZJ, setAll, gv0, gv1, gl0, gl0o, gl0d, gl1, gf0, gf1, go0, go1, argsOf, W5, W6, W7, W8, W9, Za, Zb, Zc, Zd, Ze, Zf, Zg, Zh, Zi, Zj, Nat.reduceAdd, Nat.reduceSub]); (try simp only [lawA, lawB, mini39, fn39, Zk, Nat.zero_add, Nat.sub_self, Nat.add_zero, Nat.sub_zero, Int.one_mul, Int.toNat_natCast])
  refine ⟨by decide, ?_⟩
  refine c_take X (m := 4) (by decide) (by decide) hD fun r D1 hr hD1 => ?_
  (try dsimp only [Wa, Wb, Wc, Wd, We, Wf, Wg, Wh, Wi, Wj, Wk, Wl, Wm, Wn, Wo, Wp, Wq, Wr, Ws, Wt, Wu, Wv, Ww, Wx, Wy, Wz, WA, WB, WC, WD, WE, WF, WG, WH, WI, WJ, WK, WL, WM, WN, WO, WP, WQ, WR, WS, WT, WU, WV, WW, WX, WY, WZ, W0, W1, W2, W3, W4, Zk, Zl, Zm, Zn, Zo, Zp, Zq, Zr, Zs, Zt, Zu, Zv, Zw, Zx, Zy, Zz, ZA, ZB, ZC, ZD, ZE, ZF, ZG, ZH, ZI, ZJ, setAll, gv0, gv1, gl0, gl0o, gl0d, gl1, gf0, gf1, go0, go1, argsOf, W5, W6, W7, W8, W9, Za, Zb, Zc, Zd, Ze, Zf, Zg, Zh, Zi, Zj, Nat.reduceAdd, Nat.reduceSub]); (try simp only [Zk, Nat.zero_add, Nat.sub_self, Nat.add_zero, Nat.sub_zero, Int.one_mul, Int.toNat_natCast])
  rcases (show r = 0 ∨ r = 1 ∨ r = 2 ∨ r = 3 by omega) with rfl | rfl | rfl | rfl
  · refine idx_rule 0 (by decide) rfl ?_ rfl
    refine c_take X (m := 7) (by decide) (by decide) hD1 fun q D2 hq hD2 => ?_
    rw [Zr, ZG, show decide ((1 : Int) > 1) = false from rfl, Zq]
    refine c_take X (m := 8) (by decide) (by decide) hD2 fun k D3 hk hD3 => ?_
    rw [Zr, show (3 : Int) + (q : Int) = ((3 + q : Nat) : Int) by exact (Int.natCast_add _ _).symm, show (1 : Int) + (k : Int) = ((1 + k : Nat) : Int) by exact (Int.natCast_add _ _).symm]
    exact c_lawT (e := 0) X hD3 (by omega) (by omega) (by exact Nat.zero_le _) (.inl rfl)
  · refine idx_rule 1 (by decide) rfl ?_ rfl
    refine c_take X (m := 7) (by decide) (by decide) hD1 fun q D2 hq hD2 => ?_
    rw [Zr, ZG, show decide ((2 : Int) > 1) = true from rfl, Zp]
    refine ⟨by decide, ?_⟩
    rw [Zl]
    refine idx_rule 1 (by decide) rfl ?_ rfl
    refine c_take X (m := 4) (by decide) (by decide) hD2 fun k D3 hk hD3 => ?_
    rw [Zr, Zt, show (3 : Int) + (q : Int) = ((3 + q : Nat) : Int) by exact (Int.natCast_add _ _).symm, show (2 : Int) * (1 + (k : Int)) = ((2 * (1 + k) : Nat) : Int) by exact (Int.natCast_mul _ _).symm]
    refine ⟨⟨by decide, by omega⟩, ?_⟩
    exact c_lawT (e := 1) X hD3 (by omega) (by omega) (by decide) (.inr (by omega))
  · refine idx_rule 2 (by decide) rfl ?_ rfl
    refine c_take X (m := 7) (by decide) (by decide) hD1 fun q D2 hq hD2 => ?_
    rw [Zr, ZG, show decide ((4 : Int) > 1) = true from rfl, Zp]
    refine ⟨by decide, ?_⟩
    rw [Zl]
    refine idx_rule 2 (by decide) rfl ?_ rfl
    refine c_take X (m := 2) (by decide) (by decide) hD2 fun k D3 hk hD3 => ?_
    rw [Zr, Zt, show (3 : Int) + (q : Int) = ((3 + q : Nat) : Int) by exact (Int.natCast_add _ _).symm, show (4 : Int) * (1 + (k : Int)) = ((4 * (1 + k) : Nat) : Int) by exact (Int.natCast_mul _ _).symm]
    refine ⟨⟨by decide, by omega⟩, ?_⟩
    exact c_lawT (e := 2) X hD3 (by omega) (by omega) (by decide) (.inr (by omega))
  · refine idx_rule 3 (by decide) rfl ?_ rfl
    refine c_take X (m := 7) (by decide) (by decide) hD1 fun q D2 hq hD2 => ?_
    rw [Zr, ZG, show decide ((8 : Int) > 1) = true from rfl, Zp]
    refine ⟨by decide, ?_⟩
    rw [Zl]
    refine idx_rule 3 (by decide) rfl ?_ rfl
    refine c_take X (m := 1) (by decide) (by decide) hD2 fun k D3 hk hD3 => ?_
    rw [Zr, Zt, show (3 : Int) + (q : Int) = ((3 + q : Nat) : Int) by exact (Int.natCast_add _ _).symm, show (8 : Int) * (1 + (k : Int)) = ((8 * (1 + k) : Nat) : Int) by exact (Int.natCast_mul _ _).symm]
    refine ⟨⟨by decide, by omega⟩, ?_⟩
    exact c_lawT (e := 3) X hD3 (by omega) (by omega) (by decide) (.inr (by omega))
end
end Mine
end

section
open PySem.Calls
open PySem PySem.W PyProof.Rows
set_option maxRecDepth 100000
namespace Mine

noncomputable def idxOf (k : Nat) : Nat := [3, 4, 5, 6, 7, 8, 9, 10, 11, 13, 14, 15, 16, 17, 18, 19, 20, 21, 22, 23, 24, 25, 26, 27, 28, 29, 31, 33, 34, 35, 36, 37, 38, 39, 40, 41, 42, 43, 44, 45][k]?.getD 45

/-- what is asked of a text's view: its defs are these -/
structure ViewOk (p : Program) (loose : List Str) : Prop where
  recs : ∀ k, k < 40 → (recsOf p)[k]? = some (defAt (idxOf k))
  names : ((recsOf p).map (·.name)) = fsN
  free : ∀ x ∈ ([("len" : Str), "abs", "sum", "int", "range", "enumerate", "zip"] : List Str), x ∉ startupNames ∧ x ∉ loose ∧ x ∉ (recsOf p).map (·.name) ∧ x ∉ (litsOf p).map (·.1) ∧ x ∉ (clssOf p loose).map (·.name)

theorem fsN_get {p : Program} {loose : List Str} (V : ViewOk p loose) {k : Nat} {n : Str} (h : fsN[k]? = some n) : k < 40 ∧ n = (defAt (idxOf k)).name := by
  have hk : k < 40 := by
    have := (List.getElem?_eq_some_iff.mp h).1
    have e : fsN.length = 40 := by decide
    omega
  refine ⟨hk, ?_⟩
  rw [← V.names, List.getElem?_map, V.recs k hk] at h
  exact (Option.some.inj h).symm

theorem fnAt_of {F : Fn} {i : Nat} {h : Heap} {a : Addr} (hks : F.cx.ks = F.scope.names) (hp : F.params = (defAt i).params) (hb : F.body = (defAt i).body) (hs : F.scope = (defAt i).scope)
    (hbind : ∀ (pm cd doc : Value) (vs : List Value), vs.length = F.pn.length → bindArgs (docDef (defAt i).name (defAt i).params (defAt i).body (defAt i).scope pm cd doc) ⟨vs, []⟩ = pure (F.pn.zip vs))
    (x : ∃ o pm code doc, h.get? a = some o ∧ o.data = .func (docDef (defAt i).name (defAt i).params (defAt i).body (defAt i).scope pm code doc) ∧ h.CodeRec code (defAt i).name) : FnAt (fun a => h.get? a) a F := by
  obtain ⟨o, pm, code, doc, h2, h3, h4⟩ := x
  refine ⟨hks, o, _, h2, h3, hp.symm, ?_, hs.symm, rfl, rfl, rfl, fun h' s => h4.keeps fun b o e => s b o e, hbind pm code doc⟩
  rw [hb]; rfl

theorem at0 (P : Nat → Prop) : ∀ k, k < 0 → P k := fun _ h => absurd h (Nat.not_lt_zero _)
theorem at1 {P : Nat → Prop} {n : Nat} (h : ∀ k, k < n → P k) (p : P n) : ∀ k, k < n + 1 → P k := fun k hk => by
  rcases Nat.lt_succ_iff_lt_or_eq.mp hk with hk | rfl
  · exact h k hk
  · exact p

theorem txt_of {p : Program} {loose : List Str} {mean : ExcName → Option Value} {mg mb : Str → Option Value} {h : Heap} (T : Top p loose mean mg mb h) (V : ViewOk p loose) :
    ∃ fa : Nat → Addr, Txt (fun a => h.get? a) fa ∧ mg (defAt 45).name = some (.ref (fa 39)) := by
  have key : ∀ k, ∃ a, ∃ o pm code doc, mg (defAt (idxOf k)).name = some (.ref a) ∧ h.get? a = some o ∧ o.data = .func (docDef (defAt (idxOf k)).name (defAt (idxOf k)).params (defAt (idxOf k)).body (defAt (idxOf k)).scope pm code doc) ∧ h.CodeRec code (defAt (idxOf k)).name := by
    intro k
    have main : ∀ k, k < 40 → ∃ a, ∃ o pm code doc, mg (defAt (idxOf k)).name = some (.ref a) ∧ h.get? a = some o ∧ o.data = .func (docDef (defAt (idxOf k)).name (defAt (idxOf k)).params (defAt (idxOf k)).body (defAt (idxOf k)).scope pm code doc) ∧ h.CodeRec code (defAt (idxOf k)).name :=
      fun k hk => T.fn _ (List.mem_of_getElem? (V.recs k hk))
    by_cases hk : k < 40
    · exact main k hk
    · have e : idxOf k = idxOf 39 := by
        unfold idxOf
        rw [List.getElem?_eq_none (Nat.le_of_not_lt hk)]
        rfl
      rw [e]
      exact main 39 (by decide)
  obtain ⟨fa, hfa⟩ : ∃ fa : Nat → Addr, ∀ k, ∃ o pm code doc, mg (defAt (idxOf k)).name = some (.ref (fa k)) ∧ h.get? (fa k) = some o ∧ o.data = .func (docDef (defAt (idxOf k)).name (defAt (idxOf k)).params (defAt (idxOf k)).body (defAt (idxOf k)).scope pm code doc) ∧ h.CodeRec code (defAt (idxOf k)).name := ⟨fun k => Classical.choose (key k), fun k => Classical.choose_spec (key k)⟩
  have kp : ∀ h' : Heap, Sub (fun a => h.get? a) h' → ∀ b o, h.get? b = some o → h'.get? b = some o := fun h' s b o e => s b o e
  have fr : ∀ x ∈ ([("len" : Str), "abs", "sum", "int", "range", "enumerate", "zip"] : List Str), mg x = none := fun x hx => by
    obtain ⟨a, b, c, d, e⟩ := V.free x hx
    exact T.free x a b c d e
  refine ⟨fa, ⟨⟨fun h' s => T.nolimit.keeps (kp h' s), ⟨mg, mb, fun h' s => T.g.keeps (kp h' s), fun h' s => T.b.keeps (kp h' s), fun k n e => ?_, ⟨fr _ (by simp), ?_⟩, ⟨fr _ (by simp), ?_⟩, ⟨fr _ (by simp), ?_⟩, ⟨fr _ (by simp), ?_⟩, ⟨fr _ (by simp), ?_⟩, ⟨fr _ (by simp), ?_⟩, ⟨fr _ (by simp), ?_⟩⟩, fun k n e => ?_⟩, fun k => ?_, fun k hk => ?_⟩, ?_⟩
  · obtain ⟨hk, rfl⟩ := fsN_get V e
    obtain ⟨o, pm, code, doc, h1, _⟩ := hfa k
    exact h1
  · rw [T.builtins _ (by decide)]; rfl
  · rw [T.builtins _ (by decide)]; rfl
  · rw [T.builtins _ (by decide)]; rfl
  · rw [T.builtins _ (by decide)]; rfl
  · rw [T.builtins _ (by decide)]; rfl
  · rw [T.builtins _ (by decide)]; rfl
  · rw [T.builtins _ (by decide)]; rfl
  · obtain ⟨o, pm, code, doc, h1, h2, h3, h4⟩ := hfa k
    exact ⟨o, _, h2, h3⟩
  · obtain ⟨o, pm, code, doc, h1, h2, h3, h4⟩ := hfa k
    exact ⟨o, _, h2, h3⟩
  · have fx : ∀ k, ∃ o pm code doc, h.get? (fa k) = some o ∧ o.data = .func (docDef (defAt (idxOf k)).name (defAt (idxOf k)).params (defAt (idxOf k)).body (defAt (idxOf k)).scope pm code doc) ∧ h.CodeRec code (defAt (idxOf k)).name := fun k =>
      let ⟨o, pm, code, doc, h1, h2, h3, h4⟩ := hfa k
      ⟨o, pm, code, doc, h2, h3, h4⟩
    exact (at1 (at1 (at1 (at1 (at1 (at1 (at1 (at1 (at1 (at1 (at1 (at1 (at1 (at1 (at1 (at1 (at1 (at1 (at1 (at1 (at1 (at1 (at1 (at1 (at1 (at1 (at1 (at1 (at1 (at1 (at1 (at1 (at1 (at1 (at1 (at1 (at1 (at1 (at1 (at1 (at0 fun k => FnAt (fun a => h.get? a) (fa k) (fnAll k)) (fnAt_of (F := fn0) (i := 3) rfl rfl rfl rfl bind0 (fx 0))) (fnAt_of (F := fn1) (i := 4) rfl rfl rfl rfl bind1 (fx 1))) (fnAt_of (F := fn2) (i := 5) rfl rfl rfl rfl bind2 (fx 2))) (fnAt_of (F := fn3) (i := 6) rfl rfl rfl rfl bind3 (fx 3))) (fnAt_of (F := fn4) (i := 7) rfl rfl rfl rfl bind4 (fx 4))) (fnAt_of (F := fn5) (i := 8) rfl rfl rfl rfl bind5 (fx 5))) (fnAt_of (F := fn6) (i := 9) rfl rfl rfl rfl bind6 (fx 6))) (fnAt_of (F := fn7) (i := 10) rfl rfl rfl rfl bind7 (fx 7))) (fnAt_of (F := fn8) (i := 11) rfl rfl rfl rfl bind8 (fx 8))) (fnAt_of (F := fn9) (i := 13) rfl rfl rfl rfl bind9 (fx 9))) (fnAt_of (F := fn10) (i := 14) rfl rfl rfl rfl bind10 (fx 10))) (fnAt_of (F := fn11) (i := 15) rfl rfl rfl rfl bind11 (fx 11))) (fnAt_of (F := fn12) (i := 16) rfl rfl rfl rfl bind12 (fx 12))) (fnAt_of (F := fn13) (i := 17) rfl rfl rfl rfl bind13 (fx 13))) (fnAt_of (F := fn14) (i := 18) rfl rfl rfl rfl bind14 (fx 14))) (fnAt_of (F := fn15) (i := 19) rfl rfl rfl rfl bind15 (fx 15))) (fnAt_of (F := fn16) (i := 20) rfl rfl rfl rfl bind16 (fx 16))) (fnAt_of (F := fn17) (i := 21) rfl rfl rfl rfl bind17 (fx 17))) (fnAt_of (F := fn18) (i := 22) rfl rfl rfl rfl bind18 (fx 18))) (fnAt_of (F := fn19) (i := 23) rfl rfl rfl rfl bind19 (fx 19))) (fnAt_of (F := fn20) (i := 24) rfl rfl rfl rfl bind20 (fx 20))) (fnAt_of (F := fn21) (i := 25) rfl rfl rfl rfl bind21 (fx 21))) (fnAt_of (F := fn22) (i := 26) rfl rfl rfl rfl bind22 (fx 22))) (fnAt_of (F := fn23) (i := 27) rfl rfl rfl rfl bind23 (fx 23))) (fnAt_of (F := fn24) (i := 28) rfl rfl rfl rfl bind24 (fx 24))) (fnAt_of (F := fn25) (i := 29) rfl rfl rfl rfl bind25 (fx 25))) (fnAt_of (F := fn26) (i := 31) rfl rfl rfl rfl bind26 (fx 26))) (fnAt_of (F := fn27) (i := 33) rfl rfl rfl rfl bind27 (fx 27))) (fnAt_of (F := fn28) (i := 34) rfl rfl rfl rfl bind28 (fx 28))) (fnAt_of (F := fn29) (i := 35) rfl rfl rfl rfl bind29 (fx 29))) (fnAt_of (F := fn30) (i := 36) rfl rfl rfl rfl bind30 (fx 30))) (fnAt_of (F := fn31) (i := 37) rfl rfl rfl rfl bind31 (fx 31))) (fnAt_of (F := fn32) (i := 38) rfl rfl rfl rfl bind32 (fx 32))) (fnAt_of (F := fn33) (i := 39) rfl rfl rfl rfl bind33 (fx 33))) (fnAt_of (F := fn34) (i := 40) rfl rfl rfl rfl bind34 (fx 34))) (fnAt_of (F := fn35) (i := 41) rfl rfl rfl rfl bind35 (fx 35))) (fnAt_of (F := fn36) (i := 42) rfl rfl rfl rfl bind36 (fx 36))) (fnAt_of (F := fn37) (i := 43) rfl rfl rfl rfl bind37 (fx 37))) (fnAt_of (F := fn38) (i := 44) rfl rfl rfl rfl bind38 (fx 38))) (fnAt_of (F := fn39) (i := 45) rfl rfl rfl rfl bind39 (fx 39))) k hk
  · obtain ⟨o, pm, code, doc, h1, h2, h3, h4⟩ := hfa 39
    exact h1
end Mine
end

section
open PySem.Calls
open PySem PySem.W PyProof.Rows
set_option maxRecDepth 100000
namespace Mine

theorem reps_ints {d : Option Addr} {fa : Nat → Addr} {S : Frz} {vs : List Value} {ns : List Int} (h : IntsAre vs ns) : Reps d fa S vs (ns.map PV.int) := by
  induction h with
  | nil => exact .nil
  | cons i t _ ih => exact .cons (.int i t) ih

theorem law_end {prog p : Program} {loose : List Str} {mean : ExcName → Option Value} {mg mb : Str → Option Value} {w : World} {s₁ : Shared} (T : Top p loose mean mg mb s₁.heap) (V : ViewOk p loose) {f : Addr} (hmg : mg (defAt 45).name = some (.ref f))
    {ns : List Int} {a : Addr} {vs : List Value} (hL : s₁.heap.IsList a vs.toArray) (hI : IntsAre vs ns) (hl : ns.length < 1000) {R : Value → Shared → Prop} {E : Value → Shared → Prop} (hR : ∀ h' tk, Grew s₁.heap h' → R (.bool true) { s₁ with heap := h', toks := tk }) :
    wpAny (model prog w) callerA (call (.ref f) [.ref a] []) R E s₁ := by
  obtain ⟨fa, X, e⟩ := txt_of T V
  rw [hmg] at e
  obtain rfl : f = fa 39 := by injection e with e; injection e
  obtain ⟨nd, np, id, fp, e1, es, ap, pos, rest, hb, o1, o2, o3, o4⟩ := law_split
  obtain ⟨o, ho, hc, n, hd⟩ := hL
  have lim' := lim_eq
  refine wpAny_mono (law_sound (N := 10) (fs := fsN) (Q := DealOk) (arg := LI ns) (S := fun a => s₁.heap.get? a) (G0 := fun a => s₁.heap.get? a) (F := fn39) (k := 39) (kd := 27) (x := 1) (me := .cons (.var 0) .nil) (ms := lawTail)
    X.gl X.hall (X.at_ 39 (by decide)) rfl good39 rfl hb o1 o2 o3 o4 (by decide) (by decide) ?_ (fun z xs h => c_law X h) ⟨rfl, by decide, by decide⟩ (fun _ _ e => e) (fun _ _ e => e)
    (.list ho hc hd (by rw [List.length_map]; omega) (reps_ints hI)) hR) (fun _ _ h => h) fun _ _ h => h.elim
  exact c_deal (N := 9) X hl
end Mine
end

section
open PySem PySem.W PyProof.Rows
set_option maxRecDepth 100000
set_option maxHeartbeats 8000000
namespace Mine
theorem good_end {ns : List Int} {s₀ s₁ : Shared} (hg : s₁.gens = #[]) {h' : Heap} {tk : Nat} (g : Grew s₁.heap h') :
    GoodWG PySem.Challenge.rw_nz0086_01.row.claim (classAt s₀.heap) (ExcName.means s₀.heap) [ofPy (PyData.list (List.map PyData.int ns))] s₁ (.ok (.ret (.bool true))) { s₁ with heap := h', toks := tk } := by
  refine GoodW.toG ⟨.inl ⟨.bool true, .bool true, [], rfl, fun _ => rfl, ?_, ?_, fun _ => ⟨.nil, fun a h => by cases h⟩⟩, fun b o e => g b o e, rfl, hg⟩
  · constructor
  · kernel_rfl
theorem names_ok : ((List.range 40).map fun k => (defAt (idxOf k)).name) = fsN := by decide +kernel
theorem view_of {p : Program} {loose : List Str} (h : recsOf p = (List.range 40).map fun k => defAt (idxOf k))
    (hf : ∀ x ∈ ([("len" : Str), "abs", "sum", "int", "range", "enumerate", "zip"] : List Str), x ∉ startupNames ∧ x ∉ loose ∧ x ∉ (recsOf p).map (·.name) ∧ x ∉ (litsOf p).map (·.1) ∧ x ∉ (clssOf p loose).map (·.name)) : ViewOk p loose := by
  refine ⟨fun k hk => ?_, ?_, hf⟩
  · rw [h, List.getElem?_map, List.getElem?_range hk]; rfl
  · rw [h, List.map_map]; exact names_ok
end Mine
end

set_option maxRecDepth 100000 in
set_option maxHeartbeats 8000000 in
theorem PySem.Challenge.cw_nz0086_01_holds : PySem.Challenge.rw_nz0086_01.Holds := by
  w_on
  refine holds_law Mine.headSaid fun said => ?_
  refine holds_open (q := Mine.headView) (loose := []) (Xt := fun s => xlAt Mine.headView [] s && recOk (RowW.records PySem.Challenge.rw_nz0086_01.row.toRowW) s) (XP := XL Mine.headView []) (Yf := Hook.none.obs) (Ya := Hook.none.val) (YP := Hook.none.says) (N := 3500) Mine.headLeft Hook.none.of Hook.none.keeps (fun s e => xl_of s (Bool.and_eq_true_iff.mp e).1) XL.keeps (by rfl) (by rfl) (by rfl) (fun s e => recFacts_of (Bool.and_eq_true_iff.mp e).2) (by rfl) (by first | assumption | decide +kernel) (by decide +kernel) ⟨rfl, rfl, rfl, rfl, rfl, by decide +kernel⟩ ?hw ?hc
  · w_witness2
  intro w s₀ s₁ mg mb G Y fa o pm cd doc dV kV ho hd hcd hD hmg hg args vals as hpre hlay hrd hwl hlo
  refine Ground.open G ?_
  intro T B D TE TW
  have hmg2 := hmg
  clear hmg hD hcd hd Y D B TE TW
  wrow_args hpre hlay hrd hwl hlo
  rename_i ns _ _ _ _ _ _ _ a vs _ hL _ _ _ hI _ hc _
  exact Mine.law_end T (Mine.view_of (by kernel_rfl) (by decide +kernel)) hmg2 hL hI (by omega) fun h' tk g => Mine.good_end hg g
